import PyProof.Rows.All
import Wide.All
import OpenK.AllK
import Wide.FinOn
import HandS.ForMost
import HandS.ForExc
import HandS.Wide
import HandS.Flow
import HandS.Zip
import HandS.IsInst
import HandS.Defaults
import HandS.TupAny
import HandS.DictComp
import HandS.Style
import HandS.Conv
import HandS.SortInts
import HandS.Set
import HandS.SetFor
import PyProof.Rows.SortShellAny
import HandS.Property
import HandS.MakeKw
import HandS.OwnEq
import HandS.More
import HandS.MakeKwOnly
import PyProof.InstNe
import KE.KStateDown
import HandS.Base
import HandS.Call
import HandS.Ends
import HandS.Head0
import HandS.Head1
import HandS.Head2
import HandS.HeadEnd
import HandS.HeadHook1
import HandS.HeadHook2
import HandS.HeadNt
import HandS.Text
import PyProof.ListStr
import PyProof.TupleOfStr
import KE.DataFind
import KE.GoesEnum
import KE.GoesMore
import PyProof.Rows.StrInSeq3
import HandS.List
import PyProof.StrOps2
import PySem.Challenge.RW_deepcuts_k76_paths_that_tell_all_others
section
set_option Elab.async false
set_option linter.all false
set_option maxRecDepth 100000
/-! DL: deep data over the hand layer -/
namespace DL
open PySem L2

/-- data: frozen things by their content, cells by their address -/
inductive D where
  | non | bl (b : Bool) | int (i : Int) | str (x : Str) | ty (n : String)
  | tup (ds : List D) | lst (ds : List D) | frl (ds : List D)
  | dct (ks : List Key) (ds : List D)
  | ins (C : Addr) (fs : List Str) (ds : List D)
  | cell (a : Addr)

/-- a tuple: laid, or of the written part -/
def SqU (K : PySem.W.Frag) (F : Hp) (a : Addr) (xs : List V) : Prop :=
  F a = some (.tup xs) ∨ ∃ (o : Obj) (its : Array Value) (n : Nat), K.lookup a = some o ∧ o.cls = .type "tuple" ∧ o.data = .seq its n ∧ its.size ≤ sizeLine ∧ Vals xs its.toList
mutual
def Is (K : PySem.W.Frag) (F : Hp) : D → V → Prop
  | .non, v => v = .non
  | .bl b, v => v = .bl b
  | .int i, v => v = .int i
  | .str x, v => v = .str x
  | .ty n, v => v = .ty n
  | .tup ds, v => ∃ a vs, v = .ref a ∧ SqU K F a vs ∧ IsL K F ds vs
  | .lst ds, v => ∃ a vs, v = .ref a ∧ F a = some (.lst vs) ∧ IsL K F ds vs
  | .frl ds, v => ∃ a vs, v = .ref a ∧ SqL K F a vs ∧ IsL K F ds vs
  | .dct ks ds, v => ∃ a vs od, v = .ref a ∧ F a = some (.frz od (.dK (ks.zip vs))) ∧ ks.length = ds.length ∧ IsL K F ds vs
  | .ins C fs ds, v => ∃ a dx vs, v = .ref a ∧ F a = some (.ins C dx (fs.zip vs)) ∧ fs.length = ds.length ∧ IsL K F ds vs
  | .cell a, v => v = .ref a
def IsL (K : PySem.W.Frag) (F : Hp) : List D → List V → Prop
  | [], vs => vs = []
  | d :: ds, vs => ∃ v r, vs = v :: r ∧ Is K F d v ∧ IsL K F ds r
end

section
variable {K : PySem.W.Frag} {F F' H H' : Hp}
theorem sqT_mono {a : Addr} {xs : List V} (e : Same F F') (h : SqU K F a xs) : SqU K F' a xs := by
  rcases h with h | h
  · exact .inl (e _ _ h)
  · exact .inr h
mutual
theorem Is.mono (e : Same F F') : ∀ (d : D) (v : V), Is K F d v → Is K F' d v
  | .non, _, h => by unfold Is at h ⊢; exact h
  | .bl _, _, h => by unfold Is at h ⊢; exact h
  | .int _, _, h => by unfold Is at h ⊢; exact h
  | .str _, _, h => by unfold Is at h ⊢; exact h
  | .ty _, _, h => by unfold Is at h ⊢; exact h
  | .cell _, _, h => by unfold Is at h ⊢; exact h
  | .tup ds, _, h => by
    unfold Is at h ⊢
    obtain ⟨a, vs, e1, h1, h2⟩ := h
    exact ⟨a, vs, e1, sqT_mono e h1, IsL.mono e ds vs h2⟩
  | .lst ds, _, h => by
    unfold Is at h ⊢
    obtain ⟨a, vs, e1, h1, h2⟩ := h
    exact ⟨a, vs, e1, e _ _ h1, IsL.mono e ds vs h2⟩
  | .frl ds, _, h => by
    unfold Is at h ⊢
    obtain ⟨a, vs, e1, h1, h2⟩ := h
    exact ⟨a, vs, e1, e.seq h1, IsL.mono e ds vs h2⟩
  | .dct ks ds, _, h => by
    unfold Is at h ⊢
    obtain ⟨a, vs, od, e1, h1, hl, h2⟩ := h
    exact ⟨a, vs, od, e1, e _ _ h1, hl, IsL.mono e ds vs h2⟩
  | .ins C fs ds, _, h => by
    unfold Is at h ⊢
    obtain ⟨a, dx, vs, e1, h1, hl, h2⟩ := h
    exact ⟨a, dx, vs, e1, e _ _ h1, hl, IsL.mono e ds vs h2⟩
theorem IsL.mono (e : Same F F') : ∀ (ds : List D) (vs : List V), IsL K F ds vs → IsL K F' ds vs
  | [], _, h => by unfold IsL at h ⊢; exact h
  | d :: ds, _, h => by
    unfold IsL at h ⊢
    obtain ⟨v, r, e1, h1, h2⟩ := h
    exact ⟨v, r, e1, Is.mono e d v h1, IsL.mono e ds r h2⟩
end
theorem is_non {v : V} : Is K F .non v ↔ v = .non := by unfold Is; exact Iff.rfl
theorem is_bl {b : Bool} {v : V} : Is K F (.bl b) v ↔ v = .bl b := by unfold Is; exact Iff.rfl
theorem is_int {i : Int} {v : V} : Is K F (.int i) v ↔ v = .int i := by unfold Is; exact Iff.rfl
theorem is_str {x : Str} {v : V} : Is K F (.str x) v ↔ v = .str x := by unfold Is; exact Iff.rfl
theorem is_ty {x : String} {v : V} : Is K F (.ty x) v ↔ v = .ty x := by unfold Is; exact Iff.rfl
theorem is_cell {a : Addr} {v : V} : Is K F (.cell a) v ↔ v = .ref a := by unfold Is; exact Iff.rfl
theorem is_tup {ds : List D} {v : V} : Is K F (.tup ds) v ↔ ∃ a vs, v = .ref a ∧ SqU K F a vs ∧ IsL K F ds vs := by unfold Is; exact Iff.rfl
theorem is_lst {ds : List D} {v : V} : Is K F (.lst ds) v ↔ ∃ a vs, v = .ref a ∧ F a = some (.lst vs) ∧ IsL K F ds vs := by unfold Is; exact Iff.rfl
theorem is_frl {ds : List D} {v : V} : Is K F (.frl ds) v ↔ ∃ a vs, v = .ref a ∧ SqL K F a vs ∧ IsL K F ds vs := by unfold Is; exact Iff.rfl
theorem is_dct {ks : List Key} {ds : List D} {v : V} : Is K F (.dct ks ds) v ↔ ∃ a vs od, v = .ref a ∧ F a = some (.frz od (.dK (ks.zip vs))) ∧ ks.length = ds.length ∧ IsL K F ds vs := by unfold Is; exact Iff.rfl
theorem is_ins {C : Addr} {fs : List Str} {ds : List D} {v : V} : Is K F (.ins C fs ds) v ↔ ∃ a dx vs, v = .ref a ∧ F a = some (.ins C dx (fs.zip vs)) ∧ fs.length = ds.length ∧ IsL K F ds vs := by unfold Is; exact Iff.rfl
theorem isL_nil {vs : List V} : IsL K F [] vs ↔ vs = [] := by unfold IsL; exact Iff.rfl
theorem isL_cons {d : D} {ds : List D} {vs : List V} : IsL K F (d :: ds) vs ↔ ∃ v r, vs = v :: r ∧ Is K F d v ∧ IsL K F ds r := by
  constructor
  · intro h; unfold IsL at h; exact h
  · intro h; unfold IsL; exact h
theorem IsL.nil : IsL K F [] [] := isL_nil.2 rfl
theorem IsL.cons {d : D} {ds : List D} {v : V} {vs : List V} (h : Is K F d v) (t : IsL K F ds vs) : IsL K F (d :: ds) (v :: vs) := isL_cons.2 ⟨v, vs, rfl, h, t⟩
theorem IsL.length : ∀ {ds : List D} {vs : List V}, IsL K F ds vs → ds.length = vs.length
  | [], _, h => by rw [isL_nil.1 h]; rfl
  | d :: ds, _, h => by
    obtain ⟨v, r, rfl, _, h2⟩ := isL_cons.1 h
    rw [List.length_cons, List.length_cons, IsL.length h2]
theorem IsL.app : ∀ {ds es : List D} {vs ws : List V}, IsL K F ds vs → IsL K F es ws → IsL K F (ds ++ es) (vs ++ ws)
  | [], _, _, _, h, h' => by rw [isL_nil.1 h]; exact h'
  | d :: ds, _, _, _, h, h' => by
    obtain ⟨v, r, rfl, h1, h2⟩ := isL_cons.1 h
    exact IsL.cons h1 (IsL.app h2 h')
theorem IsL.get : ∀ {ds : List D} {vs : List V} {i : Nat} {d : D}, IsL K F ds vs → ds[i]? = some d → ∃ v, vs[i]? = some v ∧ Is K F d v
  | [], _, _, _, _, e => by simp at e
  | d :: ds, _, 0, _, h, e => by
    obtain ⟨v, r, rfl, h1, h2⟩ := isL_cons.1 h
    simp at e
    subst e
    exact ⟨v, rfl, h1⟩
  | d :: ds, _, i + 1, _, h, e => by
    obtain ⟨v, r, rfl, h1, h2⟩ := isL_cons.1 h
    obtain ⟨u, hu, hi⟩ := IsL.get h2 (by simpa using e)
    exact ⟨u, by simpa using hu, hi⟩
theorem IsL.get' : ∀ {ds : List D} {vs : List V} {i : Nat} {v : V}, IsL K F ds vs → vs[i]? = some v → ∃ d, ds[i]? = some d ∧ Is K F d v
  | [], _, _, _, h, e => by rw [isL_nil.1 h] at e; simp at e
  | d :: ds, _, 0, _, h, e => by
    obtain ⟨v, r, rfl, h1, h2⟩ := isL_cons.1 h
    simp at e
    subst e
    exact ⟨d, rfl, h1⟩
  | d :: ds, _, i + 1, _, h, e => by
    obtain ⟨v, r, rfl, h1, h2⟩ := isL_cons.1 h
    obtain ⟨u, hu, hi⟩ := IsL.get' h2 (by simpa using e)
    exact ⟨u, by simpa using hu, hi⟩
theorem IsL.drop : ∀ {ds : List D} {vs : List V} (n : Nat), IsL K F ds vs → IsL K F (ds.drop n) (vs.drop n)
  | _, _, 0, h => h
  | [], _, n + 1, h => by rw [isL_nil.1 h]; exact IsL.nil
  | d :: ds, _, n + 1, h => by
    obtain ⟨v, r, rfl, h1, h2⟩ := isL_cons.1 h
    exact IsL.drop n h2
theorem IsL.take : ∀ {ds : List D} {vs : List V} (n : Nat), IsL K F ds vs → IsL K F (ds.take n) (vs.take n)
  | _, _, 0, h => IsL.nil
  | [], _, n + 1, h => by rw [isL_nil.1 h]; exact IsL.nil
  | d :: ds, _, n + 1, h => by
    obtain ⟨v, r, rfl, h1, h2⟩ := isL_cons.1 h
    exact IsL.cons h1 (IsL.take n h2)
theorem IsL.set : ∀ {ds : List D} {vs : List V} {d : D} {v : V} (i : Nat), IsL K F ds vs → Is K F d v → IsL K F (ds.set i d) (vs.set i v)
  | [], _, _, _, i, h, _ => by rw [isL_nil.1 h]; exact IsL.nil
  | d :: ds, _, _, _, 0, h, hn => by
    obtain ⟨v, r, rfl, h1, h2⟩ := isL_cons.1 h
    exact IsL.cons hn h2
  | d :: ds, _, _, _, i + 1, h, hn => by
    obtain ⟨v, r, rfl, h1, h2⟩ := isL_cons.1 h
    exact IsL.cons h1 (IsL.set i h2 hn)
theorem IsL.erase : ∀ {ds : List D} {vs : List V} (i : Nat), IsL K F ds vs → IsL K F (ds.eraseIdx i) (vs.eraseIdx i)
  | [], _, i, h => by rw [isL_nil.1 h]; exact IsL.nil
  | d :: ds, _, 0, h => by
    obtain ⟨v, r, rfl, h1, h2⟩ := isL_cons.1 h
    exact h2
  | d :: ds, _, i + 1, h => by
    obtain ⟨v, r, rfl, h1, h2⟩ := isL_cons.1 h
    exact IsL.cons h1 (IsL.erase i h2)
theorem IsL.dropLast : ∀ {ds : List D} {vs : List V}, IsL K F ds vs → IsL K F ds.dropLast vs.dropLast := by
  intro ds vs h
  rw [List.dropLast_eq_take, List.dropLast_eq_take, ← h.length]
  exact h.take _
theorem IsL.rev : ∀ {ds : List D} {vs : List V}, IsL K F ds vs → IsL K F ds.reverse vs.reverse
  | [], _, h => by rw [isL_nil.1 h]; exact IsL.nil
  | d :: ds, _, h => by
    obtain ⟨v, r, rfl, h1, h2⟩ := isL_cons.1 h
    rw [List.reverse_cons, List.reverse_cons]
    exact IsL.app (IsL.rev h2) (IsL.cons h1 IsL.nil)
theorem IsL.rep {ds : List D} {vs : List V} (h : IsL K F ds vs) : ∀ n : Nat, IsL K F (List.replicate n ds).flatten (List.replicate n vs).flatten
  | 0 => IsL.nil
  | n + 1 => by
    rw [List.replicate_succ, List.replicate_succ, List.flatten_cons, List.flatten_cons]
    exact IsL.app h (IsL.rep h n)
theorem IsL.ints : ∀ (ns : List Int) {vs : List V}, IsL K F (ns.map D.int) vs ↔ vs = ns.map V.int
  | [], vs => by rw [List.map_nil, List.map_nil]; exact isL_nil
  | n :: ns, vs => by
    rw [List.map_cons, List.map_cons, isL_cons]
    constructor
    · rintro ⟨v, r, rfl, h1, h2⟩
      rw [is_int.1 h1, (IsL.ints ns).1 h2]
    · rintro rfl
      exact ⟨_, _, rfl, is_int.2 rfl, (IsL.ints ns).2 rfl⟩
theorem IsL.strs : ∀ (ns : List Str) {vs : List V}, IsL K F (ns.map D.str) vs ↔ vs = ns.map V.str
  | [], vs => by rw [List.map_nil, List.map_nil]; exact isL_nil
  | n :: ns, vs => by
    rw [List.map_cons, List.map_cons, isL_cons]
    constructor
    · rintro ⟨v, r, rfl, h1, h2⟩
      rw [is_str.1 h1, (IsL.strs ns).1 h2]
    · rintro rfl
      exact ⟨_, _, rfl, is_str.2 rfl, (IsL.strs ns).2 rfl⟩
theorem IsL.bls : ∀ (ns : List Bool) {vs : List V}, IsL K F (ns.map D.bl) vs ↔ vs = ns.map V.bl
  | [], vs => by rw [List.map_nil, List.map_nil]; exact isL_nil
  | n :: ns, vs => by
    rw [List.map_cons, List.map_cons, isL_cons]
    constructor
    · rintro ⟨v, r, rfl, h1, h2⟩
      rw [is_bl.1 h1, (IsL.bls ns).1 h2]
    · rintro rfl
      exact ⟨_, _, rfl, is_bl.2 rfl, (IsL.bls ns).2 rfl⟩
end

/-! ### the store of cells -/
inductive MO where
  | lst (ds : List D)
  | ins (C : Addr) (fs : List Str) (ds : List D)
  | dct (ks : List Key) (ds : List D)
abbrev Store := Addr → Option MO
def mup (M : Store) (a : Addr) (m : MO) : Store := fun b => if b = a then some m else M b
def mdel (M : Store) (a : Addr) : Store := fun b => if b = a then none else M b
theorem mup_same {M : Store} {a : Addr} {m : MO} : mup M a m a = some m := by unfold mup; rw [if_pos rfl]
theorem mup_ne {M : Store} {a b : Addr} {m : MO} (h : b ≠ a) : mup M a m b = M b := by unfold mup; rw [if_neg h]
theorem mup_mup {M : Store} {a : Addr} {m n : MO} : mup (mup M a m) a n = mup M a n := by
  funext b; unfold mup; split <;> rfl
theorem mdel_same {M : Store} {a : Addr} : mdel M a a = none := by unfold mdel; rw [if_pos rfl]
theorem mdel_ne {M : Store} {a b : Addr} (h : b ≠ a) : mdel M a b = M b := by unfold mdel; rw [if_neg h]
theorem mdel_mup {M : Store} {a : Addr} {m : MO} (h : M a = none) : mdel (mup M a m) a = M := by
  funext b; unfold mdel mup
  by_cases e : b = a
  · rw [if_pos e, e, h]
  · rw [if_neg e, if_neg e]
theorem mup_comm {M : Store} {a b : Addr} {m n : MO} (h : a ≠ b) : mup (mup M a m) b n = mup (mup M b n) a m := by
  funext c; unfold mup
  by_cases e : c = b
  · rw [if_pos e, if_neg (fun z => h (z.symm.trans e)), if_pos e]
  · rw [if_neg e]
    by_cases e2 : c = a
    · rw [if_pos e2, if_pos e2]
    · rw [if_neg e2, if_neg e2, if_neg e]

def RepM (K : PySem.W.Frag) (F : Hp) : MO → HO → Prop
  | .lst ds, o => ∃ vs, o = .lst vs ∧ IsL K F ds vs
  | .ins C fs ds, o => ∃ dx vs, o = .ins C dx (fs.zip vs) ∧ fs.length = ds.length ∧ IsL K F ds vs
  | .dct ks ds, o => ∃ vs, o = .dK (ks.zip vs) ∧ ks.length = ds.length ∧ IsL K F ds vs
theorem RepM.mono {K : PySem.W.Frag} {F F' : Hp} (e : Same F F') : ∀ {m : MO} {o : HO}, RepM K F m o → RepM K F' m o
  | .lst ds, _, ⟨vs, e1, h⟩ => ⟨vs, e1, h.mono e⟩
  | .ins C fs ds, _, ⟨dx, vs, e1, l, h⟩ => ⟨dx, vs, e1, l, h.mono e⟩
  | .dct ks ds, _, ⟨vs, e1, l, h⟩ => ⟨vs, e1, l, h.mono e⟩

/-- the frozen heap lies in the heap (a dict may be locked) -/
def Sub (F H : Hp) : Prop := ∀ a o, F a = some o → H a = some o ∨ ∃ kvs ob, o = .dK kvs ∧ H a = some (.frz ob o)
structure Ok (K : PySem.W.Frag) (F : Hp) (M : Store) (H : Hp) : Prop where
  sub : Sub F H
  mem : ∀ a m, M a = some m → F a = none ∧ ∃ o, H a = some o ∧ RepM K F m o
structure Stp (F : Hp) (M : Store) (H : Hp) (F' : Hp) (M' : Store) (H' : Hp) : Prop where
  ext : Same F F'
  new : ∀ a o, F' a = some o → F a = some o ∨ H a = none ∨ M a ≠ none
  keep : ∀ a o, H a = some o → M a = none → H' a = some o
  dom : ∀ a, M a = none → H a ≠ none → M' a = none
  there : ∀ a, H a ≠ none → H' a ≠ none
section
variable {K : PySem.W.Frag} {F F1 F2 F' H H1 H2 H' : Hp} {M M1 M2 M' : Store}
theorem Stp.refl : Stp F M H F M H := ⟨Same.refl F, fun _ _ h => .inl h, fun _ _ h _ => h, fun _ h _ => h, fun _ h => h⟩
theorem Stp.trans (a : Stp F M H F1 M1 H1) (b : Stp F1 M1 H1 F2 M2 H2) : Stp F M H F2 M2 H2 where
  ext := a.ext.trans b.ext
  new := fun x o h => by
    rcases b.new x o h with h1 | h1 | h1
    · exact a.new x o h1
    · refine .inr (.inl ?_)
      cases e : H x with
      | none => rfl
      | some u => exact absurd h1 (a.there x (by rw [e]; simp))
    · refine .inr ?_
      cases e : H x with
      | none => exact .inl rfl
      | some u => exact .inr fun m => h1 (a.dom x m (by rw [e]; simp))
  keep := fun x o h m => b.keep x o (a.keep x o h m) (a.dom x m (by rw [h]; simp))
  dom := fun x m h => b.dom x (a.dom x m h) (a.there x h)
  there := fun x h => b.there x (a.there x h)
theorem Ok.lst (ok : Ok K F M H) {a : Addr} {vs : List V} (h : F a = some (.lst vs)) : H a = some (.lst vs) := by
  rcases ok.sub a _ h with e | ⟨_, _, e, _⟩
  · exact e
  · cases e
theorem Ok.ins (ok : Ok K F M H) {a C dx : Addr} {fs : List (Str × V)} (h : F a = some (.ins C dx fs)) : H a = some (.ins C dx fs) := by
  rcases ok.sub a _ h with e | ⟨_, _, e, _⟩
  · exact e
  · cases e
theorem Ok.frz (ok : Ok K F M H) {a : Addr} {od : Obj} {u : HO} (h : F a = some (.frz od u)) : H a = some (.frz od u) := by
  rcases ok.sub a _ h with e | ⟨_, ob, e, e2⟩
  · exact e
  · cases e
theorem Ok.rd (ok : Ok K F M H) {a : Addr} {od : Obj} {kvs : List (Key × V)} (h : F a = some (.frz od (.dK kvs))) : Rd H a (.dK kvs) := .inr ⟨od, ok.frz h⟩
theorem Ok.tup (ok : Ok K F M H) {a : Addr} {vs : List V} (h : F a = some (.tup vs)) : H a = some (.tup vs) := by
  rcases ok.sub a _ h with e | ⟨_, _, e, _⟩
  · exact e
  · cases e
theorem Ok.sqT (ok : Ok K F M H) {a : Addr} {vs : List V} (h : SqU K F a vs) : SqT K H a vs := by
  rcases h with h | h
  · exact .inl (.inl (ok.tup h))
  · exact .inr h
theorem Ok.sqL (ok : Ok K F M H) {a : Addr} {vs : List V} (h : SqL K F a vs) : SqL K H a vs := by
  rcases h with (h | ⟨o, h⟩) | h
  · rcases ok.sub a _ h with e | ⟨_, _, e, _⟩
    · exact .inl (.inl e)
    · cases e
  · rcases ok.sub a _ h with e | ⟨_, _, e, _⟩
    · exact .inl (.inr ⟨o, e⟩)
    · cases e
  · exact .inr h
theorem Ok.fresh (ok : Ok K F M H) {p : Addr} (h : H p = none) : F p = none ∧ M p = none := by
  constructor
  · cases e : F p with
    | none => rfl
    | some o =>
      rcases ok.sub p o e with q | ⟨_, _, _, q⟩
      · rw [h] at q; cases q
      · rw [h] at q; cases q
  · cases e : M p with
    | none => rfl
    | some m =>
      obtain ⟨_, o, q, _⟩ := ok.mem p m e
      rw [h] at q; cases q
theorem same_new {p : Addr} {o : HO} (h : F p = none) : Same F (upd F p o) := fun b x e => by
  rw [upd_ne (ne_of_none e h)]; exact e
/-- a new frozen object -/
theorem Ok.new (ok : Ok K F M H) {p : Addr} {o : HO} (h : H p = none) : Ok K (upd F p o) M (upd H p o) ∧ Stp F M H (upd F p o) M (upd H p o) := by
  obtain ⟨hF, hM⟩ := ok.fresh h
  refine ⟨⟨fun a u e => ?_, fun a m e => ?_⟩, ⟨same_new hF, fun a u e => ?_, fun a u e _ => ?_, fun _ m _ => m, fun a n => ?_⟩⟩
  · by_cases q : a = p
    · subst q; rw [upd_same] at e ⊢; exact .inl e
    · rw [upd_ne q] at e ⊢; exact ok.sub a u e
  · have q : a ≠ p := fun z => by rw [z, hM] at e; cases e
    obtain ⟨h1, u, h2, h3⟩ := ok.mem a m e
    exact ⟨by rw [upd_ne q]; exact h1, u, by rw [upd_ne q]; exact h2, h3.mono (same_new hF)⟩
  · by_cases q : a = p
    · subst q; exact .inr (.inl h)
    · rw [upd_ne q] at e; exact .inl e
  · rw [upd_ne (ne_of_none e h)]; exact e
  · by_cases q : a = p
    · subst q; exact absurd h n
    · rw [upd_ne q]; exact n
/-- a new cell -/
theorem Ok.cell (ok : Ok K F M H) {p : Addr} {o : HO} {m : MO} (h : H p = none) (r : RepM K F m o) : Ok K F (mup M p m) (upd H p o) ∧ Stp F M H F (mup M p m) (upd H p o) := by
  obtain ⟨hF, hM⟩ := ok.fresh h
  refine ⟨⟨fun a u e => ?_, fun a n e => ?_⟩, ⟨Same.refl F, fun a u e => .inl e, fun a u e _ => ?_, fun a q n => ?_, fun a n => ?_⟩⟩
  · have q : a ≠ p := fun z => by rw [z, hF] at e; cases e
    rw [upd_ne q]; exact ok.sub a u e
  · by_cases q : a = p
    · subst q; rw [mup_same] at e; cases e
      exact ⟨hF, o, upd_same, r⟩
    · rw [mup_ne q] at e
      obtain ⟨h1, u, h2, h3⟩ := ok.mem a n e
      exact ⟨h1, u, by rw [upd_ne q]; exact h2, h3⟩
  · rw [upd_ne (ne_of_none e h)]; exact e
  · have z : a ≠ p := fun z => n (by rw [z]; exact h)
    rw [mup_ne z]; exact q
  · by_cases q : a = p
    · subst q; exact absurd h n
    · rw [upd_ne q]; exact n
/-- a cell written -/
theorem Ok.write (ok : Ok K F M H) {p : Addr} {o : HO} {m m0 : MO} (h : M p = some m0) (r : RepM K F m o) : Ok K F (mup M p m) (upd H p o) ∧ Stp F M H F (mup M p m) (upd H p o) := by
  obtain ⟨hF, o0, hH, _⟩ := ok.mem p m0 h
  refine ⟨⟨fun a u e => ?_, fun a n e => ?_⟩, ⟨Same.refl F, fun a u e => .inl e, fun a u e q => ?_, fun a q n => ?_, fun a n => ?_⟩⟩
  · have q : a ≠ p := fun z => by rw [z, hF] at e; cases e
    rw [upd_ne q]; exact ok.sub a u e
  · by_cases q : a = p
    · subst q; rw [mup_same] at e; cases e
      exact ⟨hF, o, upd_same, r⟩
    · rw [mup_ne q] at e
      obtain ⟨h1, u, h2, h3⟩ := ok.mem a n e
      exact ⟨h1, u, by rw [upd_ne q]; exact h2, h3⟩
  · have z : a ≠ p := fun z => by rw [z, h] at q; cases q
    rw [upd_ne z]; exact e
  · have z : a ≠ p := fun z => by rw [z, h] at q; cases q
    rw [mup_ne z]; exact q
  · by_cases q : a = p
    · subst q; rw [upd_same]; simp
    · rw [upd_ne q]; exact n
/-- a cell dropped -/
theorem Ok.drop (ok : Ok K F M H) (p : Addr) : Ok K F (mdel M p) H ∧ Stp F M H F (mdel M p) H := by
  refine ⟨⟨ok.sub, fun a n e => ?_⟩, ⟨Same.refl F, fun a u e => .inl e, fun a u e q => e, fun a q n => ?_, fun a n => n⟩⟩
  · by_cases q : a = p
    · rw [q, mdel_same] at e; cases e
    · rw [mdel_ne q] at e; exact ok.mem a n e
  · by_cases z : a = p
    · rw [z, mdel_same]
    · rw [mdel_ne z]; exact q
end

/-! ### slots -/
abbrev DS := List (Option D)
def IsS (K : PySem.W.Frag) (F : Hp) (Δ : DS) (σ : L2.St) : Prop := Δ.length = σ.length ∧ ∀ (i : Nat) d, Δ[i]? = some (some d) → ∃ v, σ[i]? = some (some v) ∧ Is K F d v
theorem IsS.mono {K : PySem.W.Frag} {F F' : Hp} {Δ : DS} {σ : L2.St} (e : Same F F') (h : IsS K F Δ σ) : IsS K F' Δ σ := ⟨h.1, fun i d q => by
  obtain ⟨v, h1, h2⟩ := h.2 i d q
  exact ⟨v, h1, h2.mono e⟩⟩
theorem IsS.set {K : PySem.W.Frag} {F : Hp} {Δ : DS} {σ : L2.St} (h : IsS K F Δ σ) {d : D} {v : V} (i : Nat) (r : Is K F d v) : IsS K F (Δ.set i (some d)) (σ.set i (some v)) := by
  refine ⟨by rw [List.length_set, List.length_set]; exact h.1, fun j e q => ?_⟩
  by_cases z : j = i
  · subst z
    have hj : j < Δ.length := by
      by_cases hj : j < Δ.length
      · exact hj
      · rw [List.getElem?_eq_none (by rw [List.length_set]; omega)] at q; cases q
    rw [List.getElem?_set_self hj] at q
    cases q
    exact ⟨v, List.getElem?_set_self (by rw [← h.1]; exact hj), r⟩
  · rw [List.getElem?_set_ne (Ne.symm z)] at q ⊢
    exact h.2 j e q

/-! ### the judgements -/
def Sem (X : Cx) (e : Expr) : TE := fun σ H Q => ∀ pins s, Inv X pins σ H s → wpAny (model X.prog X.w) X.A (eval e X.env) (EP X pins σ Q) X.xe s
def SemT (X : Cx) (e : Expr) : TT := fun σ H Q => ∀ pins s, Inv X pins σ H s → wpAny (model X.prog X.w) X.A (isTrue e X.env (eval e X.env)) (TP X pins σ Q) X.xe s
def SemA (X : Cx) (es : List Expr) : TA := fun σ H Q => ∀ pos pins s, Inv X pins σ H s → wpAny (model X.prog X.w) X.A (spliced (backTo pos (starEach es X.env))) (AP X pins σ Q) X.xe s
def SemS (X : Cx) (st : Stmt) : TS := fun D σ H => ∀ pins s, Inv X pins σ H s → wpAny (model X.prog X.w) X.A (exec st X.env) (SP X pins D) X.xe s
def SemSs (X : Cx) (st : List Stmt) : TS := fun D σ H => ∀ pins s, Inv X pins σ H s → wpAny (model X.prog X.w) X.A (execs st X.env) (SP X pins D) X.xe s
def SemI (X : Cx) (tg e : Expr) : TI := fun σ H R => ∀ pins s, Inv X pins σ H s → wpAny (model X.prog X.w) X.A (eval e X.env) (fun v s1 => wpAny (model X.prog X.w) X.A (pyIter v) (PIE X pins σ tg R) X.xe s1) X.xe s
def SemG (X : Cx) (tg : Expr) : TG := fun v σ H Q => ∀ pins s u, Inv X pins σ H s → RelV v u → wpAny (model X.prog X.w) X.A (assign tg X.env u) (fun _ s' => ∃ σ' H', Inv X pins σ' H' s' ∧ Q σ' H') X.xe s
section
variable {X : Cx} {e : Expr} {es : List Expr} {st : Stmt} {sts : List Stmt} {tg : Expr} {σ : L2.St} {H : Hp}
theorem pe_sem : PE X e (Sem X e) := ⟨fun pins s _ _ _ I h => h pins s I⟩
theorem pt_sem : PT X e (SemT X e) := ⟨fun pins s _ _ _ I h => h pins s I⟩
theorem pa_sem : PA X es (SemA X es) := ⟨fun pos pins s _ _ _ I h => h pos pins s I⟩
theorem ps_sem : PS X st (SemS X st) := ⟨fun pins s _ _ _ I h => h pins s I⟩
theorem pss_sem : PSs X sts (SemSs X sts) := ⟨fun pins s _ _ _ I h => h pins s I⟩
theorem pi_sem : PI X tg e (SemI X tg e) := ⟨fun pins s _ _ _ I h => h pins s I⟩
theorem pg_sem : PG X tg (SemG X tg) := ⟨fun pins s _ _ _ u _ I r h => h pins s u I r⟩
theorem sem_of {t : TE} {Q : VK} (h : PE X e t) (q : t σ H Q) : Sem X e σ H Q := fun pins s I => h.run pins s σ H Q I q
theorem semT_of {t : TT} {Q : Bool → Hp → Prop} (h : PT X e t) (q : t σ H Q) : SemT X e σ H Q := fun pins s I => h.run pins s σ H Q I q
theorem semA_of {t : TA} {Q : List V → Hp → Prop} (h : PA X es t) (q : t σ H Q) : SemA X es σ H Q := fun pos pins s I => h.run pos pins s σ H Q I q
theorem semS_of {t : TS} {D : Ends} (h : PS X st t) (q : t D σ H) : SemS X st D σ H := fun pins s I => h.run pins s σ H D I q
theorem semSs_of {t : TS} {D : Ends} (h : PSs X sts t) (q : t D σ H) : SemSs X sts D σ H := fun pins s I => h.run pins s σ H D I q
theorem semI_of {t : TI} {R : It → Hp → Prop} (h : PI X tg e t) (q : t σ H R) : SemI X tg e σ H R := fun pins s I => h.run pins s σ H R I q
theorem semG_of {t : TG} {v : V} {Q : L2.St → Hp → Prop} (h : PG X tg t) (q : t v σ H Q) : SemG X tg v σ H Q := fun pins s u I r => h.run pins s σ H v u Q I r q
end

abbrev DK := D → Store → Prop
def Post (K : PySem.W.Frag) (F : Hp) (M : Store) (H : Hp) (k : DK) (Q : VK) : Prop := ∀ d M' F' H' v, k d M' → Stp F M H F' M' H' → Ok K F' M' H' → Is K F' d v → Q v H'
theorem Post.step {K : PySem.W.Frag} {F F1 H H1 : Hp} {M M1 : Store} {k : DK} {Q : VK} (p : Post K F M H k Q) (s : Stp F M H F1 M1 H1) : Post K F1 M1 H1 k Q := fun d M' F' H' v a b c e => p d M' F' H' v a (s.trans b) c e
def EvD (X : Cx) (e : Expr) (Δ : DS) (M : Store) (k : DK) : Prop := ∀ F H σ (Q : VK), IsS X.K F Δ σ → Ok X.K F M H → Post X.K F M H k Q → Sem X e σ H Q
abbrev BK := Bool → Store → Prop
def PostT (K : PySem.W.Frag) (F : Hp) (M : Store) (H : Hp) (k : BK) (Q : Bool → Hp → Prop) : Prop := ∀ b M' F' H', k b M' → Stp F M H F' M' H' → Ok K F' M' H' → Q b H'
def TeD (X : Cx) (e : Expr) (Δ : DS) (M : Store) (k : BK) : Prop := ∀ F H σ (Q : Bool → Hp → Prop), IsS X.K F Δ σ → Ok X.K F M H → PostT X.K F M H k Q → SemT X e σ H Q
abbrev AK := List D → Store → Prop
def PostA (K : PySem.W.Frag) (F : Hp) (M : Store) (H : Hp) (k : AK) (Q : List V → Hp → Prop) : Prop := ∀ ds M' F' H' vs, k ds M' → Stp F M H F' M' H' → Ok K F' M' H' → IsL K F' ds vs → Q vs H'
def EvA (X : Cx) (es : List Expr) (Δ : DS) (M : Store) (k : AK) : Prop := ∀ F H σ (Q : List V → Hp → Prop), IsS X.K F Δ σ → Ok X.K F M H → PostA X.K F M H k Q → SemA X es σ H Q
structure KS where
  nx : DS → Store → Prop
  rt : DK
  bk : DS → Store → Prop := fun _ _ => False
  ct : DS → Store → Prop := fun _ _ => False
structure PostS (K : PySem.W.Frag) (F : Hp) (M : Store) (H : Hp) (k : KS) (Q : Ends) : Prop where
  nx : ∀ Δ' M' F' H' σ', k.nx Δ' M' → Stp F M H F' M' H' → Ok K F' M' H' → IsS K F' Δ' σ' → Q.nx σ' H'
  rt : Post K F M H k.rt Q.rt
  bk : ∀ Δ' M' F' H' σ', k.bk Δ' M' → Stp F M H F' M' H' → Ok K F' M' H' → IsS K F' Δ' σ' → Q.bk σ' H'
  ct : ∀ Δ' M' F' H' σ', k.ct Δ' M' → Stp F M H F' M' H' → Ok K F' M' H' → IsS K F' Δ' σ' → Q.ct σ' H'
def StD (X : Cx) (st : Stmt) (Δ : DS) (M : Store) (k : KS) : Prop := ∀ F H σ (Q : Ends), IsS X.K F Δ σ → Ok X.K F M H → PostS X.K F M H k Q → SemS X st Q σ H
def SsD (X : Cx) (st : List Stmt) (Δ : DS) (M : Store) (k : KS) : Prop := ∀ F H σ (Q : Ends), IsS X.K F Δ σ → Ok X.K F M H → PostS X.K F M H k Q → SemSs X st Q σ H
theorem PostT.step {K : PySem.W.Frag} {F F1 H H1 : Hp} {M M1 : Store} {k : BK} {Q : Bool → Hp → Prop} (p : PostT K F M H k Q) (s : Stp F M H F1 M1 H1) : PostT K F1 M1 H1 k Q := fun d M' F' H' a b c => p d M' F' H' a (s.trans b) c
theorem PostA.step {K : PySem.W.Frag} {F F1 H H1 : Hp} {M M1 : Store} {k : AK} {Q : List V → Hp → Prop} (p : PostA K F M H k Q) (s : Stp F M H F1 M1 H1) : PostA K F1 M1 H1 k Q := fun d M' F' H' v a b c e => p d M' F' H' v a (s.trans b) c e
theorem PostS.step {K : PySem.W.Frag} {F F1 H H1 : Hp} {M M1 : Store} {k : KS} {Q : Ends} (p : PostS K F M H k Q) (s : Stp F M H F1 M1 H1) : PostS K F1 M1 H1 k Q :=
  ⟨fun d M' F' H' v a b c e => p.nx d M' F' H' v a (s.trans b) c e, p.rt.step s, fun d M' F' H' v a b c e => p.bk d M' F' H' v a (s.trans b) c e, fun d M' F' H' v a b c e => p.ct d M' F' H' v a (s.trans b) c e⟩
end DL
end
section
set_option Elab.async false
set_option linter.all false
set_option maxRecDepth 100000
namespace DL
open PySem L2
section
variable {X : Cx} {a b e : Expr} {es : List Expr} {Δ : DS} {M : Store} {k : DK} {pos : Pos}

/-! ### leaves -/
theorem ev_var {i : Nat} {x : Str} {d : D} (hN : X.N[i]? = some x) (hv : Vis X.env.scope x) (hd : (x == ("__debug__" : Str)) = false) (hcd : (x == ("__classdict__" : Str)) = false)
    (hi : Δ[i]? = some (some d)) (h : k d M) : EvD X (.Name x pos) Δ M k := fun F H σ Q hs ok post => by
  obtain ⟨v, h1, h2⟩ := hs.2 i d hi
  exact sem_of (pe_var hN hv hd hcd) ⟨v, h1, post d M F H v h Stp.refl ok h2⟩
theorem ev_c {v : V} {d : D} (hp : PE X e (tC v)) (hd : ∀ F, Is X.K F d v) (h : k d M) : EvD X e Δ M k := fun F H σ Q hs ok post =>
  sem_of hp (post d M F H v h Stp.refl ok (hd F))
theorem ev_int {i : Int} {j : Nat} (h : k (.int i) M) : EvD X (.Constant (.int i) j pos) Δ M k := ev_c pe_int (fun _ => is_int.2 rfl) h
theorem ev_bl {i : Bool} {j : Nat} (h : k (.bl i) M) : EvD X (.Constant (.bool i) j pos) Δ M k := ev_c pe_bl (fun _ => is_bl.2 rfl) h
theorem ev_non {j : Nat} (h : k .non M) : EvD X (.Constant .none j pos) Δ M k := ev_c pe_non (fun _ => is_non.2 rfl) h
theorem ev_str {x : Str} {j : Nat} (h : k (.str x) M) : EvD X (.Constant (.str x) j pos) Δ M k := ev_c pe_str (fun _ => is_str.2 rfl) h
theorem EvD.mono {k' : DK} (h : EvD X e Δ M k) (hk : ∀ d M', k d M' → k' d M') : EvD X e Δ M k' := fun F H σ Q hs ok post => h F H σ Q hs ok fun d M' F' H' v q => post d M' F' H' v (hk d M' q)

/-! ### two operands -/
def P2 (X : Cx) (r : R2) (d1 d2 : D) (M : Store) (k : DK) : Prop := ∀ F H x y Q, Ok X.K F M H → Is X.K F d1 x → Is X.K F d2 y → Post X.K F M H k Q → r x y H Q
def P1 (X : Cx) (r : V → Hp → VK → Prop) (d1 : D) (M : Store) (k : DK) : Prop := ∀ F H x Q, Ok X.K F M H → Is X.K F d1 x → Post X.K F M H k Q → r x H Q
theorem two {R : D → D → Store → Prop} (h : EvD X a Δ M fun d1 M1 => EvD X b Δ M1 fun d2 M2 => R d1 d2 M2) {F H : Hp} {σ : L2.St} (hs : IsS X.K F Δ σ) (ok : Ok X.K F M H) {T : V → V → Hp → Prop}
    (hT : ∀ d1 d2 M' F' H' x y, R d1 d2 M' → Stp F M H F' M' H' → Ok X.K F' M' H' → Is X.K F' d1 x → Is X.K F' d2 y → T x y H') : Sem X a σ H fun x H1 => Sem X b σ H1 fun y H2 => T x y H2 :=
  h F H σ _ hs ok fun d1 M1 F1 H1 x k1 st1 ok1 is1 => k1 F1 H1 σ _ (hs.mono st1.ext) ok1 fun d2 M2 F2 H2 y k2 st2 ok2 is2 =>
    hT d1 d2 M2 F2 H2 x y k2 (st1.trans st2) ok2 (is1.mono st2.ext) is2
theorem ev_op2 {op : Operator} {r : R2} (ho : OpR X (binaryOp op) r) (h : EvD X a Δ M fun d1 M1 => EvD X b Δ M1 fun d2 M2 => P2 X r d1 d2 M2 k) : EvD X (.BinOp a op b pos) Δ M k := fun F H σ Q hs ok post =>
  sem_of (pe_op ho pe_sem pe_sem) (two h hs ok fun d1 d2 M' F' H' x y p st ok' i1 i2 => p F' H' x y Q ok' i1 i2 (post.step st))
theorem ev_cmp2 {op : CmpOp} {r : R2} (ho : OpR X (compareOp op) r) (hm : behindInMarks op b = false) (h : EvD X a Δ M fun d1 M1 => EvD X b Δ M1 fun d2 M2 => P2 X r d1 d2 M2 k) : EvD X (.Compare a [op] [b] pos) Δ M k := fun F H σ Q hs ok post =>
  sem_of (pe_cmpR ho pe_sem pe_sem hm) (two h hs ok fun d1 d2 M' F' H' x y p st ok' i1 i2 => p F' H' x y Q ok' i1 i2 (post.step st))
theorem te_cmp2 {kb : BK} {op : CmpOp} {r : R2} (ho : OpR X (compareOp op) r) (hm : behindInMarks op b = false) (h : EvD X a Δ M fun d1 M1 => EvD X b Δ M1 fun d2 M2 => P2 X r d1 d2 M2 fun d M3 => ∃ c, d = .bl c ∧ kb c M3) : TeD X (.Compare a [op] [b] pos) Δ M kb := fun F H σ Q hs ok post =>
  semT_of (pt_cmpR ho pe_sem pe_sem hm) (two h hs ok fun d1 d2 M' F' H' x y p st ok' i1 i2 => p F' H' x y _ ok' i1 i2 fun d M2 F2 H2 v ⟨c, ed, kc⟩ st2 ok2 i => by
    subst ed
    exact ⟨c, is_bl.1 i, post c M2 F2 H2 kc (st.trans st2) ok2⟩)
theorem ev_un {op : UnaryOp} {r : V → Hp → VK → Prop} (ho : UnR X (unaryOp op) r) (h : EvD X a Δ M fun d1 M1 => P1 X r d1 M1 k) : EvD X (.UnaryOp op a pos) Δ M k := fun F H σ Q hs ok post =>
  sem_of (pe_un ho pe_sem) (h F H σ _ hs ok fun d1 M1 F1 H1 x p st ok' i1 => p F1 H1 x Q ok' i1 (post.step st))
theorem Post.here {K : PySem.W.Frag} {F : Hp} {M : Store} {H : Hp} {Q : VK} {d : D} {v : V} (p : Post K F M H k Q) (ok : Ok K F M H) (h : k d M) (i : Is K F d v) : Q v H := p d M F H v h Stp.refl ok i
theorem Post.fresh {K : PySem.W.Frag} {F : Hp} {M : Store} {H : Hp} {Q : VK} {d : D} {o : HO} (p : Post K F M H k Q) (ok : Ok K F M H) (h : k d M) {q : Addr} (hq : H q = none) (i : Is K (upd F q o) d (.ref q)) : Q (.ref q) (upd H q o) :=
  p d M _ _ _ h (ok.new hq).2 (ok.new hq).1 i
theorem IsL.up {K : PySem.W.Frag} {F : Hp} {ds : List D} {vs : List V} {q : Addr} {o : HO} (h : IsL K F ds vs) (hq : F q = none) : IsL K (upd F q o) ds vs := h.mono (same_new hq)
theorem lst_new {K : PySem.W.Frag} {F : Hp} {ds : List D} {vs : List V} {q : Addr} (h : IsL K F ds vs) (hq : F q = none) : Is K (upd F q (.lst vs)) (.lst ds) (.ref q) := is_lst.2 ⟨q, vs, rfl, upd_same, h.up hq⟩
theorem tup_new {K : PySem.W.Frag} {F : Hp} {ds : List D} {vs : List V} {q : Addr} (h : IsL K F ds vs) (hq : F q = none) : Is K (upd F q (.tup vs)) (.tup ds) (.ref q) := is_tup.2 ⟨q, vs, rfl, .inl upd_same, h.up hq⟩

/-! + -/
def AddP (d1 d2 : D) (M : Store) (k : DK) : Prop := match d1, d2 with
  | .int i, .int j => k (.int (i + j)) M
  | .str x, .str y => x.length + y.length ≤ sizeLine ∧ k (.str (x ++ y)) M
  | .lst xs, .lst ys => xs.length + ys.length ≤ sizeLine ∧ k (.lst (xs ++ ys)) M
  | .tup xs, .tup ys => xs.length + ys.length ≤ sizeLine ∧ k (.tup (xs ++ ys)) M
  | _, _ => False
theorem IsL.ne_nil {K : PySem.W.Frag} {F : Hp} {ds : List D} {vs : List V} (h : IsL K F ds vs) (n : ds ≠ []) : vs ≠ [] := fun e => by
  have l := h.length
  rw [e] at l
  exact n (List.length_eq_zero_iff.mp l)
def rAddA (K : PySem.W.Frag) : R2 := fun x y H Q => (rI0 fun i j => V.int (i + j)) x y H Q ∨ (∃ i j, x = .str i ∧ y = .str j ∧ i.length + j.length ≤ sizeLine ∧ Q (.str (i ++ j)) H) ∨ rCat x y H Q ∨ rCatA K x y H Q
theorem op_addA : OpR X (binaryOp .Add) (rAddA X.K) := op_add.or (op_add_str.or (op_cat.or op_catA))
theorem p2_add {d1 d2 : D} (h : AddP d1 d2 M k) : P2 X (rAddA X.K) d1 d2 M k := fun F H x y Q ok i1 i2 post => by
  unfold AddP at h
  split at h
  · exact .inl ⟨_, _, is_int.1 i1, is_int.1 i2, post.here ok h (is_int.2 rfl)⟩
  · exact .inr (.inl ⟨_, _, is_str.1 i1, is_str.1 i2, h.1, post.here ok h.2 (is_str.2 rfl)⟩)
  · obtain ⟨p, vs, e1, h1, l1⟩ := is_lst.1 i1
    obtain ⟨q, ws, e2, h2, l2⟩ := is_lst.1 i2
    refine .inr (.inr (.inl ⟨p, q, vs, ws, e1, e2, ok.lst h1, ok.lst h2, by rw [← l1.length, ← l2.length]; exact h.1, fun r hr => post.fresh ok h.2 hr (lst_new (l1.app l2) (ok.fresh hr).1)⟩))
  · rename_i xs ys
    obtain ⟨p, vs, e1, h1, l1⟩ := is_tup.1 i1
    obtain ⟨q, ws, e2, h2, l2⟩ := is_tup.1 i2
    refine .inr (.inr (.inr ⟨p, q, vs, ws, e1, e2, ok.sqT h1, ok.sqT h2, by rw [← l1.length, ← l2.length]; exact h.1, fun e => ?_, fun _ e => ?_, fun _ _ r hr => post.fresh ok h.2 hr (tup_new (l1.app l2) (ok.fresh hr).1)⟩))
    · subst e
      have z : xs = [] := List.length_eq_zero_iff.mp l1.length
      subst z
      exact post.here ok h.2 (is_tup.2 ⟨q, ws, rfl, h2, l2⟩)
    · subst e
      have z : ys = [] := List.length_eq_zero_iff.mp l2.length
      subst z
      refine post.here ok h.2 (is_tup.2 ⟨p, vs, rfl, h1, ?_⟩)
      rw [List.append_nil]
      exact l1
  · exact h.elim
theorem ev_add (h : EvD X a Δ M fun d1 M1 => EvD X b Δ M1 fun d2 M2 => AddP d1 d2 M2 k) : EvD X (.BinOp a .Add b pos) Δ M k :=
  ev_op2 op_addA (h.mono fun _ _ q => q.mono fun _ _ p => p2_add p)

/-! ints -/
def IntP (C : Int → Int → Prop) (g : Int → Int → D) (d1 d2 : D) (M : Store) (k : DK) : Prop := match d1, d2 with
  | .int i, .int j => C i j ∧ k (g i j) M
  | _, _ => False
theorem p2_int {C : Int → Int → Prop} {g : Int → Int → V} {gd : Int → Int → D} (hg : ∀ F i j, Is X.K F (gd i j) (g i j)) {d1 d2 : D} (h : IntP C gd d1 d2 M k) : P2 X (rI C g) d1 d2 M k := fun F H x y Q ok i1 i2 post => by
  unfold IntP at h
  split at h
  · exact ⟨_, _, is_int.1 i1, is_int.1 i2, h.1, post.here ok h.2 (hg _ _ _)⟩
  · exact h.elim
def NumP (g : Int → Int → D) (d1 d2 : D) (M : Store) (k : DK) : Prop := match d1, d2 with
  | .int i, .int j => k (g i j) M
  | _, _ => False
theorem p2_num {g : Int → Int → V} {gd : Int → Int → D} (hg : ∀ F i j, Is X.K F (gd i j) (g i j)) {d1 d2 : D} (h : NumP gd d1 d2 M k) : P2 X (rI0 g) d1 d2 M k := fun F H x y Q ok i1 i2 post => by
  unfold NumP at h
  split at h
  · exact ⟨_, _, is_int.1 i1, is_int.1 i2, post.here ok h (hg _ _ _)⟩
  · exact h.elim
theorem ev_sub (h : EvD X a Δ M fun d1 M1 => EvD X b Δ M1 fun d2 M2 => NumP (fun i j => .int (i - j)) d1 d2 M2 k) : EvD X (.BinOp a .Sub b pos) Δ M k :=
  ev_op2 op_sub (h.mono fun _ _ q => q.mono fun _ _ p => p2_num (fun _ _ _ => is_int.2 rfl) p)
theorem op_mulI : OpR X (binaryOp .Mult) (rI IntMulOk fun i j => .int (i * j)) := opI fun _ _ _ _ _ _ _ hc q => PyProof.Rows.mul_int q hc
def MulP (d1 d2 : D) (M : Store) (k : DK) : Prop := match d1, d2 with
  | .int i, .int j => IntMulOk i j ∧ k (.int (i * j)) M
  | .lst xs, .int j => (-(2 ^ 63) ≤ j ∧ j < 2 ^ 63 ∧ xs.length * j.toNat ≤ sizeLine) ∧ k (.lst (List.replicate j.toNat xs).flatten) M
  | _, _ => False
theorem p2_mul {d1 d2 : D} (h : MulP d1 d2 M k) : P2 X (fun x y H Q => rI IntMulOk (fun i j => .int (i * j)) x y H Q ∨ rRep x y H Q) d1 d2 M k := fun F H x y Q ok i1 i2 post => by
  unfold MulP at h
  split at h
  · exact .inl ⟨_, _, is_int.1 i1, is_int.1 i2, h.1, post.here ok h.2 (is_int.2 rfl)⟩
  · obtain ⟨p, vs, e1, h1, l1⟩ := is_lst.1 i1
    exact .inr ⟨p, _, vs, e1, is_int.1 i2, ok.lst h1, h.1.1, h.1.2.1, by rw [← l1.length]; exact h.1.2.2, fun r hr => post.fresh ok h.2 hr (lst_new (l1.rep _) (ok.fresh hr).1)⟩
  · exact h.elim
theorem ev_mul (h : EvD X a Δ M fun d1 M1 => EvD X b Δ M1 fun d2 M2 => MulP d1 d2 M2 k) : EvD X (.BinOp a .Mult b pos) Δ M k :=
  ev_op2 (op_mulI.or op_rep) (h.mono fun _ _ q => q.mono fun _ _ p => p2_mul p)
theorem ev_mod (h : EvD X a Δ M fun d1 M1 => EvD X b Δ M1 fun d2 M2 => IntP (fun _ j => 0 < j) (fun i j => .int (i % j)) d1 d2 M2 k) : EvD X (.BinOp a .Mod b pos) Δ M k :=
  ev_op2 op_mod (h.mono fun _ _ q => q.mono fun _ _ p => p2_int (fun _ _ _ => is_int.2 rfl) p)
theorem ev_fdiv (h : EvD X a Δ M fun d1 M1 => EvD X b Δ M1 fun d2 M2 => IntP CDivW (fun i j => .int (i / j)) d1 d2 M2 k) : EvD X (.BinOp a .FloorDiv b pos) Δ M k :=
  ev_op2 op_fdivW (h.mono fun _ _ q => q.mono fun _ _ p => p2_int (fun _ _ _ => is_int.2 rfl) p)
theorem ev_pow (h : EvD X a Δ M fun d1 M1 => EvD X b Δ M1 fun d2 M2 => IntP CPow (fun i j => .int (i ^ j.toNat)) d1 d2 M2 k) : EvD X (.BinOp a .Pow b pos) Δ M k :=
  ev_op2 op_pow (h.mono fun _ _ q => q.mono fun _ _ p => p2_int (fun _ _ _ => is_int.2 rfl) p)
def NegP (d1 : D) (M : Store) (k : DK) : Prop := match d1 with
  | .int i => k (.int (-i)) M
  | _ => False
theorem ev_neg (h : EvD X a Δ M fun d1 M1 => NegP d1 M1 k) : EvD X (.UnaryOp .USub a pos) Δ M k :=
  ev_un un_neg (h.mono fun d M1 p F H x Q ok i1 post => by
    unfold NegP at p
    split at p
    · exact ⟨_, is_int.1 i1, post.here ok p (is_int.2 rfl)⟩
    · exact p.elim)

/-! ### comparisons -/
def CmpP (g : Int → Int → Bool) (gs : List Nat → List Nat → Bool) (d1 d2 : D) (M : Store) (k : DK) : Prop := match d1, d2 with
  | .int i, .int j => k (.bl (g i j)) M
  | .str i, .str j => k (.bl (gs i.cps.toList j.cps.toList)) M
  | _, _ => False
theorem p2_cmp {g : Int → Int → Bool} {gs : List Nat → List Nat → Bool} {d1 d2 : D} (h : CmpP g gs d1 d2 M k) : P2 X (fun x y H Q => rI0 (fun i j => .bl (g i j)) x y H Q ∨ ∃ i j, x = .str i ∧ y = .str j ∧ Q (.bl (gs i.cps.toList j.cps.toList)) H) d1 d2 M k := fun F H x y Q ok i1 i2 post => by
  unfold CmpP at h
  split at h
  · exact .inl ⟨_, _, is_int.1 i1, is_int.1 i2, post.here ok h (is_bl.2 rfl)⟩
  · exact .inr ⟨_, _, is_str.1 i1, is_str.1 i2, post.here ok h (is_bl.2 rfl)⟩
  · exact h.elim
abbrev LtP := CmpP (fun i j => decide (i < j)) (fun i j => decide (i < j))
abbrev LeP := CmpP (fun i j => decide (i ≤ j)) (fun i j => !decide (j < i))
abbrev GtP := CmpP (fun i j => decide (j < i)) (fun i j => decide (j < i))
abbrev GeP := CmpP (fun i j => decide (j ≤ i)) (fun i j => !decide (i < j))
/-- what a comparison asks -/
def CoP (op : CmpOp) : D → D → Store → DK → Prop := match op with
  | .Lt => LtP | .LtE => LeP | .Gt => GtP | .GtE => GeP
  | _ => fun _ _ _ _ => False
def rCo (op : CmpOp) : R2 := match op with
  | .Lt => fun x y H Q => rI0 (fun i j => .bl (decide (i < j))) x y H Q ∨ ∃ i j, x = .str i ∧ y = .str j ∧ Q (.bl (decide (i.cps.toList < j.cps.toList))) H
  | .LtE => fun x y H Q => rI0 (fun i j => .bl (decide (i ≤ j))) x y H Q ∨ ∃ i j, x = .str i ∧ y = .str j ∧ Q (.bl (!decide (j.cps.toList < i.cps.toList))) H
  | .Gt => fun x y H Q => rI0 (fun i j => .bl (decide (j < i))) x y H Q ∨ ∃ i j, x = .str i ∧ y = .str j ∧ Q (.bl (decide (j.cps.toList < i.cps.toList))) H
  | .GtE => fun x y H Q => rI0 (fun i j => .bl (decide (j ≤ i))) x y H Q ∨ ∃ i j, x = .str i ∧ y = .str j ∧ Q (.bl (!decide (i.cps.toList < j.cps.toList))) H
  | _ => fun _ _ _ _ => False
theorem op_co {op : CmpOp} : OpR X (compareOp op) (rCo op) := by
  cases op with
  | Lt => exact op_lt.or op_lt_str
  | LtE => exact op_le.or op_le_str
  | Gt => exact op_gt.or op_gt_str
  | GtE => exact op_ge.or op_ge_str
  | _ => exact fun _ _ _ _ _ _ _ _ _ _ _ _ h => h.elim
theorem p2_co {op : CmpOp} {d1 d2 : D} (h : CoP op d1 d2 M k) : P2 X (rCo op) d1 d2 M k := by
  cases op with
  | Lt => exact p2_cmp (show LtP d1 d2 M k from h)
  | LtE => exact p2_cmp (show LeP d1 d2 M k from h)
  | Gt => exact p2_cmp (show GtP d1 d2 M k from h)
  | GtE => exact p2_cmp (show GeP d1 d2 M k from h)
  | _ => exact h.elim
theorem ev_cmp {op : CmpOp} (hm : behindInMarks op b = false) (h : EvD X a Δ M fun d1 M1 => EvD X b Δ M1 fun d2 M2 => CoP op d1 d2 M2 k) : EvD X (.Compare a [op] [b] pos) Δ M k :=
  ev_cmp2 op_co hm (h.mono fun _ _ q => q.mono fun _ _ p => p2_co p)
/-- a < b < c -/
theorem ev_chain {c : Expr} {op op' : CmpOp} (hm : lastMarks [op, op'] [b, c] = false)
    (h : EvD X a Δ M fun d1 M1 => EvD X b Δ M1 fun d2 M2 => CoP op d1 d2 M2 fun d M3 => ∃ z, d = .bl z ∧ if z = true then EvD X c Δ M3 (fun d3 M4 => CoP op' d2 d3 M4 k) else k (.bl false) M3) : EvD X (.Compare a [op, op'] [b, c] pos) Δ M k := fun F H σ Q hs ok post => by
  refine sem_of (pe_chain op_co op_co pe_sem pe_sem pe_sem hm) ?_
  refine two h hs ok fun d1 d2 M' F' H' x y p st ok' i1 i2 => p2_co p F' H' x y _ ok' i1 i2 fun d M2 F2 H2 v ⟨z, ed, kz⟩ st2 ok2 i => ?_
  subst ed
  refine ⟨z, is_bl.1 i, ?_⟩
  have st12 := st.trans st2
  cases z with
  | true =>
    rw [if_pos rfl] at kz ⊢
    exact kz F2 H2 σ _ (hs.mono st12.ext) ok2 fun d3 M3 F3 H3 u k3 st3 ok3 i3 => p2_co k3 F3 H3 y u Q ok3 (i2.mono (st2.ext.trans st3.ext)) i3 (post.step (st12.trans st3))
  | false =>
    rw [if_neg Bool.false_ne_true] at kz ⊢
    exact (post.step st12).here ok2 kz (is_bl.2 rfl)

/-! == and != of data -/
mutual
def toPy : D → Option PyData
  | .non => some .none
  | .bl b => some (.bool b)
  | .int i => some (.int i)
  | .str x => some (.str x)
  | .lst ds => (toPyL ds).map .list
  | .frl ds => (toPyL ds).map .list
  | .tup ds => (toPyL ds).map .tuple
  | _ => none
def toPyL : List D → Option (List PyData)
  | [] => some []
  | d :: ds => (toPy d).bind fun p => (toPyL ds).map fun ps => p :: ps
end
section
variable {K : PySem.W.Frag} {F H : Hp}
mutual
theorem dp_of (ok : Ok K F M H) : ∀ (d : D) (p : PyData) (v : V), toPy d = some p → Is K F d v → Dp K H v p
  | .non, p, v, e, i => by
    unfold toPy at e; cases e; rw [is_non.1 i]; exact .non
  | .bl _, p, v, e, i => by
    unfold toPy at e; cases e; rw [is_bl.1 i]; exact .bl _
  | .int _, p, v, e, i => by
    unfold toPy at e; cases e; rw [is_int.1 i]; exact .int _
  | .str _, p, v, e, i => by
    unfold toPy at e; cases e; rw [is_str.1 i]; exact .str _
  | .lst ds, p, v, e, i => by
    unfold toPy at e
    obtain ⟨ps, h1, h2⟩ := Option.map_eq_some_iff.mp e
    subst h2
    obtain ⟨a, vs, rfl, hF, hl⟩ := is_lst.1 i
    exact .lst (SqL.of (ok.lst hF)) (dpAll_of ok ds ps vs h1 hl)
  | .frl ds, p, v, e, i => by
    unfold toPy at e
    obtain ⟨ps, h1, h2⟩ := Option.map_eq_some_iff.mp e
    subst h2
    obtain ⟨a, vs, rfl, hF, hl⟩ := is_frl.1 i
    exact .lst (ok.sqL hF) (dpAll_of ok ds ps vs h1 hl)
  | .tup ds, p, v, e, i => by
    unfold toPy at e
    obtain ⟨ps, h1, h2⟩ := Option.map_eq_some_iff.mp e
    subst h2
    obtain ⟨a, vs, rfl, hF, hl⟩ := is_tup.1 i
    exact .tup (ok.sqT hF) (dpAll_of ok ds ps vs h1 hl)
  | .ty _, p, v, e, i => by unfold toPy at e; cases e
  | .dct _ _, p, v, e, i => by unfold toPy at e; cases e
  | .ins _ _ _, p, v, e, i => by unfold toPy at e; cases e
  | .cell _, p, v, e, i => by unfold toPy at e; cases e
theorem dpAll_of (ok : Ok K F M H) : ∀ (ds : List D) (ps : List PyData) (vs : List V), toPyL ds = some ps → IsL K F ds vs → DpAll K H vs ps
  | [], ps, vs, e, i => by
    unfold toPyL at e; cases e; rw [isL_nil.1 i]; exact .nil
  | d :: ds, ps, vs, e, i => by
    unfold toPyL at e
    obtain ⟨p, h1, h2⟩ := Option.bind_eq_some_iff.mp e
    obtain ⟨qs, h3, h4⟩ := Option.map_eq_some_iff.mp h2
    subst h4
    obtain ⟨v, r, rfl, i1, i2⟩ := isL_cons.1 i
    exact .cons (dp_of ok d p v h1 i1) (dpAll_of ok ds qs r h3 i2)
end
end
def EqP (neg : Bool) (d1 d2 : D) (M : Store) (k : DK) : Prop := ∃ p q, toPy d1 = some p ∧ toPy d2 = some q ∧ SeqAt.shaped p = true ∧ SeqAt.shaped q = true ∧ k (.bl (if neg then !PyData.eqv p q else PyData.eqv p q)) M
theorem ev_eq (hu : X.A.units + 64 < cLine) (h : EvD X a Δ M fun d1 M1 => EvD X b Δ M1 fun d2 M2 => EqP false d1 d2 M2 k) : EvD X (.Compare a [.Eq] [b] pos) Δ M k :=
  ev_cmp2 (op_eqD hu) (nomark _) (h.mono fun _ _ q => q.mono fun _ _ ⟨p, q, h1, h2, s1, s2, hk⟩ F H x y Q ok i1 i2 post => ⟨p, q, dp_of ok _ _ _ h1 i1, dp_of ok _ _ _ h2 i2, s1, s2, post.here ok hk (is_bl.2 rfl)⟩)
theorem ev_ne (hu : X.A.units + 64 < cLine) (h : EvD X a Δ M fun d1 M1 => EvD X b Δ M1 fun d2 M2 => EqP true d1 d2 M2 k) : EvD X (.Compare a [.NotEq] [b] pos) Δ M k :=
  ev_cmp2 (op_neD hu) (nomark _) (h.mono fun _ _ q => q.mono fun _ _ ⟨p, q, h1, h2, s1, s2, hk⟩ F H x y Q ok i1 i2 post => ⟨p, q, dp_of ok _ _ _ h1 i1, dp_of ok _ _ _ h2 i2, s1, s2, post.here ok hk (is_bl.2 rfl)⟩)
/-- scalars -/
def sc : D → Option V
  | .non => some .non | .bl b => some (.bl b) | .int i => some (.int i) | .str x => some (.str x)
  | _ => none
theorem sc_is {K : PySem.W.Frag} {F : Hp} {d : D} {v u : V} (h : sc d = some v) (i : Is K F d u) : u = v := by
  unfold sc at h
  split at h
  · cases h; exact is_non.1 i
  · cases h; exact is_bl.1 i
  · cases h; exact is_int.1 i
  · cases h; exact is_str.1 i
  · cases h
def EqS (neg : Bool) (d1 d2 : D) (M : Store) (k : DK) : Prop := ∃ x y, sc d1 = some x ∧ sc d2 = some y ∧ scal x y = true ∧ k (.bl (if neg then !decide (x = y) else decide (x = y))) M
theorem ev_eqS (h : EvD X a Δ M fun d1 M1 => EvD X b Δ M1 fun d2 M2 => EqS false d1 d2 M2 k) : EvD X (.Compare a [.Eq] [b] pos) Δ M k :=
  ev_cmp2 op_eq (nomark _) (h.mono fun _ _ q => q.mono fun _ _ ⟨x, y, h1, h2, s1, hk⟩ F H u w Q ok i1 i2 post => by
    rw [sc_is h1 i1, sc_is h2 i2]
    exact ⟨s1, post.here ok hk (is_bl.2 rfl)⟩)
theorem ev_neS (h : EvD X a Δ M fun d1 M1 => EvD X b Δ M1 fun d2 M2 => EqS true d1 d2 M2 k) : EvD X (.Compare a [.NotEq] [b] pos) Δ M k :=
  ev_cmp2 op_ne (nomark _) (h.mono fun _ _ q => q.mono fun _ _ ⟨x, y, h1, h2, s1, hk⟩ F H u w Q ok i1 i2 post => by
    rw [sc_is h1 i1, sc_is h2 i2]
    exact ⟨s1, post.here ok hk (is_bl.2 rfl)⟩)
/-- is None -/
def isNon : D → Bool
  | .non => true
  | _ => false
theorem isNon_of {K : PySem.W.Frag} {F : Hp} {d : D} {v : V} (i : Is K F d v) : decide (v = .non) = isNon d := by
  cases d with
  | non => rw [is_non.1 i]; rfl
  | bl b => rw [is_bl.1 i]; rfl
  | int b => rw [is_int.1 i]; rfl
  | str b => rw [is_str.1 i]; rfl
  | ty b => rw [is_ty.1 i]; rfl
  | cell b => rw [is_cell.1 i]; rfl
  | tup b => obtain ⟨_, _, rfl, _⟩ := is_tup.1 i; rfl
  | lst b => obtain ⟨_, _, rfl, _⟩ := is_lst.1 i; rfl
  | frl b => obtain ⟨_, _, rfl, _⟩ := is_frl.1 i; rfl
  | dct b c => obtain ⟨_, _, _, rfl, _⟩ := is_dct.1 i; rfl
  | ins b c z => obtain ⟨_, _, _, rfl, _⟩ := is_ins.1 i; rfl
theorem ev_isN {j : Nat} {p : Pos} (h : EvD X a Δ M fun d1 M1 => k (.bl (isNon d1)) M1) : EvD X (.Compare a [.Is] [.Constant .none j p] pos) Δ M k := fun F H σ Q hs ok post =>
  sem_of (pe_cmp (pc_isN pe_sem)) (h F H σ _ hs ok fun d M' F' H' v hk st ok' i => by
    rw [isNon_of i]
    exact (post.step st).here ok' hk (is_bl.2 rfl))
theorem ev_notN {j : Nat} {p : Pos} (h : EvD X a Δ M fun d1 M1 => k (.bl (!isNon d1)) M1) : EvD X (.Compare a [.IsNot] [.Constant .none j p] pos) Δ M k := fun F H σ Q hs ok post =>
  sem_of (pe_cmp (pc_notN pe_sem)) (h F H σ _ hs ok fun d M' F' H' v hk st ok' i => by
    rw [isNon_of i]
    exact (post.step st).here ok' hk (is_bl.2 rfl))
/-- in, not in: flat data in a sequence -/
def seqD (M : Store) : D → Option (List D)
  | .tup ds => some ds | .lst ds => some ds | .frl ds => some ds
  | .cell a => match M a with
    | some (.lst ds) => some ds
    | _ => none
  | _ => none
theorem seq_of {K : PySem.W.Frag} {F H : Hp} (ok : Ok K F M H) {d : D} {ds : List D} {v : V} (h : seqD M d = some ds) (i : Is K F d v) : ∃ a vs, v = .ref a ∧ (SqL K H a vs ∨ SqT K H a vs) ∧ IsL K F ds vs := by
  unfold seqD at h
  split at h
  · cases h; obtain ⟨a, vs, e, h1, h2⟩ := is_tup.1 i; exact ⟨a, vs, e, .inr (ok.sqT h1), h2⟩
  · cases h; obtain ⟨a, vs, e, h1, h2⟩ := is_lst.1 i; exact ⟨a, vs, e, .inl (SqL.of (ok.lst h1)), h2⟩
  · cases h; obtain ⟨a, vs, e, h1, h2⟩ := is_frl.1 i; exact ⟨a, vs, e, .inl (ok.sqL h1), h2⟩
  · rename_i a
    split at h
    · rename_i m xs e
      cases h
      obtain ⟨_, o, h1, vs, h2, h3⟩ := ok.mem a _ e
      subst h2
      exact ⟨a, vs, is_cell.1 i, .inl (SqL.of h1), h3⟩
    · cases h
  · cases h
def flatL : List D → Option (List V)
  | [] => some []
  | d :: ds => (sc d).bind fun v => (flatL ds).map fun vs => v :: vs
theorem flatL_of {K : PySem.W.Frag} {F : Hp} : ∀ {ds : List D} {vs us : List V}, flatL ds = some vs → IsL K F ds us → us = vs
  | [], _, _, h, i => by unfold flatL at h; cases h; exact isL_nil.1 i
  | d :: ds, _, _, h, i => by
    unfold flatL at h
    obtain ⟨p, h1, h2⟩ := Option.bind_eq_some_iff.mp h
    obtain ⟨qs, h3, h4⟩ := Option.map_eq_some_iff.mp h2
    subst h4
    obtain ⟨v, r, rfl, i1, i2⟩ := isL_cons.1 i
    rw [sc_is h1 i1, flatL_of h3 i2]
theorem flatV_sc {d : D} {v : V} (h : sc d = some v) : flatV v = true := by
  unfold sc at h
  split at h <;> cases h <;> rfl
theorem flatL_all : ∀ {ds : List D} {vs : List V}, flatL ds = some vs → vs.all flatV = true
  | [], _, h => by unfold flatL at h; cases h; rfl
  | d :: ds, _, h => by
    unfold flatL at h
    obtain ⟨p, h1, h2⟩ := Option.bind_eq_some_iff.mp h
    obtain ⟨qs, h3, h4⟩ := Option.map_eq_some_iff.mp h2
    subst h4
    rw [List.all_cons, flatV_sc h1, flatL_all h3]
    rfl
theorem flatL_strs (xs : List Str) : flatL (xs.map D.str) = some (xs.map V.str) := by
  induction xs with
  | nil => rfl
  | cons x xs ih => rw [List.map_cons, List.map_cons]; unfold flatL; rw [ih]; rfl
theorem flatL_ints (xs : List Int) : flatL (xs.map D.int) = some (xs.map V.int) := by
  induction xs with
  | nil => rfl
  | cons x xs ih => rw [List.map_cons, List.map_cons]; unfold flatL; rw [ih]; rfl
def InP (neg : Bool) (d1 d2 : D) (M : Store) (k : DK) : Prop := ∃ x ds vs, sc d1 = some x ∧ seqD M d2 = some ds ∧ flatL ds = some vs ∧ k (.bl (if neg then !inV x vs else inV x vs)) M
theorem ev_in (hm : behindInMarks .In b = false) (h : EvD X a Δ M fun d1 M1 => EvD X b Δ M1 fun d2 M2 => InP false d1 d2 M2 k) : EvD X (.Compare a [.In] [b] pos) Δ M k :=
  ev_cmp2 op_in_seq hm (h.mono fun _ _ q => q.mono fun d2 M2 ⟨x, ds, vs, h1, h2, h3, hk⟩ F H u w Q ok i1 i2 post => by
    obtain ⟨p, ws, e, hq, hl⟩ := seq_of ok h2 i2
    have ew := flatL_of h3 hl
    subst ew
    rw [sc_is h1 i1]
    exact ⟨p, ws, e, hq, flatV_sc h1, flatL_all h3, post.here ok hk (is_bl.2 rfl)⟩)
theorem ev_notin (hm : behindInMarks .NotIn b = false) (h : EvD X a Δ M fun d1 M1 => EvD X b Δ M1 fun d2 M2 => InP true d1 d2 M2 k) : EvD X (.Compare a [.NotIn] [b] pos) Δ M k :=
  ev_cmp2 op_notIn_seq hm (h.mono fun _ _ q => q.mono fun d2 M2 ⟨x, ds, vs, h1, h2, h3, hk⟩ F H u w Q ok i1 i2 post => by
    obtain ⟨p, ws, e, hq, hl⟩ := seq_of ok h2 i2
    have ew := flatL_of h3 hl
    subst ew
    rw [sc_is h1 i1]
    exact ⟨p, ws, e, hq, flatV_sc h1, flatL_all h3, post.here ok hk (is_bl.2 rfl)⟩)
end
end DL
end
section
set_option Elab.async false
set_option linter.all false
set_option maxRecDepth 100000
namespace DL
open PySem L2
section
variable {X : Cx} {a b e : Expr} {es rest : List Expr} {Δ : DS} {M : Store} {k : DK} {kb : BK} {pos : Pos}

/-! ### tests -/
theorem TeD.mono {k' : BK} (h : TeD X e Δ M kb) (hk : ∀ d M', kb d M' → k' d M') : TeD X e Δ M k' := fun F H σ Q hs ok post => h F H σ Q hs ok fun d M' F' H' q => post d M' F' H' (hk d M' q)
/-- an expression whose value is a bool -/
theorem te_val (he : ∀ whole, isTrue e X.env whole = (do let v ← whole; standAt e.pos; holding [v] (truthy v))) (h : EvD X e Δ M fun d M' => ∃ c, d = .bl c ∧ kb c M') : TeD X e Δ M kb := fun F H σ Q hs ok post =>
  semT_of (pt_val pe_sem he) (h F H σ _ hs ok fun d M' F' H' v ⟨c, ed, hk⟩ st ok' i => by
    subst ed
    exact ⟨c, is_bl.1 i, post c M' F' H' hk st ok'⟩)
theorem te_co {op : CmpOp} (hm : behindInMarks op b = false) (h : EvD X a Δ M fun d1 M1 => EvD X b Δ M1 fun d2 M2 => CoP op d1 d2 M2 fun d M3 => ∃ c, d = .bl c ∧ kb c M3) : TeD X (.Compare a [op] [b] pos) Δ M kb :=
  te_cmp2 op_co hm (h.mono fun _ _ q => q.mono fun _ _ p => p2_co p)
theorem te_eq (hu : X.A.units + 64 < cLine) (h : EvD X a Δ M fun d1 M1 => EvD X b Δ M1 fun d2 M2 => EqP false d1 d2 M2 fun d M3 => ∃ c, d = .bl c ∧ kb c M3) : TeD X (.Compare a [.Eq] [b] pos) Δ M kb :=
  te_cmp2 (op_eqD hu) (nomark _) (h.mono fun _ _ q => q.mono fun _ _ ⟨p, q, h1, h2, s1, s2, hk⟩ F H x y Q ok i1 i2 post => ⟨p, q, dp_of ok _ _ _ h1 i1, dp_of ok _ _ _ h2 i2, s1, s2, post.here ok hk (is_bl.2 rfl)⟩)
theorem te_ne (hu : X.A.units + 64 < cLine) (h : EvD X a Δ M fun d1 M1 => EvD X b Δ M1 fun d2 M2 => EqP true d1 d2 M2 fun d M3 => ∃ c, d = .bl c ∧ kb c M3) : TeD X (.Compare a [.NotEq] [b] pos) Δ M kb :=
  te_cmp2 (op_neD hu) (nomark _) (h.mono fun _ _ q => q.mono fun _ _ ⟨p, q, h1, h2, s1, s2, hk⟩ F H x y Q ok i1 i2 post => ⟨p, q, dp_of ok _ _ _ h1 i1, dp_of ok _ _ _ h2 i2, s1, s2, post.here ok hk (is_bl.2 rfl)⟩)
theorem te_eqS (h : EvD X a Δ M fun d1 M1 => EvD X b Δ M1 fun d2 M2 => EqS false d1 d2 M2 fun d M3 => ∃ c, d = .bl c ∧ kb c M3) : TeD X (.Compare a [.Eq] [b] pos) Δ M kb :=
  te_cmp2 op_eq (nomark _) (h.mono fun _ _ q => q.mono fun _ _ ⟨x, y, h1, h2, s1, hk⟩ F H u w Q ok i1 i2 post => by
    rw [sc_is h1 i1, sc_is h2 i2]
    exact ⟨s1, post.here ok hk (is_bl.2 rfl)⟩)
theorem te_neS (h : EvD X a Δ M fun d1 M1 => EvD X b Δ M1 fun d2 M2 => EqS true d1 d2 M2 fun d M3 => ∃ c, d = .bl c ∧ kb c M3) : TeD X (.Compare a [.NotEq] [b] pos) Δ M kb :=
  te_cmp2 op_ne (nomark _) (h.mono fun _ _ q => q.mono fun _ _ ⟨x, y, h1, h2, s1, hk⟩ F H u w Q ok i1 i2 post => by
    rw [sc_is h1 i1, sc_is h2 i2]
    exact ⟨s1, post.here ok hk (is_bl.2 rfl)⟩)
theorem te_isN {j : Nat} {p : Pos} (h : EvD X a Δ M fun d1 M1 => kb (isNon d1) M1) : TeD X (.Compare a [.Is] [.Constant .none j p] pos) Δ M kb := fun F H σ Q hs ok post =>
  semT_of (pt_cmp (pc_isN pe_sem)) (h F H σ _ hs ok fun d M' F' H' v hk st ok' i => by
    rw [isNon_of i]
    exact ⟨_, rfl, post _ M' F' H' hk st ok'⟩)
theorem te_notN {j : Nat} {p : Pos} (h : EvD X a Δ M fun d1 M1 => kb (!isNon d1) M1) : TeD X (.Compare a [.IsNot] [.Constant .none j p] pos) Δ M kb := fun F H σ Q hs ok post =>
  semT_of (pt_cmp (pc_notN pe_sem)) (h F H σ _ hs ok fun d M' F' H' v hk st ok' i => by
    rw [isNon_of i]
    exact ⟨_, rfl, post _ M' F' H' hk st ok'⟩)
theorem te_in (hm : behindInMarks .In b = false) (h : EvD X a Δ M fun d1 M1 => EvD X b Δ M1 fun d2 M2 => InP false d1 d2 M2 fun d M3 => ∃ c, d = .bl c ∧ kb c M3) : TeD X (.Compare a [.In] [b] pos) Δ M kb :=
  te_cmp2 op_in_seq hm (h.mono fun _ _ q => q.mono fun d2 M2 ⟨x, ds, vs, h1, h2, h3, hk⟩ F H u w Q ok i1 i2 post => by
    obtain ⟨p, ws, e, hq, hl⟩ := seq_of ok h2 i2
    have ew := flatL_of h3 hl
    subst ew
    rw [sc_is h1 i1]
    exact ⟨p, ws, e, hq, flatV_sc h1, flatL_all h3, post.here ok hk (is_bl.2 rfl)⟩)
theorem te_notin (hm : behindInMarks .NotIn b = false) (h : EvD X a Δ M fun d1 M1 => EvD X b Δ M1 fun d2 M2 => InP true d1 d2 M2 fun d M3 => ∃ c, d = .bl c ∧ kb c M3) : TeD X (.Compare a [.NotIn] [b] pos) Δ M kb :=
  te_cmp2 op_notIn_seq hm (h.mono fun _ _ q => q.mono fun d2 M2 ⟨x, ds, vs, h1, h2, h3, hk⟩ F H u w Q ok i1 i2 post => by
    obtain ⟨p, ws, e, hq, hl⟩ := seq_of ok h2 i2
    have ew := flatL_of h3 hl
    subst ew
    rw [sc_is h1 i1]
    exact ⟨p, ws, e, hq, flatV_sc h1, flatL_all h3, post.here ok hk (is_bl.2 rfl)⟩)
theorem te_not (h : TeD X a Δ M fun c M' => kb (!c) M') : TeD X (.UnaryOp .Not a pos) Δ M kb := fun F H σ Q hs ok post =>
  semT_of (pt_not pt_sem) (h F H σ _ hs ok fun d M' F' H' q st ok' => post _ M' F' H' q st ok')
/-- a chain of and, or: a test whatever its whole is -/
def SemW (X : Cx) (e : Expr) : TT := fun σ H Q => ∀ (whole : PySem.Sem Value) pins s, Inv X pins σ H s → wpAny (model X.prog X.w) X.A (isTrue e X.env whole) (TP X pins σ Q) X.xe s
theorem pw_sem : PW X e (SemW X e) := ⟨fun wh pins s _ _ _ I h => h wh pins s I⟩
theorem semW_of {t : TT} {σ : L2.St} {H : Hp} {Q : Bool → Hp → Prop} (h : PW X e t) (q : t σ H Q) : SemW X e σ H Q := fun wh pins s I => h.run wh pins s σ H Q I q
def WeD (X : Cx) (e : Expr) (Δ : DS) (M : Store) (k : BK) : Prop := ∀ F H σ (Q : Bool → Hp → Prop), IsS X.K F Δ σ → Ok X.K F M H → PostT X.K F M H k Q → SemW X e σ H Q
theorem te_w (h : WeD X e Δ M kb) : TeD X e Δ M kb := fun F H σ Q hs ok post => semT_of (PW.pt pw_sem) (h F H σ Q hs ok post)
theorem we_and1 (h : TeD X a Δ M kb) : WeD X (.BoolOp .And [a] pos) Δ M kb := fun F H σ Q hs ok post => semW_of (pw_and1 pt_sem) (h F H σ Q hs ok post)
theorem we_or1 (h : TeD X a Δ M kb) : WeD X (.BoolOp .Or [a] pos) Δ M kb := fun F H σ Q hs ok post => semW_of (pw_or1 pt_sem) (h F H σ Q hs ok post)
theorem we_and (h : TeD X a Δ M fun c M1 => if c = true then WeD X (.BoolOp .And (b :: rest) pos) Δ M1 kb else kb false M1) : WeD X (.BoolOp .And (a :: b :: rest) pos) Δ M kb := fun F H σ Q hs ok post =>
  semW_of (pw_and pt_sem pw_sem) (h F H σ _ hs ok fun c M' F' H' q st ok' => by
    cases c with
    | true => exact q F' H' σ Q (hs.mono st.ext) ok' (post.step st)
    | false => exact post _ M' F' H' q st ok')
theorem we_or (h : TeD X a Δ M fun c M1 => if c = true then kb true M1 else WeD X (.BoolOp .Or (b :: rest) pos) Δ M1 kb) : WeD X (.BoolOp .Or (a :: b :: rest) pos) Δ M kb := fun F H σ Q hs ok post =>
  semW_of (pw_or pt_sem pw_sem) (h F H σ _ hs ok fun c M' F' H' q st ok' => by
    cases c with
    | false => exact q F' H' σ Q (hs.mono st.ext) ok' (post.step st)
    | true => exact post _ M' F' H' q st ok')
/-- and, or, not as values (bools) -/
theorem ev_one {op} (h : EvD X a Δ M k) : EvD X (.BoolOp op [a] pos) Δ M k := fun F H σ Q hs ok post => sem_of (pe_one pe_sem) (h F H σ Q hs ok post)
theorem ev_and (h : EvD X a Δ M fun d M1 => ∃ c, d = .bl c ∧ if c = true then EvD X (.BoolOp .And (b :: rest) pos) Δ M1 k else k (.bl false) M1) : EvD X (.BoolOp .And (a :: b :: rest) pos) Δ M k := fun F H σ Q hs ok post =>
  sem_of (pe_and pe_sem pe_sem) (h F H σ _ hs ok fun d M' F' H' v ⟨c, ed, q⟩ st ok' i => by
    subst ed
    refine ⟨c, is_bl.1 i, ?_⟩
    cases c with
    | true => exact q F' H' σ Q (hs.mono st.ext) ok' (post.step st)
    | false => exact (post.step st).here ok' q (is_bl.2 rfl))
theorem ev_or (h : EvD X a Δ M fun d M1 => ∃ c, d = .bl c ∧ if c = true then k (.bl true) M1 else EvD X (.BoolOp .Or (b :: rest) pos) Δ M1 k) : EvD X (.BoolOp .Or (a :: b :: rest) pos) Δ M k := fun F H σ Q hs ok post =>
  sem_of (pe_or pe_sem pe_sem) (h F H σ _ hs ok fun d M' F' H' v ⟨c, ed, q⟩ st ok' i => by
    subst ed
    refine ⟨c, is_bl.1 i, ?_⟩
    cases c with
    | false => exact q F' H' σ Q (hs.mono st.ext) ok' (post.step st)
    | true => exact (post.step st).here ok' q (is_bl.2 rfl))
theorem ev_not (h : EvD X a Δ M fun d M1 => ∃ c, d = .bl c ∧ k (.bl (!c)) M1) : EvD X (.UnaryOp .Not a pos) Δ M k := fun F H σ Q hs ok post =>
  sem_of (pe_not pe_sem) (h F H σ _ hs ok fun d M' F' H' v ⟨c, ed, q⟩ st ok' i => by
    subst ed
    exact ⟨c, is_bl.1 i, (post.step st).here ok' q (is_bl.2 rfl)⟩)
/-- x or y by truth, x a sequence or a flat thing -/
def truD (M : Store) : D → Option Bool
  | .non => some false | .bl b => some b | .int i => some (i != 0)
  | .tup ds => some (!ds.isEmpty) | .lst ds => some (!ds.isEmpty) | .frl ds => some (!ds.isEmpty)
  | .cell a => match M a with
    | some (.lst ds) => some (!ds.isEmpty)
    | _ => none
  | _ => none
theorem IsL.isEmpty {K : PySem.W.Frag} {F : Hp} {ds : List D} {vs : List V} (h : IsL K F ds vs) : ds.isEmpty = vs.isEmpty := by
  have l := h.length
  cases ds <;> cases vs <;> simp at l ⊢
theorem tru_of {K : PySem.W.Frag} {F H : Hp} (ok : Ok K F M H) {d : D} {c : Bool} {v : V} (h : truD M d = some c) (i : Is K F d v) : TruV K v H c := by
  unfold truD at h
  split at h
  · cases h; rw [is_non.1 i]; rfl
  · cases h; rw [is_bl.1 i]; rfl
  · cases h; rw [is_int.1 i]; rfl
  · cases h; obtain ⟨p, vs, rfl, h1, h2⟩ := is_tup.1 i; exact .inr (.inl ⟨vs, ok.sqT h1, by rw [h2.isEmpty]⟩)
  · cases h; obtain ⟨p, vs, rfl, h1, h2⟩ := is_lst.1 i; exact .inl ⟨vs, SqL.of (ok.lst h1), by rw [h2.isEmpty]⟩
  · cases h; obtain ⟨p, vs, rfl, h1, h2⟩ := is_frl.1 i; exact .inl ⟨vs, ok.sqL h1, by rw [h2.isEmpty]⟩
  · rename_i p
    split at h
    · rename_i m xs e
      cases h
      obtain ⟨_, o, h1, vs, h2, h3⟩ := ok.mem p _ e
      subst h2
      rw [is_cell.1 i]
      exact .inl ⟨vs, SqL.of h1, by rw [h3.isEmpty]⟩
    · cases h
  · cases h
theorem ev_orT (h : EvD X a Δ M fun d M1 => ∃ c, truD M1 d = some c ∧ if c = true then k d M1 else EvD X (.BoolOp .Or (b :: rest) pos) Δ M1 k) : EvD X (.BoolOp .Or (a :: b :: rest) pos) Δ M k := fun F H σ Q hs ok post =>
  sem_of (pe_orT pe_sem pe_sem) (h F H σ _ hs ok fun d M' F' H' v ⟨c, ed, q⟩ st ok' i => by
    refine ⟨c, tru_of ok' ed i, ?_⟩
    cases c with
    | false => exact q F' H' σ Q (hs.mono st.ext) ok' (post.step st)
    | true => exact (post.step st).here ok' q i)
theorem te_truth (he : ∀ whole, isTrue a X.env whole = (do let v ← whole; standAt a.pos; holding [v] (truthy v))) (h : EvD X a Δ M fun d M1 => ∃ c, truD M1 d = some c ∧ kb c M1) : TeD X a Δ M kb := fun F H σ Q hs ok post =>
  semT_of (pt_truth pe_sem he) (h F H σ _ hs ok fun d M' F' H' v ⟨c, ed, q⟩ st ok' i => ⟨c, tru_of ok' ed i, post _ M' F' H' q st ok'⟩)
theorem ev_if {c : Expr} (h : TeD X c Δ M fun t M1 => if t = true then EvD X a Δ M1 k else EvD X b Δ M1 k) : EvD X (.IfExp c a b pos) Δ M k := fun F H σ Q hs ok post =>
  sem_of (pe_ifExp pt_sem pe_sem pe_sem) (h F H σ _ hs ok fun t M' F' H' q st ok' => by
    cases t with
    | true => exact q F' H' σ Q (hs.mono st.ext) ok' (post.step st)
    | false => exact q F' H' σ Q (hs.mono st.ext) ok' (post.step st))

/-! ### argument lists, displays -/
theorem ea_nil {ka : AK} (h : ka [] M) : EvA X [] Δ M ka := fun F H σ Q hs ok post => semA_of pa_nil (post [] M F H [] h Stp.refl ok IsL.nil)
theorem ea_cons {ka : AK} (h : EvD X e Δ M fun d M1 => EvA X es Δ M1 fun ds M2 => ka (d :: ds) M2) (hs : starEach (e :: es) X.env = (false, eval e X.env) :: starEach es X.env := by rfl) : EvA X (e :: es) Δ M ka := fun F H σ Q hS ok post =>
  semA_of (pa_cons pe_sem pa_sem hs) (h F H σ _ hS ok fun d M1 F1 H1 v q st1 ok1 i1 => q F1 H1 σ _ (hS.mono st1.ext) ok1 fun ds M2 F2 H2 vs q2 st2 ok2 i2 =>
    post (d :: ds) M2 F2 H2 (v :: vs) q2 (st1.trans st2) ok2 (IsL.cons (i1.mono st2.ext) i2))
theorem EvA.mono {ka kc : AK} (h : EvA X es Δ M ka) (hk : ∀ d M', ka d M' → kc d M') : EvA X es Δ M kc := fun F H σ Q hs ok post => h F H σ Q hs ok fun d M' F' H' v q => post d M' F' H' v (hk d M' q)
theorem ev_tup {x1} (h : EvA X es Δ M fun ds M1 => ds.length ≤ sizeLine ∧ k (.tup ds) M1) : EvD X (.Tuple es x1 pos) Δ M k := fun F H σ Q hs ok post =>
  sem_of (pe_tup pa_sem) (h F H σ _ hs ok fun ds M1 F1 H1 vs q st ok1 i => ⟨by rw [← i.length]; exact q.1, fun p hp => (post.step st).fresh ok1 q.2 hp (tup_new i (ok1.fresh hp).1)⟩)
/-- a fresh list: nobody else knows it -/
def PostL (K : PySem.W.Frag) (F : Hp) (M : Store) (H : Hp) (k : AK) (Q : VK) : Prop := ∀ ds M' F' H' q vs, k ds M' → Stp F M H F' M' H' → Ok K F' M' H' → F' q = none → M' q = none → H q = none → H' q = some (.lst vs) → IsL K F' ds vs → Q (.ref q) H'
def EvL (X : Cx) (e : Expr) (Δ : DS) (M : Store) (k : AK) : Prop := ∀ F H σ (Q : VK), IsS X.K F Δ σ → Ok X.K F M H → PostL X.K F M H k Q → Sem X e σ H Q
theorem EvL.frz (h : EvL X e Δ M fun ds M' => k (.lst ds) M') : EvD X e Δ M k := fun F H σ Q hs ok post => h F H σ Q hs ok fun ds M' F' H' q vs hk st ok' f m n hq i => by
  refine post (.lst ds) M' (upd F' q (.lst vs)) H' (.ref q) hk ⟨st.ext.trans (same_new f), fun x o e => ?_, st.keep, st.dom, st.there⟩ ⟨fun x o e => ?_, fun x m' e => ?_⟩ (lst_new i f)
  · by_cases z : x = q
    · subst z; exact .inr (.inl n)
    · rw [upd_ne z] at e; exact st.new x o e
  · by_cases z : x = q
    · subst z; rw [upd_same] at e; cases e; exact .inl hq
    · rw [upd_ne z] at e; exact ok'.sub x o e
  · obtain ⟨h1, o, h2, h3⟩ := ok'.mem x m' e
    have z : x ≠ q := fun z => by rw [z, m] at e; cases e
    exact ⟨by rw [upd_ne z]; exact h1, o, h2, h3.mono (same_new f)⟩
theorem EvL.cell (h : EvL X e Δ M fun ds M' => ∀ p, M' p = none → k (.cell p) (mup M' p (.lst ds))) : EvD X e Δ M k := fun F H σ Q hs ok post => h F H σ Q hs ok fun ds M' F' H' q vs hk st ok' f m n hq i => by
  refine post (.cell q) (mup M' q (.lst ds)) F' H' (.ref q) (hk q m) ⟨st.ext, st.new, st.keep, fun x e z => ?_, st.there⟩ ⟨ok'.sub, fun x m' e => ?_⟩ (is_cell.2 rfl)
  · have z' : x ≠ q := fun w => z (by rw [w]; exact n)
    rw [mup_ne z']; exact st.dom x e z
  · by_cases z : x = q
    · subst z; rw [mup_same] at e; cases e; exact ⟨f, _, hq, vs, rfl, i⟩
    · rw [mup_ne z] at e; exact ok'.mem x m' e
theorem PostL.new {K : PySem.W.Frag} {F F1 : Hp} {M M1 : Store} {H H1 : Hp} {ka : AK} {Q : VK} {ds : List D} {vs : List V} (p : PostL K F M H ka Q) (st : Stp F M H F1 M1 H1) (ok : Ok K F1 M1 H1) (hk : ka ds M1) {q : Addr} (hq : H1 q = none) (i : IsL K F1 ds vs) : Q (.ref q) (upd H1 q (.lst vs)) := by
  have hn : H q = none := by
    cases z : H q with
    | none => rfl
    | some o => exact absurd hq (st.there q (by rw [z]; simp))
  refine p ds M1 F1 (upd H1 q (.lst vs)) q vs hk ⟨st.ext, st.new, fun x o e m => ?_, st.dom, fun x n => ?_⟩ ⟨fun x o e => ?_, fun x m e => ?_⟩ (ok.fresh hq).1 (ok.fresh hq).2 hn upd_same i
  · rw [upd_ne (ne_of_none e hn)]; exact st.keep x o e m
  · by_cases z : x = q
    · subst z; rw [upd_same]; simp
    · rw [upd_ne z]; exact st.there x n
  · have z : x ≠ q := fun z => by rw [z, (ok.fresh hq).1] at e; cases e
    rw [upd_ne z]; exact ok.sub x o e
  · have z : x ≠ q := fun z => by rw [z, (ok.fresh hq).2] at e; cases e
    obtain ⟨h1, o, h2, h3⟩ := ok.mem x m e
    exact ⟨h1, o, by rw [upd_ne z]; exact h2, h3⟩
theorem el_lst {ka : AK} (h : EvA X es Δ M fun ds M1 => ds.length ≤ sizeLine ∧ ka ds M1) : EvL X (.List es pos) Δ M ka := fun F H σ Q hs ok post =>
  sem_of (pe_lst pa_sem) (h F H σ _ hs ok fun ds M1 F1 H1 vs q st ok1 i => ⟨by rw [← i.length]; exact q.1, fun p hp => post.new st ok1 q.2 hp i⟩)

/-! ### items and slices -/
def strOf : D → Option Str
  | .str z => some z
  | _ => none
theorem strOf_is {K : PySem.W.Frag} {F : Hp} {d : D} {z : Str} {v : V} (h : strOf d = some z) (i : Is K F d v) : v = .str z := by
  unfold strOf at h
  split at h
  · cases h; exact is_str.1 i
  · cases h
def tupOf : D → Option (List D)
  | .tup z => some z
  | _ => none
theorem tupOf_is {d : D} {z : List D} (h : tupOf d = some z) : d = .tup z := by
  unfold tupOf at h
  split at h
  · cases h; rfl
  · cases h
/-- lists -/
def lsD (M : Store) : D → Option (List D)
  | .lst ds => some ds | .frl ds => some ds
  | .cell a => match M a with
    | some (.lst ds) => some ds
    | _ => none
  | _ => none
theorem ls_of {K : PySem.W.Frag} {F H : Hp} (ok : Ok K F M H) {d : D} {ds : List D} {v : V} (h : lsD M d = some ds) (i : Is K F d v) : ∃ a vs, v = .ref a ∧ SqL K H a vs ∧ IsL K F ds vs := by
  unfold lsD at h
  split at h
  · cases h; obtain ⟨a, vs, e, h1, h2⟩ := is_lst.1 i; exact ⟨a, vs, e, SqL.of (ok.lst h1), h2⟩
  · cases h; obtain ⟨a, vs, e, h1, h2⟩ := is_frl.1 i; exact ⟨a, vs, e, ok.sqL h1, h2⟩
  · rename_i a
    split at h
    · rename_i m xs e
      cases h
      obtain ⟨_, o, h1, vs, h2, h3⟩ := ok.mem a _ e
      subst h2
      exact ⟨a, vs, is_cell.1 i, SqL.of h1, h3⟩
    · cases h
  · cases h
def atD (M : Store) (d : D) (i : Int) : Option D := match strOf d with
  | some z => if z.length ≤ sizeLine then (atI z.cps.toList i).map fun c => .str ⟨#[c]⟩ else none
  | none => (seqD M d).bind fun ds => atI ds i
theorem atI_is {K : PySem.W.Frag} {F : Hp} {ds : List D} {vs : List V} {i : Int} {d : D} (h : IsL K F ds vs) (e : atI ds i = some d) : ∃ v, atI vs i = some v ∧ Is K F d v := by
  unfold atI at e ⊢
  rw [← h.length]
  obtain ⟨j, h1, h2⟩ := Option.bind_eq_some_iff.mp e
  obtain ⟨v, h3, h4⟩ := h.get h2
  exact ⟨v, Option.bind_eq_some_iff.mpr ⟨j, h1, h3⟩, h4⟩
theorem ev_ix (hs : PlainIx b) (h : EvD X a Δ M fun d1 M1 => EvD X b Δ M1 fun d2 M2 => ∃ i r, d2 = .int i ∧ atD M2 d1 i = some r ∧ k r M2) : EvD X (.Subscript a b pos) Δ M k := fun F H σ Q hS ok post =>
  sem_of (pe_ix ix_seq pe_sem pe_sem hs) (two h hS ok fun d1 d2 M' F' H' x y ⟨i, r, e, ha, hk⟩ st ok' i1 i2 => by
    subst e
    unfold atD at ha
    cases hz : strOf d1 with
    | some z =>
      rw [hz] at ha
      dsimp only at ha
      split at ha
      · rename_i hl
        obtain ⟨c, h1, h2⟩ := Option.map_eq_some_iff.mp ha
        subst h2
        exact .inr (.inr ⟨z, i, c, strOf_is hz i1, is_int.1 i2, hl, h1, (post.step st).here ok' hk (is_str.2 rfl)⟩)
      · cases ha
    | none =>
      rw [hz] at ha
      dsimp only at ha
      obtain ⟨ds, h1, h2⟩ := Option.bind_eq_some_iff.mp ha
      obtain ⟨p, vs, e, hq, hl⟩ := seq_of ok' h1 i1
      obtain ⟨v, h3, h4⟩ := atI_is hl h2
      have q := (post.step st).here ok' hk h4
      rcases hq with hq | hq
      · exact .inl ⟨p, vs, i, v, e, is_int.1 i2, hq, h3, q⟩
      · exact .inr (.inl ⟨p, vs, i, v, e, is_int.1 i2, hq, h3, q⟩))
def cutD (ds : List D) (lo hi : Option Int) : List D := (ds.drop (HT.sIx ds.length 0 lo)).take (HT.sIx ds.length ds.length hi - HT.sIx ds.length 0 lo)
theorem cut_is {K : PySem.W.Frag} {F : Hp} {ds : List D} {vs : List V} {lo hi : Option Int} (h : IsL K F ds vs) : IsL K F (cutD ds lo hi) (cutV vs lo hi) := by
  unfold cutD cutV
  rw [← h.length]
  exact (h.drop _).take _
def SlP (d : D) (lo hi : Option Int) (M : Store) (k : DK) : Prop := match strOf d, tupOf d with
  | some z, _ => z.length ≤ sizeLine ∧ k (.str (cutS z lo hi)) M
  | none, some ds => k (.tup (cutD ds lo hi)) M
  | none, none => ∃ ds, lsD M d = some ds ∧ k (.lst (cutD ds lo hi)) M
def rSlAll (K : PySem.W.Frag) : V → Option Int → Option Int → Hp → VK → Prop := fun x lo hi H Q => rSlL K x lo hi H Q ∨ rSlA K x lo hi H Q ∨ ∃ z, x = .str z ∧ z.length ≤ sizeLine ∧ Q (.str (cutS z lo hi)) H
theorem sl_all : SlR X (rSlAll X.K) := sl_list.or (sl_tupA.or sl_str)
theorem p_sl {F H : Hp} {d : D} {lo hi : Option Int} {x : V} {Q : VK} (h : SlP d lo hi M k) (ok : Ok X.K F M H) (i : Is X.K F d x) (post : Post X.K F M H k Q) : rSlAll X.K x lo hi H Q := by
  unfold SlP at h
  split at h
  · rename_i z e
    exact .inr (.inr ⟨_, strOf_is (by assumption) i, h.1, post.here ok h.2 (is_str.2 rfl)⟩)
  · rename_i ds e1 e2
    have e := tupOf_is e2
    subst e
    obtain ⟨p, vs, e, hq, hl⟩ := is_tup.1 i
    refine .inr (.inl ⟨p, vs, e, ok.sqT hq, fun hw => ?_, fun _ q hq' => post.fresh ok h hq' (tup_new (cut_is hl) (ok.fresh hq').1)⟩)
    have ec : cutD ds lo hi = ds := by
      unfold cutD
      rw [hl.length, hw.1, hw.2, List.drop_zero, Nat.sub_zero, ← hl.length, List.take_length]
    rw [ec] at h
    exact post.here ok h (is_tup.2 ⟨p, vs, rfl, hq, hl⟩)
  · obtain ⟨ds, h1, hk⟩ := h
    obtain ⟨p, vs, e, hq, hl⟩ := ls_of ok h1 i
    exact .inl ⟨p, vs, e, hq, fun q hq' => post.fresh ok hk hq' (lst_new (cut_is hl) (ok.fresh hq').1)⟩
theorem ev_sl00 {p2 : Pos} (h : EvD X a Δ M fun d M1 => SlP d none none M1 k) : EvD X (.Subscript a (.Slice none none none p2) pos) Δ M k := fun F H σ Q hs ok post =>
  sem_of (pe_slice sl_all pe_sem po_none po_none) (h F H σ _ hs ok fun d M1 F1 H1 v q st ok1 i => p_sl q ok1 i (post.step st))
theorem ev_sl10 {p2 : Pos} (h : EvD X a Δ M fun d M1 => EvD X b Δ M1 fun d2 M2 => ∃ i, d2 = .int i ∧ SlP d (some i) none M2 k) : EvD X (.Subscript a (.Slice (some b) none none p2) pos) Δ M k := fun F H σ Q hs ok post =>
  sem_of (pe_slice sl_all pe_sem (po_some pe_sem) po_none) (two h hs ok fun d1 d2 M' F' H' x y ⟨i, e, q⟩ st ok' i1 i2 => by
    subst e
    exact ⟨i, is_int.1 i2, p_sl q ok' i1 (post.step st)⟩)
theorem ev_sl01 {p2 : Pos} (h : EvD X a Δ M fun d M1 => EvD X b Δ M1 fun d2 M2 => ∃ i, d2 = .int i ∧ SlP d none (some i) M2 k) : EvD X (.Subscript a (.Slice none (some b) none p2) pos) Δ M k := fun F H σ Q hs ok post =>
  sem_of (pe_slice sl_all pe_sem po_none (po_some pe_sem)) (two h hs ok fun d1 d2 M' F' H' x y ⟨i, e, q⟩ st ok' i1 i2 => by
    subst e
    exact ⟨i, is_int.1 i2, p_sl q ok' i1 (post.step st)⟩)
theorem ev_sl11 {c : Expr} {p2 : Pos} (h : EvD X a Δ M fun d M1 => EvD X b Δ M1 fun d2 M2 => ∃ i, d2 = .int i ∧ EvD X c Δ M2 fun d3 M3 => ∃ j, d3 = .int j ∧ SlP d (some i) (some j) M3 k) : EvD X (.Subscript a (.Slice (some b) (some c) none p2) pos) Δ M k := fun F H σ Q hs ok post =>
  sem_of (pe_slice sl_all pe_sem (po_some pe_sem) (po_some pe_sem)) (two h hs ok fun d1 d2 M' F' H' x y ⟨i, e, q⟩ st ok' i1 i2 => by
    subst e
    exact ⟨i, is_int.1 i2, q F' H' σ _ (hs.mono st.ext) ok' fun d3 M3 F3 H3 u ⟨j, e3, q3⟩ st3 ok3 i3 => by
      subst e3
      exact ⟨j, is_int.1 i3, p_sl q3 ok3 (i1.mono st3.ext) (post.step (st.trans st3))⟩⟩)
/-- x[::-1] of a list -/
theorem el_rev {ka : AK} {j : Nat} {p1 p2 p3 : Pos} (h : EvD X a Δ M fun d M1 => ∃ ds, lsD M1 d = some ds ∧ ka ds.reverse M1) : EvL X (.Subscript a (.Slice none none (some (.UnaryOp .USub (.Constant (.int 1) j p1) p2)) p3) pos) Δ M ka := fun F H σ Q hs ok post =>
  sem_of (pe_revL pe_sem) (h F H σ _ hs ok fun d M1 F1 H1 v ⟨ds, h1, hk⟩ st ok1 i => by
    obtain ⟨p, vs, e, hq, hl⟩ := ls_of ok1 h1 i
    exact ⟨p, vs, e, hq, fun q hq' => post.new st ok1 hk hq' hl.rev⟩)

/-! ### built-ins by name -/
def PB (X : Cx) (r : List V → Hp → VK → Prop) (ds : List D) (M : Store) (k : DK) : Prop := ∀ F H vs Q, Ok X.K F M H → IsL X.K F ds vs → Post X.K F M H k Q → r vs H Q
def PBL (X : Cx) (r : List V → Hp → VK → Prop) (ds : List D) (M : Store) (k : AK) : Prop := ∀ F0 M0 H0 F H vs Q, Stp F0 M0 H0 F M H → Ok X.K F M H → IsL X.K F ds vs → PostL X.K F0 M0 H0 k Q → r vs H Q
theorem ev_callB {x : Str} {id : String} {r : List V → Hp → VK → Prop} {p : Pos} (hc : CallR X (.builtin id) r) (hg : Gl X x) (hm : X.mg x = none) (hv : bootBuiltins x = some (.builtin id)) (hn : x ≠ "__name__") (hdb : (x == ("__debug__" : Str)) = false)
    (he : starEach (e :: es) X.env = (false, eval e X.env) :: starEach es X.env) (hpl : (backTo pos (starEach es X.env)).any (·.1) = false) (h : EvA X (e :: es) Δ M fun ds M1 => PB X r ds M1 k) : EvD X (.Call (.Name x p) (e :: es) [] pos) Δ M k := fun F H σ Q hs ok post =>
  sem_of (pe_callB hc hg hm hv pa_sem hn hdb he hpl) (h F H σ _ hs ok fun ds M1 F1 H1 vs q st ok1 i => q F1 H1 vs Q ok1 i (post.step st))
end
end DL
end
section
set_option Elab.async false
set_option linter.all false
set_option maxRecDepth 100000
namespace DL
open PySem L2
section
variable {X : Cx} {a b e e2 : Expr} {es rest : List Expr} {Δ : DS} {M : Store} {k : DK} {kb : BK} {ka : AK} {p pos : Pos} {x : Str} {bid T : String} {r : List V → Hp → VK → Prop}

theorem ev_callT (hc : CallR X (.type T) r) (hg : Gl X x) (hm : X.mg x = none) (hv : bootBuiltins x = some (.type T)) (hn : x ≠ "__name__") (hdb : (x == ("__debug__" : Str)) = false)
    (he : starEach (e :: es) X.env = (false, eval e X.env) :: starEach es X.env) (hpl : (backTo pos (starEach es X.env)).any (·.1) = false) (h : EvA X (e :: es) Δ M fun ds M1 => PB X r ds M1 k) : EvD X (.Call (.Name x p) (e :: es) [] pos) Δ M k := fun F H σ Q hs ok post =>
  sem_of (pe_callTy hc hg hm hv pa_sem hn hdb he hpl) (h F H σ _ hs ok fun ds M1 F1 H1 vs q st ok1 i => q F1 H1 vs Q ok1 i (post.step st))
/-- fresh lists by a call -/
theorem el_callT (hc : CallR X (.type T) r) (hg : Gl X x) (hm : X.mg x = none) (hv : bootBuiltins x = some (.type T)) (hn : x ≠ "__name__") (hdb : (x == ("__debug__" : Str)) = false)
    (he : starEach (e :: es) X.env = (false, eval e X.env) :: starEach es X.env) (hpl : (backTo pos (starEach es X.env)).any (·.1) = false) (h : EvA X (e :: es) Δ M fun ds M1 => PBL X r ds M1 ka) : EvL X (.Call (.Name x p) (e :: es) [] pos) Δ M ka := fun F H σ Q hs ok post =>
  sem_of (pe_callTy hc hg hm hv pa_sem hn hdb he hpl) (h F H σ _ hs ok fun ds M1 F1 H1 vs q st ok1 i => q F M H F1 H1 vs Q st ok1 i post)
theorem el_callB (hc : CallR X (.builtin bid) r) (hg : Gl X x) (hm : X.mg x = none) (hv : bootBuiltins x = some (.builtin bid)) (hn : x ≠ "__name__") (hdb : (x == ("__debug__" : Str)) = false)
    (he : starEach (e :: es) X.env = (false, eval e X.env) :: starEach es X.env) (hpl : (backTo pos (starEach es X.env)).any (·.1) = false) (h : EvA X (e :: es) Δ M fun ds M1 => PBL X r ds M1 ka) : EvL X (.Call (.Name x p) (e :: es) [] pos) Δ M ka := fun F H σ Q hs ok post =>
  sem_of (pe_callB hc hg hm hv pa_sem hn hdb he hpl) (h F H σ _ hs ok fun ds M1 F1 H1 vs q st ok1 i => q F M H F1 H1 vs Q st ok1 i post)
theorem one1 {R : List D → Store → Prop} (h : EvD X e Δ M fun d M1 => R [d] M1) (hs : starEach [e] X.env = [(false, eval e X.env)]) : EvA X [e] Δ M R := ea_cons (h.mono fun _ _ q => ea_nil q) hs
theorem two2 {R : List D → Store → Prop} (h : EvD X e Δ M fun d M1 => EvD X e2 Δ M1 fun d2 M2 => R [d, d2] M2) (hs : starEach [e, e2] X.env = (false, eval e X.env) :: starEach [e2] X.env) (hs2 : starEach [e2] X.env = [(false, eval e2 X.env)]) : EvA X [e, e2] Δ M R :=
  ea_cons (h.mono fun _ _ q => one1 q hs2) hs
theorem isL1 {K : PySem.W.Frag} {F : Hp} {d : D} {vs : List V} (h : IsL K F [d] vs) : ∃ v, vs = [v] ∧ Is K F d v := by
  obtain ⟨v, r, rfl, h1, h2⟩ := isL_cons.1 h
  rw [isL_nil.1 h2]
  exact ⟨v, rfl, h1⟩
theorem isL2 {K : PySem.W.Frag} {F : Hp} {d d2 : D} {vs : List V} (h : IsL K F [d, d2] vs) : ∃ v v2, vs = [v, v2] ∧ Is K F d v ∧ Is K F d2 v2 := by
  obtain ⟨v, r, rfl, h1, h2⟩ := isL_cons.1 h
  obtain ⟨v2, rfl, h3⟩ := isL1 h2
  exact ⟨v, v2, rfl, h1, h3⟩

/-! len -/
def lenD (M : Store) (d : D) : Option Nat := match strOf d with
  | some z => if z.length ≤ sizeLine then some z.length else none
  | none => (seqD M d).map List.length
theorem ev_len (hg : Gl X "len") (hm : X.mg "len" = none) (h : EvD X e Δ M fun d M1 => ∃ n : Nat, lenD M1 d = some n ∧ k (.int n) M1) (hs : starEach [e] X.env = [(false, eval e X.env)] := by rfl) : EvD X (.Call (.Name "len" p) [e] [] pos) Δ M k :=
  ev_callB (call_len_seq.or call_len_str) hg hm PySem.boot_len (by decide) (by decide) hs rfl (one1 (h.mono fun d M1 ⟨n, h1, hk⟩ F H vs Q ok i post => by
    obtain ⟨v, rfl, iv⟩ := isL1 i
    unfold lenD at h1
    cases hz : strOf d with
    | some z =>
      rw [hz] at h1
      dsimp only at h1
      split at h1
      · cases h1
        rename_i hl
        exact .inr ⟨z, by rw [strOf_is hz iv], hl, post.here ok hk (is_int.2 rfl)⟩
      · cases h1
    | none =>
      rw [hz] at h1
      dsimp only at h1
      obtain ⟨ds, h2, h3⟩ := Option.map_eq_some_iff.mp h1
      obtain ⟨q, ws, rfl, hq, hl⟩ := seq_of ok h2 iv
      refine .inl ⟨q, ws, rfl, hq, post.here ok hk (is_int.2 ?_)⟩
      rw [← hl.length, h3]) hs)
/-! numbers -/
def NumP1 (g : Int → D) (d : D) (M : Store) (k : DK) : Prop := match d with
  | .int i => k (g i) M
  | _ => False
theorem ev_abs (hg : Gl X "abs") (hm : X.mg "abs" = none) (h : EvD X e Δ M fun d M1 => NumP1 (fun i => .int (if i < 0 then -i else i)) d M1 k) (hs : starEach [e] X.env = [(false, eval e X.env)] := by rfl) : EvD X (.Call (.Name "abs" p) [e] [] pos) Δ M k :=
  ev_callB call_abs hg hm (by decide +kernel) (by decide) (by decide) hs rfl (one1 (h.mono fun d M1 q F H vs Q ok i post => by
    obtain ⟨v, rfl, iv⟩ := isL1 i
    unfold NumP1 at q
    split at q
    · exact ⟨_, by rw [is_int.1 iv], post.here ok q (is_int.2 rfl)⟩
    · exact q.elim) hs)
def IntC (d : D) (M : Store) (k : DK) : Prop := match d with
  | .int i => k (.int i) M
  | .bl c => k (.int (if c then 1 else 0)) M
  | _ => False
theorem ev_intc (hg : Gl X "int") (hm : X.mg "int" = none) (h : EvD X e Δ M fun d M1 => IntC d M1 k) (hs : starEach [e] X.env = [(false, eval e X.env)] := by rfl) : EvD X (.Call (.Name "int" p) [e] [] pos) Δ M k :=
  ev_callT call_int1 hg hm (by decide +kernel) (by decide) (by decide) hs rfl (one1 (h.mono fun d M1 q F H vs Q ok i post => by
    obtain ⟨v, rfl, iv⟩ := isL1 i
    unfold IntC at q
    split at q
    · exact .inl ⟨_, by rw [is_int.1 iv], post.here ok q (is_int.2 rfl)⟩
    · exact .inr ⟨_, by rw [is_bl.1 iv], post.here ok q (is_int.2 rfl)⟩
    · exact q.elim) hs)
theorem ev_max2 (hc : X.calm = true) (hg : Gl X "max") (hm : X.mg "max" = none) (h : EvD X e Δ M fun d M1 => EvD X e2 Δ M1 fun d2 M2 => NumP (fun i j => .int (if j > i then j else i)) d d2 M2 k) (hs : starEach [e, e2] X.env = (false, eval e X.env) :: starEach [e2] X.env := by rfl) (hs2 : starEach [e2] X.env = [(false, eval e2 X.env)] := by rfl) (hpl : (backTo pos (starEach [e2] X.env)).any (·.1) = false := by rfl) : EvD X (.Call (.Name "max" p) [e, e2] [] pos) Δ M k :=
  ev_callB (call_max2 hc) hg hm (by decide +kernel) (by decide) (by decide) hs hpl (two2 (h.mono fun d M1 q => q.mono fun d2 M2 q2 F H vs Q ok i post => by
    obtain ⟨v, v2, rfl, i1, i2⟩ := isL2 i
    unfold NumP at q2
    split at q2
    · exact ⟨_, _, by rw [is_int.1 i1, is_int.1 i2], post.here ok q2 (is_int.2 rfl)⟩
    · exact q2.elim) hs hs2)
theorem ev_min2 (hc : X.calm = true) (hg : Gl X "min") (hm : X.mg "min" = none) (h : EvD X e Δ M fun d M1 => EvD X e2 Δ M1 fun d2 M2 => NumP (fun i j => .int (if j < i then j else i)) d d2 M2 k) (hs : starEach [e, e2] X.env = (false, eval e X.env) :: starEach [e2] X.env := by rfl) (hs2 : starEach [e2] X.env = [(false, eval e2 X.env)] := by rfl) (hpl : (backTo pos (starEach [e2] X.env)).any (·.1) = false := by rfl) : EvD X (.Call (.Name "min" p) [e, e2] [] pos) Δ M k :=
  ev_callB (call_min2 hc) hg hm (by decide +kernel) (by decide) (by decide) hs hpl (two2 (h.mono fun d M1 q => q.mono fun d2 M2 q2 F H vs Q ok i post => by
    obtain ⟨v, v2, rfl, i1, i2⟩ := isL2 i
    unfold NumP at q2
    split at q2
    · exact ⟨_, _, by rw [is_int.1 i1, is_int.1 i2], post.here ok q2 (is_int.2 rfl)⟩
    · exact q2.elim) hs hs2)
/-! sum, all, any of lists -/
theorem ev_sum (hc : X.calm = true) (hg : Gl X "sum") (hm : X.mg "sum" = none) (h : EvD X e Δ M fun d M1 => ∃ ns : List Int, lsD M1 d = some (ns.map D.int) ∧ k (.int ns.sum) M1) (hs : starEach [e] X.env = [(false, eval e X.env)] := by rfl) : EvD X (.Call (.Name "sum" p) [e] [] pos) Δ M k :=
  ev_callB (cr_sum hc) hg hm (by decide +kernel) (by decide) (by decide) hs rfl (one1 (h.mono fun d M1 ⟨ns, h1, hk⟩ F H vs Q ok i post => by
    obtain ⟨v, rfl, iv⟩ := isL1 i
    obtain ⟨q, ws, rfl, hq, hl⟩ := ls_of ok h1 iv
    rw [(IsL.ints ns).1 hl] at hq
    exact ⟨q, ns, rfl, hq, post.here ok hk (is_int.2 rfl)⟩) hs)
theorem ev_all (hc : X.calm = true) (hg : Gl X "all") (hm : X.mg "all" = none) (h : EvD X e Δ M fun d M1 => ∃ ns : List Bool, lsD M1 d = some (ns.map D.bl) ∧ k (.bl (ns.all id)) M1) (hs : starEach [e] X.env = [(false, eval e X.env)] := by rfl) : EvD X (.Call (.Name "all" p) [e] [] pos) Δ M k :=
  ev_callB (cr_all hc) hg hm (by decide +kernel) (by decide) (by decide) hs rfl (one1 (h.mono fun d M1 ⟨ns, h1, hk⟩ F H vs Q ok i post => by
    obtain ⟨v, rfl, iv⟩ := isL1 i
    obtain ⟨q, ws, rfl, hq, hl⟩ := ls_of ok h1 iv
    rw [(IsL.bls ns).1 hl] at hq
    exact ⟨q, ns, rfl, hq, post.here ok hk (is_bl.2 rfl)⟩) hs)
theorem ev_any (hc : X.calm = true) (hg : Gl X "any") (hm : X.mg "any" = none) (h : EvD X e Δ M fun d M1 => ∃ ns : List Bool, lsD M1 d = some (ns.map D.bl) ∧ k (.bl (ns.any id)) M1) (hs : starEach [e] X.env = [(false, eval e X.env)] := by rfl) : EvD X (.Call (.Name "any" p) [e] [] pos) Δ M k :=
  ev_callB (cr_any hc) hg hm (by decide +kernel) (by decide) (by decide) hs rfl (one1 (h.mono fun d M1 ⟨ns, h1, hk⟩ F H vs Q ok i post => by
    obtain ⟨v, rfl, iv⟩ := isL1 i
    obtain ⟨q, ws, rfl, hq, hl⟩ := ls_of ok h1 iv
    rw [(IsL.bls ns).1 hl] at hq
    exact ⟨q, ns, rfl, hq, post.here ok hk (is_bl.2 rfl)⟩) hs)
/-! sorted of ints, of texts: a fresh list -/
theorem el_sortedI (hg : Gl X "sorted") (hm : X.mg "sorted" = none) (h : EvD X e Δ M fun d M1 => ∃ ns : List Int, lsD M1 d = some (ns.map D.int) ∧ ∀ ms : List Int, ms.Perm ns → ms.Pairwise (· ≤ ·) → ka (ms.map D.int) M1) (hs : starEach [e] X.env = [(false, eval e X.env)] := by rfl) : EvL X (.Call (.Name "sorted" p) [e] [] pos) Δ M ka :=
  el_callB cr_sortedI hg hm (by decide +kernel) (by decide) (by decide) hs rfl (one1 (h.mono fun d M1 ⟨ns, h1, hk⟩ F0 M0 H0 F H vs Q st ok i post => by
    obtain ⟨v, rfl, iv⟩ := isL1 i
    obtain ⟨q, ws, rfl, hq, hl⟩ := ls_of ok h1 iv
    rw [(IsL.ints ns).1 hl] at hq
    exact ⟨q, ns, rfl, hq, fun ms t hp hw ht => post.new st ok (hk ms hp hw) ht ((IsL.ints ms).2 rfl)⟩) hs)
theorem el_sortedS (hg : Gl X "sorted") (hm : X.mg "sorted" = none) (h : EvD X e Δ M fun d M1 => ∃ ns : List Str, lsD M1 d = some (ns.map D.str) ∧ ns.length < 64 ∧ ∀ ms : List Str, ms.Perm ns → PyProof.Rows.sortedS ms = true → ka (ms.map D.str) M1) (hs : starEach [e] X.env = [(false, eval e X.env)] := by rfl) : EvL X (.Call (.Name "sorted" p) [e] [] pos) Δ M ka :=
  el_callB cr_sortedS hg hm (by decide +kernel) (by decide) (by decide) hs rfl (one1 (h.mono fun d M1 ⟨ns, h1, h64, hk⟩ F0 M0 H0 F H vs Q st ok i post => by
    obtain ⟨v, rfl, iv⟩ := isL1 i
    obtain ⟨q, ws, rfl, hq, hl⟩ := ls_of ok h1 iv
    rw [(IsL.strs ns).1 hl] at hq
    exact ⟨q, ns, rfl, hq, h64, fun ms t hp hw ht => post.new st ok (hk ms hp hw) ht ((IsL.strs ms).2 rfl)⟩) hs)
/-! list(x), tuple(x) of sequences -/
theorem el_list (hg : Gl X "list") (hm : X.mg "list" = none) (h : EvD X e Δ M fun d M1 => ∃ ds, seqD M1 d = some ds ∧ ka ds M1) (hs : starEach [e] X.env = [(false, eval e X.env)] := by rfl) : EvL X (.Call (.Name "list" p) [e] [] pos) Δ M ka :=
  el_callT call_list_of hg hm (by decide +kernel) (by decide) (by decide) hs rfl (one1 (h.mono fun d M1 ⟨ds, h1, hk⟩ F0 M0 H0 F H vs Q st ok i post => by
    obtain ⟨v, rfl, iv⟩ := isL1 i
    obtain ⟨q, ws, rfl, hq, hl⟩ := seq_of ok h1 iv
    exact ⟨q, ws, rfl, hq, fun t ht => post.new st ok hk ht hl⟩) hs)
theorem ev_tuple (hg : Gl X "tuple") (hm : X.mg "tuple" = none) (h : EvD X e Δ M fun d M1 => ∃ ds, seqD M1 d = some ds ∧ k (.tup ds) M1) (hs : starEach [e] X.env = [(false, eval e X.env)] := by rfl) : EvD X (.Call (.Name "tuple" p) [e] [] pos) Δ M k :=
  ev_callT call_tuple_of hg hm (by decide +kernel) (by decide) (by decide) hs rfl (one1 (h.mono fun d M1 ⟨ds, h1, hk⟩ F H vs Q ok i post => by
    obtain ⟨v, rfl, iv⟩ := isL1 i
    cases ht : tupOf d with
    | some es =>
      have e := tupOf_is ht
      subst e
      cases (show some es = some ds from h1)
      obtain ⟨q, ws, rfl, hq, hl⟩ := is_tup.1 iv
      exact ⟨q, ws, rfl, .inr ⟨ok.sqT hq, post.here ok hk (is_tup.2 ⟨q, ws, rfl, hq, hl⟩)⟩⟩
    | none =>
      have h2 : lsD M1 d = some ds := by
        unfold seqD at h1
        unfold lsD
        cases d with
        | tup z => cases ht
        | _ => exact h1
      obtain ⟨q, ws, rfl, hq, hl⟩ := ls_of ok h2 iv
      exact ⟨q, ws, rfl, .inl ⟨hq, fun t ht => post.fresh ok hk ht (tup_new hl (ok.fresh ht).1)⟩⟩) hs)
/-! isinstance of built-in kinds -/
def kt : String → String → Option Bool
  | "int", "int" => some true | "int", "bool" => some false | "int", "str" => some false | "int", "list" => some false | "int", "tuple" => some false
  | "bool", "int" => some true | "bool", "bool" => some true | "bool", "str" => some false | "bool", "list" => some false | "bool", "tuple" => some false
  | "str", "int" => some false | "str", "bool" => some false | "str", "str" => some true | "str", "list" => some false | "str", "tuple" => some false
  | "list", "int" => some false | "list", "bool" => some false | "list", "str" => some false | "list", "list" => some true | "list", "tuple" => some false
  | "tuple", "int" => some false | "tuple", "bool" => some false | "tuple", "str" => some false | "tuple", "list" => some false | "tuple", "tuple" => some true
  | "NoneType", "int" => some false | "NoneType", "bool" => some false | "NoneType", "str" => some false | "NoneType", "list" => some false | "NoneType", "tuple" => some false
  | _, _ => none
theorem kt_kit {s t : String} {c : Bool} (h : kt s t = some c) : kitB s t = some c := by
  unfold kt at h
  split at h <;> first | (cases h; decide +kernel) | cases h
def tyD : D → Option String
  | .non => some "NoneType" | .bl _ => some "bool" | .int _ => some "int" | .str _ => some "str" | .tup _ => some "tuple" | .lst _ => some "list"
  | _ => none
theorem ty_of {K : PySem.W.Frag} {F H : Hp} (ok : Ok K F M H) {d : D} {s : String} {v : V} (h : tyD d = some s) (i : Is K F d v) : TyX K H v (.type s) := by
  unfold tyD at h
  split at h
  · cases h; rw [is_non.1 i]; exact .base .non
  · cases h; rw [is_bl.1 i]; exact .base (.bl _)
  · cases h; rw [is_int.1 i]; exact .base (.int _)
  · cases h; rw [is_str.1 i]; exact .base (.str _)
  · cases h
    obtain ⟨q, ws, rfl, hq, hl⟩ := is_tup.1 i
    rcases hq with hq | ⟨o, its, n, h1, h2, h3⟩
    · exact .base (.tup (ok.tup hq))
    · exact .kTuple h1 h2
  · cases h
    obtain ⟨q, ws, rfl, hq, hl⟩ := is_lst.1 i
    exact .base (.lst (ok.lst hq))
  · cases h
theorem ev_isi (hg : Gl X "isinstance") (hm : X.mg "isinstance" = none) (h : EvD X e Δ M fun d M1 => EvD X e2 Δ M1 fun d2 M2 => ∃ s t c, tyD d = some s ∧ d2 = .ty t ∧ kt s t = some c ∧ k (.bl c) M2) (hs : starEach [e, e2] X.env = (false, eval e X.env) :: starEach [e2] X.env := by rfl) (hs2 : starEach [e2] X.env = [(false, eval e2 X.env)] := by rfl) (hpl : (backTo pos (starEach [e2] X.env)).any (·.1) = false := by rfl) : EvD X (.Call (.Name "isinstance" p) [e, e2] [] pos) Δ M k :=
  ev_callB call_isi hg hm (by decide +kernel) (by decide) (by decide) hs hpl (two2 (h.mono fun d M1 q => q.mono fun d2 M2 ⟨s, t, c, h1, h2, h3, hk⟩ F H vs Q ok i post => by
    obtain ⟨v, v2, rfl, i1, i2⟩ := isL2 i
    subst h2
    rw [is_ty.1 i2]
    exact ⟨v, .ty t, .type s, .type t, c, rfl, .ty t, ty_of ok h1 i1, kit_ty (kt_kit h3), post.here ok hk (is_bl.2 rfl)⟩) hs hs2)
def ktAny (s : String) : List String → Option Bool
  | [] => some false
  | t :: r => match kt s t with
    | some true => some true
    | some false => ktAny s r
    | none => none
theorem ktAny_kit {K : PySem.W.Frag} {s : String} : ∀ {ts : List String} {c : Bool}, ktAny s ts = some c → PySem.W.kitAny K (.type s) (ts.map Value.type) = some c
  | [], _, h => by unfold ktAny at h; cases h; rfl
  | t :: r, c, h => by
    unfold ktAny at h
    rw [List.map_cons]
    split at h
    · rename_i hk
      cases h
      exact kitAny_cons (kit_ty (kt_kit hk)) (fun z => by cases z) (fun _ => rfl)
    · rename_i hk
      exact kitAny_cons (kit_ty (kt_kit hk)) (fun _ => ktAny_kit h) (fun z => by cases z)
    · cases h
theorem tys_of {K : PySem.W.Frag} {F : Hp} : ∀ {ts : List String} {vs : List V}, IsL K F (ts.map D.ty) vs → Paired ClsV vs (ts.map Value.type)
  | [], _, i => by rw [isL_nil.1 i]; exact .nil
  | t :: r, _, i => by
    obtain ⟨v, w, rfl, i1, i2⟩ := isL_cons.1 i
    rw [is_ty.1 i1]
    exact .cons (.ty t) (tys_of i2)
theorem ev_isiT {p2 : Pos} {x1 : Nat} (hg : Gl X "isinstance") (hm : X.mg "isinstance" = none) (h : EvD X e Δ M fun d M1 => EvA X es Δ M1 fun ds M2 => ∃ s ts c, tyD d = some s ∧ ds = ts.map D.ty ∧ ts.length ≤ sizeLine ∧ ktAny s ts = some c ∧ k (.bl c) M2) (hs : starEach [e, .Tuple es x1 p2] X.env = (false, eval e X.env) :: starEach [.Tuple es x1 p2] X.env := by rfl) (hs2 : starEach [.Tuple es x1 p2] X.env = [(false, eval (.Tuple es x1 p2) X.env)] := by rfl) (hpl : (backTo pos (starEach [.Tuple es x1 p2] X.env)).any (·.1) = false := by rfl) : EvD X (.Call (.Name "isinstance" p) [e, .Tuple es x1 p2] [] pos) Δ M k := fun F H σ Q hS ok post => by
  refine sem_of (pe_callB call_isiT hg hm (by decide +kernel) (pa_cons pe_sem (pa_cons (pe_tup pa_sem) pa_nil hs2) hs) (by decide) (by decide) hs hpl) ?_
  refine h F H σ _ hS ok fun d M1 F1 H1 v q st ok1 i => q F1 H1 σ _ (hS.mono st.ext) ok1 fun ds M2 F2 H2 vs ⟨s, ts, c, h1, h2, h3, h4, hk⟩ st2 ok2 i2 => ?_
  subst h2
  refine ⟨by rw [← i2.length, List.length_map]; exact h3, fun t ht => ?_⟩
  have ok3 := ok2.new (o := .tup vs) ht
  have iv : Is X.K (upd F2 t (.tup vs)) d v := (i.mono st2.ext).mono (same_new (ok2.fresh ht).1)
  exact ⟨v, t, vs, .type s, ts.map Value.type, c, rfl, upd_same, tys_of i2, ty_of ok3.1 h1 iv, ktAny_kit h4, (post.step ((st.trans st2).trans ok3.2)).here ok3.1 hk (is_bl.2 rfl)⟩
theorem ev_tyn (hg : Gl X x) (hm : X.mg x = none) (hv : bootBuiltins x = some (.type T)) (hn : x ≠ "__name__") (hdb : (x == ("__debug__" : Str)) = false) (h : k (.ty T) M) : EvD X (.Name x pos) Δ M k :=
  ev_c (pe_bltn (v := .ty T) hg hm hv rfl hn hdb) (fun _ => is_ty.2 rfl) h
end
end DL
end
section
set_option Elab.async false
set_option linter.all false
set_option maxRecDepth 100000
namespace DL
open PySem L2
section
variable {X : Cx} {a b e e2 o : Expr} {es rest : List Expr} {Δ : DS} {M : Store} {k : DK} {kb : BK} {ka : AK} {p pos apos : Pos} {x : Str}

/-! ### cells: append, pop, x[i] = v -/
abbrev FewOk (X : Cx) (cpos : Pos) (es : List Expr) : Prop := ((backTo cpos (starEach es X.env)).all (fun x => !x.1) && (backToKw cpos (keywordEach [] X.env)).all (fun x => x.1.isSome)
      && decide (es.length + ([] : List Keyword).length + (if ([] : List Keyword).isEmpty then 0 else 1) < 30)) = true
theorem cell_of {K : PySem.W.Frag} {F H : Hp} (ok : Ok K F M H) {q : Addr} {ds : List D} (h : M q = some (.lst ds)) : ∃ vs, H q = some (.lst vs) ∧ IsL K F ds vs := by
  obtain ⟨_, u, h1, vs, h2, h3⟩ := ok.mem q _ h
  subst h2
  exact ⟨vs, h1, h3⟩
theorem Post.cell {K : PySem.W.Frag} {F : Hp} {H : Hp} {Q : VK} {d : D} {v : V} (p : Post K F M H k Q) (ok : Ok K F M H) {q : Addr} {m : MO} (hm : M q = some m) {ds : List D} {vs : List V} (i : IsL K F ds vs) (h : k d (mup M q (.lst ds))) (iv : Is K F d v) : Q v (upd H q (.lst vs)) :=
  let w := ok.write (m := .lst ds) (o := .lst vs) hm ⟨vs, rfl, i⟩
  p d _ F _ v h w.2 w.1 iv
theorem ev_append (h : EvD X o Δ M fun d M1 => ∃ q ds0, d = .cell q ∧ M1 q = some (.lst ds0) ∧ EvD X e Δ M1 fun y M2 => ∃ ds, M2 q = some (.lst ds) ∧ ds.length < sizeLine ∧ k .non (mup M2 q (.lst (ds ++ [y]))))
    (hbase : attributeBase o "append" X.env (eval o X.env) = eval o X.env := by rfl) (hfew : FewOk X pos [e] := by rfl) (hline : (apos.endLine == pos.line) = true := by rfl) (hs : starEach [e] X.env = [(false, eval e X.env)] := by rfl) :
    EvD X (.Call (.Attribute o "append" apos) [e] [] pos) Δ M k := fun F H σ Q hS ok post => by
  refine sem_of (pe_bm PySem.F.plainAttrs_list PySem.F.slot_list_append PySem.F.type_list_append mt_append pe_sem (pa_cons pe_sem pa_nil hs) hbase hfew hline hs rfl) ?_
  refine h F H σ _ hS ok fun d M1 F1 H1 v ⟨q, ds0, ed, hm, h2⟩ st ok1 i => ?_
  subst ed
  obtain ⟨vs0, hq0, _⟩ := cell_of ok1 hm
  rw [is_cell.1 i]
  refine ⟨.inl ⟨rfl, _, SqL.of hq0⟩, h2 F1 H1 σ _ (hS.mono st.ext) ok1 fun y M2 F2 H2 u ⟨ds, hm2, hl, hk⟩ st2 ok2 iu => ?_⟩
  obtain ⟨vs, hq, il⟩ := cell_of ok2 hm2
  exact ⟨q, vs, u, rfl, rfl, hq, by rw [← il.length]; exact hl, (post.step (st.trans st2)).cell ok2 hm2 (il.app (IsL.cons iu IsL.nil)) hk (is_non.2 rfl)⟩
theorem ev_popAt (h : EvD X o Δ M fun d M1 => ∃ q ds0, d = .cell q ∧ M1 q = some (.lst ds0) ∧ EvD X e Δ M1 fun y M2 => ∃ i ds j r, y = .int i ∧ M2 q = some (.lst ds) ∧ (-(2 ^ 63) ≤ i ∧ i < 2 ^ 63) ∧ seqIndex? i ds.length = some j ∧ ds[j]? = some r ∧ k r (mup M2 q (.lst (ds.eraseIdx j))))
    (hbase : attributeBase o "pop" X.env (eval o X.env) = eval o X.env := by rfl) (hfew : FewOk X pos [e] := by rfl) (hline : (apos.endLine == pos.line) = true := by rfl) (hs : starEach [e] X.env = [(false, eval e X.env)] := by rfl) :
    EvD X (.Call (.Attribute o "pop" apos) [e] [] pos) Δ M k := fun F H σ Q hS ok post => by
  refine sem_of (pe_bm PySem.F.plainAttrs_list PySem.F.slot_list_pop PySem.F.type_list_pop mt_popAt pe_sem (pa_cons pe_sem pa_nil hs) hbase hfew hline hs rfl) ?_
  refine h F H σ _ hS ok fun d M1 F1 H1 v ⟨q, ds0, ed, hm, h2⟩ st ok1 i => ?_
  subst ed
  obtain ⟨vs0, hq0, _⟩ := cell_of ok1 hm
  rw [is_cell.1 i]
  refine ⟨.inl ⟨rfl, _, SqL.of hq0⟩, h2 F1 H1 σ _ (hS.mono st.ext) ok1 fun y M2 F2 H2 u ⟨j, ds, n, r, ey, hm2, hb, hj, hr, hk⟩ st2 ok2 iu => ?_⟩
  subst ey
  obtain ⟨vs, hq, il⟩ := cell_of ok2 hm2
  obtain ⟨w, hw, iw⟩ := il.get hr
  rw [is_int.1 iu]
  exact ⟨q, vs, j, n, w, rfl, rfl, hq, hb.1, hb.2, by rw [← il.length]; exact hj, hw, (post.step (st.trans st2)).cell ok2 hm2 (il.erase n) hk iw⟩

/-! ### dicts -/
def keyOf : D → Option Key
  | .int i => some (.inl i)
  | .str x => some (.inr x)
  | _ => none
theorem key_is {K : PySem.W.Frag} {F : Hp} {d : D} {c : Key} {v : V} (h : keyOf d = some c) (i : Is K F d v) : v = kV c := by
  unfold keyOf at h
  split at h
  · cases h; exact is_int.1 i
  · cases h; exact is_str.1 i
  · cases h
def valD : List Key → List D → Key → Option D
  | c :: ks, d :: ds, q => if c = q then some d else valD ks ds q
  | _, _, _ => none
theorem val_is {K : PySem.W.Frag} {F : Hp} {q : Key} : ∀ {ks : List Key} {ds : List D} {vs : List V}, ks.length = ds.length → IsL K F ds vs → (∀ d, valD ks ds q = some d → ∃ v, valV (ks.zip vs) q = some v ∧ Is K F d v) ∧ (valD ks ds q = none → valV (ks.zip vs) q = none)
  | [], [], _, _, i => by
    rw [isL_nil.1 i]
    exact And.intro (fun d h => by unfold valD at h; cases h) (fun _ => rfl)
  | [], _ :: _, _, l, _ => by simp at l
  | _ :: _, [], _, l, _ => by simp at l
  | c :: ks, d :: ds, _, l, i => by
    obtain ⟨v, r, rfl, i1, i2⟩ := isL_cons.1 i
    have ih := val_is (q := q) (ks := ks) (ds := ds) (by simpa using l) i2
    unfold valD
    by_cases e : c = q
    · rw [if_pos e]
      have ev : valV ((c :: ks).zip (v :: r)) q = some v := by
        unfold valV
        rw [List.zip_cons_cons, List.find?_cons, decide_eq_true (show (c, v).1 = q from e)]
        rfl
      exact ⟨fun u h => by cases h; exact ⟨v, ev, i1⟩, fun h => by cases h⟩
    · rw [if_neg e]
      have ev : valV ((c :: ks).zip (v :: r)) q = valV (ks.zip r) q := by
        unfold valV
        rw [List.zip_cons_cons, List.find?_cons, decide_eq_false (show ¬ (c, v).1 = q from e)]
      rw [ev]
      exact ih
theorem dct_rd {K : PySem.W.Frag} {F H : Hp} (ok : Ok K F M H) {ks : List Key} {ds : List D} {v : V} (i : Is K F (.dct ks ds) v) : ∃ q vs, v = .ref q ∧ Rd H q (.dK (ks.zip vs)) ∧ ks.length = ds.length ∧ IsL K F ds vs := by
  obtain ⟨q, vs, od, e, h1, h2, h3⟩ := is_dct.1 i
  exact ⟨q, vs, e, ok.rd h1, h2, h3⟩
/-- d[k] -/
theorem ev_dix (hu : X.A.units + 1 < cLine) (hs : NoSl b) (h : EvD X a Δ M fun d1 M1 => EvD X b Δ M1 fun d2 M2 => ∃ ks ds c r, d1 = .dct ks ds ∧ keyOf d2 = some c ∧ valD ks ds c = some r ∧ k r M2) : EvD X (.Subscript a b pos) Δ M k := fun F H σ Q hS ok post =>
  sem_of (pe_dget hu pe_sem pe_sem hs) (two h hS ok fun d1 d2 M' F' H' u y ⟨ks, ds, c, r, e1, e2, e3, hk⟩ st ok' i1 i2 => by
    subst e1
    obtain ⟨q, vs, e, hq, hl, il⟩ := dct_rd ok' i1
    obtain ⟨v, h1, h2⟩ := (val_is hl il).1 r e3
    exact ⟨q, v, e, .inl ⟨_, c, hq, key_is e2 i2, h1.symm⟩, (post.step st).here ok' hk h2⟩)
/-- d.get(k, x) -/
theorem ev_get2 (hu : X.A.units + 1 < cLine) (h : EvD X o Δ M fun d M1 => ∃ ks ds, d = .dct ks ds ∧ EvD X e Δ M1 fun d2 M2 => ∃ c, keyOf d2 = some c ∧ EvD X e2 Δ M2 fun d3 M3 => k ((valD ks ds c).getD d3) M3) (m : M2 X o "get" apos e e2 pos := by exact ⟨rfl, rfl, rfl, rfl⟩) :
    EvD X (.Call (.Attribute o "get" apos) [e, e2] [] pos) Δ M k := fun F H σ Q hS ok post => by
  refine sem_of (pe_dget2 hu pe_sem pe_sem pe_sem m) ?_
  refine h F H σ _ hS ok fun d M1 F1 H1 v ⟨ks, ds, ed, h2⟩ st ok1 i => ?_
  subst ed
  obtain ⟨q, vs, rfl, hq, hl, il⟩ := dct_rd ok1 i
  refine ⟨q, rfl, .inl ⟨_, hq⟩, h2 F1 H1 σ _ (hS.mono st.ext) ok1 fun d2 M2 F2 H2 y ⟨c, hc, h3⟩ st2 ok2 i2 => h3 F2 H2 σ _ ((hS.mono st.ext).mono st2.ext) ok2 fun d3 M3 F3 H3 z hk st3 ok3 i3 => ?_⟩
  obtain ⟨q', vs', e', hq', hl', il'⟩ := dct_rd ok3 ((i.mono st2.ext).mono st3.ext)
  cases e'
  have w := val_is (q := c) hl' il'
  refine ⟨valV (ks.zip vs') c, .inl ⟨_, c, hq', key_is hc i2, rfl⟩, ?_⟩
  have st' := (st.trans st2).trans st3
  cases hv : valD ks ds c with
  | some r =>
    obtain ⟨u, h1, h2⟩ := w.1 r hv
    rw [h1]
    rw [hv] at hk
    exact (post.step st').here ok3 hk h2
  | none =>
    rw [w.2 hv]
    rw [hv] at hk
    exact (post.step st').here ok3 hk i3
def DInP (neg : Bool) (d1 d2 : D) (M : Store) (k : DK) : Prop := ∃ ks ds c, d2 = .dct ks ds ∧ keyOf d1 = some c ∧ k (.bl (if neg then !(valD ks ds c).isSome else (valD ks ds c).isSome)) M
theorem some_is {K : PySem.W.Frag} {F : Hp} {q : Key} {ks : List Key} {ds : List D} {vs : List V} (l : ks.length = ds.length) (i : IsL K F ds vs) : (valV (ks.zip vs) q).isSome = (valD ks ds q).isSome := by
  cases hv : valD ks ds q with
  | some r =>
    obtain ⟨u, h1, h2⟩ := (val_is l i).1 r hv
    rw [h1]; rfl
  | none => rw [(val_is l i).2 hv]; rfl
theorem ev_dnotin (hu : X.A.units + 1 < cLine) (hm : behindInMarks .NotIn b = false) (h : EvD X a Δ M fun d1 M1 => EvD X b Δ M1 fun d2 M2 => DInP true d1 d2 M2 k) : EvD X (.Compare a [.NotIn] [b] pos) Δ M k := fun F H σ Q hS ok post =>
  sem_of (pe_cmp (pc_dnotin hu pe_sem pe_sem) hm) (two h hS ok fun d1 d2 M' F' H' u y ⟨ks, ds, c, e1, e2, hk⟩ st ok' i1 i2 => by
    subst e1
    obtain ⟨q, vs, e, hq, hl, il⟩ := dct_rd ok' i2
    refine ⟨q, _, e, .inl ⟨_, c, hq, key_is e2 i1, rfl⟩, ?_⟩
    rw [some_is hl il]
    exact (post.step st).here ok' hk (is_bl.2 rfl))
theorem ev_din (hu : X.A.units + 1 < cLine) (hm : behindInMarks .In b = false) (h : EvD X a Δ M fun d1 M1 => EvD X b Δ M1 fun d2 M2 => DInP false d1 d2 M2 k) : EvD X (.Compare a [.In] [b] pos) Δ M k := fun F H σ Q hS ok post =>
  sem_of (pe_cmp (pc_din hu pe_sem pe_sem) hm) (two h hS ok fun d1 d2 M' F' H' u y ⟨ks, ds, c, e1, e2, hk⟩ st ok' i1 i2 => by
    subst e1
    obtain ⟨q, vs, e, hq, hl, il⟩ := dct_rd ok' i2
    refine ⟨q, _, e, .inl ⟨_, c, hq, key_is e2 i1, rfl⟩, ?_⟩
    rw [some_is hl il]
    exact (post.step st).here ok' hk (is_bl.2 rfl))

/-! ### iterables -/
structure ItRep (K : PySem.W.Frag) (J : It) (ds : List D) (F : Hp) (M : Store) (H : Hp) : Prop where
  go : ∀ i F' M' H', Stp F M H F' M' H' → Ok K F' M' H' → i < ds.length → J.go i H'
  yld : ∀ i F' M' H' v H2, Stp F M H F' M' H' → Ok K F' M' H' → i < ds.length → J.yld i H' v H2 → ∃ F2 d, ds[i]? = some d ∧ Stp F' M' H' F2 M' H2 ∧ Ok K F2 M' H2 ∧ Is K F2 d v
  stop : ∀ F' M' H', Stp F M H F' M' H' → Ok K F' M' H' → J.stop ds.length H'
def ItD (X : Cx) (tg e : Expr) (Δ : DS) (M : Store) (k : AK) : Prop := ∀ F H σ (R : It → Hp → Prop), IsS X.K F Δ σ → Ok X.K F M H → (∀ ds M' F' H' J, k ds M' → Stp F M H F' M' H' → Ok X.K F' M' H' → ItRep X.K J ds F' M' H' → R J H') → SemI X tg e σ H R
variable {tg : Expr}
theorem ItD.mono {kc : AK} (h : ItD X tg e Δ M ka) (hk : ∀ d M', ka d M' → kc d M') : ItD X tg e Δ M kc := fun F H σ R hs ok post => h F H σ R hs ok fun ds M' F' H' J q => post ds M' F' H' J (hk ds M' q)
theorem rep_list {K : PySem.W.Frag} {F H : Hp} {q : Addr} {vs : List V} {ds : List D} (hq : F q = some (.lst vs)) (il : IsL K F ds vs) : ItRep K (Itl K q) ds F M H where
  go := fun i F' M' H' st ok hi => ⟨vs, vs[i]'(by rw [← il.length]; exact hi), SqL.of (ok.lst (st.ext _ _ hq)), List.getElem?_eq_getElem _⟩
  yld := fun i F' M' H' v H2 st ok hi y => by
    obtain ⟨e, y⟩ := y
    subst e
    have g := y vs (SqL.of (ok.lst (st.ext _ _ hq)))
    obtain ⟨d, h1, h2⟩ := (il.mono st.ext).get' g
    exact ⟨F', d, h1, Stp.refl, ok, h2⟩
  stop := fun F' M' H' st ok => ⟨vs, SqL.of (ok.lst (st.ext _ _ hq)), by rw [il.length]; exact Nat.le_refl _⟩
theorem rep_frl {K : PySem.W.Frag} {F H : Hp} {q : Addr} {vs : List V} {ds : List D} (hq : SqL K F q vs) (il : IsL K F ds vs) : ItRep K (Itl K q) ds F M H where
  go := fun i F' M' H' st ok hi => ⟨vs, vs[i]'(by rw [← il.length]; exact hi), ok.sqL (st.ext.seq hq), List.getElem?_eq_getElem _⟩
  yld := fun i F' M' H' v H2 st ok hi y => by
    obtain ⟨e, y⟩ := y
    subst e
    have g := y vs (ok.sqL (st.ext.seq hq))
    obtain ⟨d, h1, h2⟩ := (il.mono st.ext).get' g
    exact ⟨F', d, h1, Stp.refl, ok, h2⟩
  stop := fun F' M' H' st ok => ⟨vs, ok.sqL (st.ext.seq hq), by rw [il.length]; exact Nat.le_refl _⟩
theorem rep_tup {K : PySem.W.Frag} {F H : Hp} {q : Addr} {vs : List V} {ds : List D} (hq : SqU K F q vs) (il : IsL K F ds vs) : ItRep K (Itt K q) ds F M H where
  go := fun i F' M' H' st ok hi => ⟨vs, vs[i]'(by rw [← il.length]; exact hi), ok.sqT (sqT_mono st.ext hq), List.getElem?_eq_getElem _⟩
  yld := fun i F' M' H' v H2 st ok hi y => by
    obtain ⟨e, y⟩ := y
    subst e
    have g := y vs (ok.sqT (sqT_mono st.ext hq))
    obtain ⟨d, h1, h2⟩ := (il.mono st.ext).get' g
    exact ⟨F', d, h1, Stp.refl, ok, h2⟩
  stop := fun F' M' H' st ok => ⟨vs, ok.sqT (sqT_mono st.ext hq), by rw [il.length]; exact Nat.le_refl _⟩
theorem it_lst (h : EvD X e Δ M fun d M1 => ∃ ds, d = .lst ds ∧ ka ds M1) : ItD X tg e Δ M ka := fun F H σ R hS ok post =>
  semI_of (pi_list pe_sem) (h F H σ _ hS ok fun d M1 F1 H1 v ⟨ds, ed, hk⟩ st ok1 i => by
    subst ed
    obtain ⟨q, vs, e, hq, il⟩ := is_lst.1 i
    exact ⟨q, e, ⟨vs, SqL.of (ok1.lst hq)⟩, post ds M1 F1 H1 _ hk st ok1 (rep_list hq il)⟩)
theorem it_tup (h : EvD X e Δ M fun d M1 => ∃ ds, d = .tup ds ∧ ka ds M1) : ItD X tg e Δ M ka := fun F H σ R hS ok post =>
  semI_of (pi_tup pe_sem) (h F H σ _ hS ok fun d M1 F1 H1 v ⟨ds, ed, hk⟩ st ok1 i => by
    subst ed
    obtain ⟨q, vs, e, hq, il⟩ := is_tup.1 i
    exact ⟨q, e, ⟨vs, ok1.sqT hq⟩, post ds M1 F1 H1 _ hk st ok1 (rep_tup hq il)⟩)
/-- ranges -/
def rngD (lo : Int) (n : Nat) : List D := (List.range n).map fun i => .int (lo + (i : Nat))
theorem rep_rng {K : PySem.W.Frag} {F H : Hp} {lo : Int} {n : Nat} : ItRep K (Itr lo n) (rngD lo n) F M H where
  go := fun i F' M' H' st ok hi => by
    unfold rngD at hi
    rw [List.length_map, List.length_range] at hi
    exact hi
  yld := fun i F' M' H' v H2 st ok hi y => by
    obtain ⟨e, y⟩ := y
    subst e y
    unfold rngD at hi ⊢
    rw [List.length_map, List.length_range] at hi
    refine ⟨F', .int (lo + i), ?_, Stp.refl, ok, is_int.2 rfl⟩
    rw [List.getElem?_map, List.getElem?_range hi]
    rfl
  stop := fun F' M' H' st ok => by
    unfold rngD
    rw [List.length_map, List.length_range]
    exact Nat.le_refl _
theorem it_range1 (hg : Gl X "range") (hm : X.mg "range" = none) (h : EvD X e Δ M fun d M1 => ∃ j : Int, d = .int j ∧ (-(2 ^ 62) ≤ j ∧ j < 2 ^ 62) ∧ ka (rngD 0 j.toNat) M1) (hs : starEach [e] X.env = [(false, eval e X.env)] := by rfl) : ItD X tg (.Call (.Name "range" p) [e] [] pos) Δ M ka := fun F H σ R hS ok post =>
  semI_of (pi_range1 hg hm (pa_cons pe_sem pa_nil hs) hs) (h F H σ _ hS ok fun d M1 F1 H1 v ⟨j, ed, hb, hk⟩ st ok1 i => by
    subst ed
    exact ⟨j, by rw [is_int.1 i], hb.1, hb.2, post _ M1 F1 H1 _ hk st ok1 rep_rng⟩)
theorem it_range2 (hg : Gl X "range") (hm : X.mg "range" = none) (h : EvD X e Δ M fun d M1 => EvD X e2 Δ M1 fun d2 M2 => ∃ i j : Int, d = .int i ∧ d2 = .int j ∧ (-(2 ^ 62) ≤ i ∧ i < 2 ^ 62 ∧ -(2 ^ 62) ≤ j ∧ j < 2 ^ 62) ∧ ka (rngD i (j - i).toNat) M2) (hs : starEach [e, e2] X.env = [(false, eval e X.env), (false, eval e2 X.env)] := by rfl) (hs2 : starEach [e2] X.env = [(false, eval e2 X.env)] := by rfl) : ItD X tg (.Call (.Name "range" p) [e, e2] [] pos) Δ M ka := fun F H σ R hS ok post =>
  semI_of (pi_range2 hg hm (pa_cons pe_sem (pa_cons pe_sem pa_nil hs2) (by rw [hs, hs2])) hs hs2) (two h hS ok fun d1 d2 M' F' H' u y ⟨i, j, e1, e2, hb, hk⟩ st ok' i1 i2 => by
    subst e1 e2
    exact ⟨i, j, by rw [is_int.1 i1, is_int.1 i2], hb, post _ M' F' H' _ hk st ok' rep_rng⟩)
/-- the signs of a text -/
def signs (z : Str) : List D := z.cps.toList.map fun c => .str ⟨#[c]⟩
theorem rep_str {K : PySem.W.Frag} {F H : Hp} {z : Str} : ItRep K (Its z) (signs z) F M H where
  go := fun i F' M' H' st ok hi => by
    unfold signs at hi
    rw [List.length_map, Array.length_toList] at hi
    exact hi
  yld := fun i F' M' H' v H2 st ok hi y => by
    obtain ⟨e, c, hc, y⟩ := y
    subst e y
    refine ⟨F', .str ⟨#[c]⟩, ?_, Stp.refl, ok, is_str.2 rfl⟩
    unfold signs
    rw [List.getElem?_map, Array.getElem?_toList, hc]
    rfl
  stop := fun F' M' H' st ok => by
    unfold signs
    rw [List.length_map, Array.length_toList]
    exact Nat.le_refl _
theorem it_str (h : EvD X e Δ M fun d M1 => ∃ z, d = .str z ∧ ka (signs z) M1) : ItD X tg e Δ M ka := fun F H σ R hS ok post =>
  semI_of (pi_str pe_sem) (h F H σ _ hS ok fun d M1 F1 H1 v ⟨z, ed, hk⟩ st ok1 i => by
    subst ed
    exact ⟨z, is_str.1 i, post _ M1 F1 H1 _ hk st ok1 rep_str⟩)
/-- enumerate of a list -/
def enumD (ds : List D) : List D := ds.zipIdx.map fun q => .tup [.int (q.2 : Nat), q.1]
theorem enumD_len (ds : List D) : (enumD ds).length = ds.length := by unfold enumD; rw [List.length_map, List.length_zipIdx]
theorem enumD_get {ds : List D} {i : Nat} {d : D} (h : ds[i]? = some d) : (enumD ds)[i]? = some (.tup [.int (i : Nat), d]) := by
  unfold enumD
  rw [List.getElem?_map, List.getElem?_zipIdx, h]
  simp
theorem pair_new {K : PySem.W.Frag} {F H : Hp} (ok : Ok K F M H) {d1 d2 : D} {x y : V} (i1 : Is K F d1 x) (i2 : Is K F d2 y) {T : Addr} (hT : H T = none) :
    Stp F M H (upd F T (.tup [x, y])) M (upd H T (.tup [x, y])) ∧ Ok K (upd F T (.tup [x, y])) M (upd H T (.tup [x, y])) ∧ Is K (upd F T (.tup [x, y])) (.tup [d1, d2]) (.ref T) :=
  ⟨(ok.new hT).2, (ok.new hT).1, tup_new (IsL.cons i1 (IsL.cons i2 IsL.nil)) (ok.fresh hT).1⟩
theorem rep_enum {K : PySem.W.Frag} {F H : Hp} {q : Addr} {vs : List V} {ds : List D} (hq : SqL K F q vs) (il : IsL K F ds vs) : ItRep K (Ite K q) (enumD ds) F M H where
  go := fun i F' M' H' st ok hi => ⟨vs, vs[i]'(by rw [← il.length, ← enumD_len]; exact hi), ok.sqL (st.ext.seq hq), List.getElem?_eq_getElem _⟩
  yld := fun i F' M' H' v H2 st ok hi y => by
    obtain ⟨T, u, rfl, hT, rfl, y⟩ := y
    obtain ⟨d, h1, h2⟩ := (il.mono st.ext).get' (y vs (ok.sqL (st.ext.seq hq)))
    have n := pair_new ok (is_int.2 rfl : Is K F' (.int (i : Nat)) _) h2 hT
    exact ⟨_, _, enumD_get h1, n.1, n.2.1, n.2.2⟩
  stop := fun F' M' H' st ok => ⟨vs, ok.sqL (st.ext.seq hq), by rw [enumD_len, il.length]; exact Nat.le_refl _⟩
variable {elts : List Expr} {kk : Nat} {tpos : Pos}
theorem it_enum (hg : Gl X "enumerate") (hm : X.mg "enumerate" = none) (h : EvD X e Δ M fun d M1 => ∃ ds, (d = .lst ds ∨ d = .frl ds) ∧ ka (enumD ds) M1) (hs : starEach [e] X.env = [(false, eval e X.env)] := by rfl) : ItD X (.Tuple elts kk tpos) (.Call (.Name "enumerate" p) [e] [] pos) Δ M ka := fun F H σ R hS ok post =>
  semI_of (pi_enum hg hm (pa_cons pe_sem pa_nil hs) hs) (h F H σ _ hS ok fun d M1 F1 H1 v ⟨ds, ed, hk⟩ st ok1 i => by
    rcases ed with ed | ed
    · subst ed
      obtain ⟨q, vs, e, hq, il⟩ := is_lst.1 i
      subst e
      exact ⟨q, vs, rfl, SqL.of (ok1.lst hq), post _ M1 F1 H1 _ hk st ok1 (rep_enum (SqL.of hq) il)⟩
    · subst ed
      obtain ⟨q, vs, e, hq, il⟩ := is_frl.1 i
      subst e
      exact ⟨q, vs, rfl, ok1.sqL hq, post _ M1 F1 H1 _ hk st ok1 (rep_enum hq il)⟩)
/-- zip of two lists, of two tuples -/
def zipD (ds es : List D) : List D := (ds.zip es).map fun q => .tup [q.1, q.2]
theorem zipD_len (ds es : List D) : (zipD ds es).length = min ds.length es.length := by unfold zipD; rw [List.length_map, List.length_zip]
theorem zipD_get {ds es : List D} {i : Nat} {d c : D} (h : ds[i]? = some d) (h2 : es[i]? = some c) : (zipD ds es)[i]? = some (.tup [d, c]) := by
  unfold zipD
  have z : (ds.zip es)[i]? = some (d, c) := List.getElem?_zip_eq_some.mpr ⟨h, h2⟩
  rw [List.getElem?_map, z]
  rfl
theorem rep_zip {K : PySem.W.Frag} {F H : Hp} {q t : Addr} {vs ws : List V} {ds es : List D} (hq : SqL K F q vs) (il : IsL K F ds vs) (ht : SqL K F t ws) (jl : IsL K F es ws) : ItRep K (Itz K q t) (zipD ds es) F M H where
  go := fun i F' M' H' st ok hi => by
    rw [zipD_len] at hi
    exact ⟨vs, ws, vs[i]'(by rw [← il.length]; omega), ws[i]'(by rw [← jl.length]; omega), ok.sqL (st.ext.seq hq), ok.sqL (st.ext.seq ht), List.getElem?_eq_getElem _, List.getElem?_eq_getElem _⟩
  yld := fun i F' M' H' v H2 st ok hi y => by
    obtain ⟨T, u, w, rfl, hT, rfl, y, z⟩ := y
    obtain ⟨d, h1, h2⟩ := (il.mono st.ext).get' (y vs (ok.sqL (st.ext.seq hq)))
    obtain ⟨c, h3, h4⟩ := (jl.mono st.ext).get' (z ws (ok.sqL (st.ext.seq ht)))
    have n := pair_new ok h2 h4 hT
    exact ⟨_, _, zipD_get h1 h3, n.1, n.2.1, n.2.2⟩
  stop := fun F' M' H' st ok => ⟨vs, ws, ok.sqL (st.ext.seq hq), ok.sqL (st.ext.seq ht), by rw [zipD_len, ← il.length, ← jl.length]; omega⟩
theorem rep_zipT {K : PySem.W.Frag} {F H : Hp} {q t : Addr} {vs ws : List V} {ds es : List D} (hq : SqU K F q vs) (il : IsL K F ds vs) (ht : SqU K F t ws) (jl : IsL K F es ws) : ItRep K (RZ.ItzT K q t) (zipD ds es) F M H where
  go := fun i F' M' H' st ok hi => by
    rw [zipD_len] at hi
    exact ⟨vs, ws, vs[i]'(by rw [← il.length]; omega), ws[i]'(by rw [← jl.length]; omega), ok.sqT (sqT_mono st.ext hq), ok.sqT (sqT_mono st.ext ht), List.getElem?_eq_getElem _, List.getElem?_eq_getElem _⟩
  yld := fun i F' M' H' v H2 st ok hi y => by
    obtain ⟨T, u, w, rfl, hT, rfl, y, z⟩ := y
    obtain ⟨d, h1, h2⟩ := (il.mono st.ext).get' (y vs (ok.sqT (sqT_mono st.ext hq)))
    obtain ⟨c, h3, h4⟩ := (jl.mono st.ext).get' (z ws (ok.sqT (sqT_mono st.ext ht)))
    have n := pair_new ok h2 h4 hT
    exact ⟨_, _, zipD_get h1 h3, n.1, n.2.1, n.2.2⟩
  stop := fun F' M' H' st ok => ⟨vs, ws, ok.sqT (sqT_mono st.ext hq), ok.sqT (sqT_mono st.ext ht), by rw [zipD_len, ← il.length, ← jl.length]; omega⟩
theorem it_zip (hg : Gl X "zip") (hm : X.mg "zip" = none) (h : EvD X e Δ M fun d M1 => EvD X e2 Δ M1 fun d2 M2 => ∃ ds es, ((d = .lst ds ∧ d2 = .lst es) ∨ (d = .tup ds ∧ d2 = .tup es)) ∧ ka (zipD ds es) M2) (hs : starEach [e, e2] X.env = (false, eval e X.env) :: starEach [e2] X.env := by rfl) (hs2 : starEach [e2] X.env = [(false, eval e2 X.env)] := by rfl) (hpl : (backTo pos (starEach [e2] X.env)).any (·.1) = false := by rfl) : ItD X (.Tuple elts kk tpos) (.Call (.Name "zip" p) [e, e2] [] pos) Δ M ka := fun F H σ R hS ok post =>
  semI_of (RZ.pi_zipA hg hm (pa_cons pe_sem (pa_cons pe_sem pa_nil hs2) hs) hs hpl) (two h hS ok fun d1 d2 M' F' H' u y ⟨ds, es, ed, hk⟩ st ok' i1 i2 => by
    rcases ed with ⟨e1, e2⟩ | ⟨e1, e2⟩
    · subst e1 e2
      obtain ⟨q, vs, rfl, hq, il⟩ := is_lst.1 i1
      obtain ⟨t, ws, rfl, ht, jl⟩ := is_lst.1 i2
      exact ⟨q, t, vs, ws, rfl, .inl ⟨SqL.of (ok'.lst hq), SqL.of (ok'.lst ht), post _ M' F' H' _ hk st ok' (rep_zip (SqL.of hq) il (SqL.of ht) jl)⟩⟩
    · subst e1 e2
      obtain ⟨q, vs, rfl, hq, il⟩ := is_tup.1 i1
      obtain ⟨t, ws, rfl, ht, jl⟩ := is_tup.1 i2
      exact ⟨q, t, vs, ws, rfl, .inr ⟨ok'.sqT hq, ok'.sqT ht, post _ M' F' H' _ hk st ok' (rep_zipT hq il ht jl)⟩⟩)
end
end DL
end
section
set_option Elab.async false
set_option linter.all false
set_option maxRecDepth 100000
namespace DL
open PySem L2
/-! ### targets -/
theorem wipe_set_out {σ : L2.St} {i : Nat} {x : Option V} : ∀ {vs : List Nat}, i ∉ vs → wipe (σ.set i x) vs = (wipe σ vs).set i x
  | [], _ => rfl
  | v :: vs, h => by
    have h1 : i ≠ v := fun z => h (by rw [z]; exact List.mem_cons_self)
    have h2 : i ∉ vs := fun z => h (List.mem_cons_of_mem _ z)
    unfold wipe
    rw [wipe_set_out h2, List.set_comm _ _ h1]
theorem wipe_set {σ : L2.St} {i : Nat} {x : Option V} : ∀ {vs : List Nat}, i ∈ vs → wipe (σ.set i x) vs = wipe σ vs
  | [], h => by cases h
  | v :: vs, h => by
    unfold wipe
    by_cases z : i ∈ vs
    · rw [wipe_set z]
    · have e : i = v := by
        rcases List.mem_cons.mp h with e | e
        · exact e
        · exact absurd e z
      subst e
      rw [wipe_set_out z, List.set_set]
def wipeD (Δ : DS) : List Nat → DS
  | [] => Δ
  | v :: vs => (wipeD Δ vs).set v none
theorem IsS.none {K : PySem.W.Frag} {F : Hp} {Δ : DS} {σ : L2.St} (h : IsS K F Δ σ) (i : Nat) : IsS K F (Δ.set i none) (σ.set i none) := by
  refine ⟨by rw [List.length_set, List.length_set]; exact h.1, fun j e q => ?_⟩
  by_cases z : j = i
  · subst z
    have hj : j < Δ.length := by
      by_cases hj : j < Δ.length
      · exact hj
      · rw [List.getElem?_eq_none (by rw [List.length_set]; omega)] at q; cases q
    rw [List.getElem?_set_self hj] at q
    cases q
  · rw [List.getElem?_set_ne (Ne.symm z)] at q ⊢
    exact h.2 j e q
theorem IsS.wipe {K : PySem.W.Frag} {F : Hp} {Δ : DS} {σ : L2.St} (h : IsS K F Δ σ) : ∀ vs : List Nat, IsS K F (wipeD Δ vs) (L2.wipe σ vs)
  | [] => h
  | v :: vs => (IsS.wipe h vs).none v
def GdD (X : Cx) (tg : Expr) (d : D) (Δ Δ' : DS) (sl : List Nat) : Prop := ∀ F M H σ v (Q : L2.St → Hp → Prop), IsS X.K F Δ σ → Ok X.K F M H → Is X.K F d v →
  (∀ σ', IsS X.K F Δ' σ' → (∀ vs : List Nat, (∀ j ∈ sl, j ∈ vs) → wipe σ' vs = wipe σ vs) → Q σ' H) → SemG X tg v σ H Q
def GdsD (X : Cx) (tgs : List Expr) (ds : List D) (Δ Δ' : DS) (sl : List Nat) : Prop := ∃ t, PGs X tgs t ∧ ∀ F M H σ vs (Q : L2.St → Hp → Prop), IsS X.K F Δ σ → Ok X.K F M H → IsL X.K F ds vs →
  (∀ σ', IsS X.K F Δ' σ' → (∀ vs : List Nat, (∀ j ∈ sl, j ∈ vs) → wipe σ' vs = wipe σ vs) → Q σ' H) → t vs σ H Q
section
variable {X : Cx} {a b e e2 o tg tg2 : Expr} {es tgs : List Expr} {Δ Δ1 Δ2 : DS} {M : Store} {k : DK} {kb : BK} {ka : AK} {ks : KS} {p pos apos : Pos} {x : Str} {d d1 d2 : D} {sl sl2 : List Nat}
theorem gd_name {i : Nat} (hN : X.N.Nodup) (hi : X.N[i]? = some x) (hx : Loc X.env.scope x) (hf : X.fn x = true ∨ X.env.scope.names.lookup x = some .local) : GdD X (.Name x pos) d Δ (Δ.set i (some d)) [i] := fun F M H σ v Q hS ok iv h =>
  semG_of (pg_name hN hi hx hf) (h _ (hS.set i iv) fun vs hv => wipe_set (hv i (by simp)))
theorem gds_nil : GdsD X [] [] Δ Δ [] := ⟨_, pgs_nil, fun F M H σ vs Q hS ok il h => ⟨isL_nil.1 il, h σ hS fun _ _ => rfl⟩⟩
theorem gds_cons {ds : List D} (h1 : GdD X tg d Δ Δ1 sl) (h2 : GdsD X tgs ds Δ1 Δ2 sl2) (hs : (assignEach (tg :: tgs) X.env).map (·.2) = assign tg X.env :: (assignEach tgs X.env).map (·.2) := by rfl) : GdsD X (tg :: tgs) (d :: ds) Δ Δ2 (sl ++ sl2) := by
  obtain ⟨t, ht, q⟩ := h2
  refine ⟨_, pgs_cons pg_sem ht hs, fun F M H σ vs Q hS ok il h => ?_⟩
  obtain ⟨v, r, rfl, i1, i2⟩ := isL_cons.1 il
  exact ⟨v, r, rfl, h1 F M H σ v _ hS ok i1 fun σ1 hS1 w1 => q F M H σ1 r Q hS1 ok i2 fun σ2 hS2 w2 => h σ2 hS2 fun vs hv =>
    (w2 vs fun j hj => hv j (List.mem_append_right _ hj)).trans (w1 vs fun j hj => hv j (List.mem_append_left _ hj))⟩
theorem gd_tup {n : Nat} {ds : List D} {kt : Nat} (hc : X.calm = true) (h : GdsD X tgs ds Δ Δ1 sl) (hl : ds.length = n) (hn : (assignEach tgs X.env).length = n := by rfl) (hst : (assignEach tgs X.env).findIdx? (·.1) = none := by rfl) : GdD X (.Tuple tgs kt pos) (.tup ds) Δ Δ1 sl := by
  obtain ⟨t, ht, q⟩ := h
  refine fun F M H σ v Q hS ok iv h => semG_of (pg_tup hc ht hn hst) ?_
  obtain ⟨a, vs, e, hq, il⟩ := is_tup.1 iv
  exact ⟨a, vs, e, ok.sqT hq, by rw [← il.length]; exact hl, q F M H σ vs Q hS ok il h⟩

/-! ### comprehensions -/
/-- the tests of a clause -/
def TsD (X : Cx) (ifs : List Expr) (Δ : DS) (M : Store) (k : BK) : Prop := match ifs with
  | [] => k true M
  | [c] => TeD X c Δ M k
  | _ => False
abbrev Blk (X : Cx) (scope : Scope) (s : Shared) (H : Hp) (C : Addr) (cl : List (Str × Addr)) (fp : List Addr) : Cx := X.blk s H scope (compEnvC scope cl C X.env) fp
/-- one turn's body, in whatever frame -/
def tBlkG (X : Cx) (scope : Scope) (tg : Expr) : TG := fun v σ H Q => ∀ s H0 C cl fp, SemG (Blk X scope s H0 C cl fp) tg v σ H Q
def tBlkE (X : Cx) (scope : Scope) (e : Expr) : TE := fun σ H Q => ∀ s H0 C cl fp, Sem (Blk X scope s H0 C cl fp) e σ H Q
def tBlkT (X : Cx) (scope : Scope) (ifs : List Expr) : TT := match ifs with
  | [] => tYes
  | [c] => fun σ H Q => ∀ s H0 C cl fp, SemT (Blk X scope s H0 C cl fp) c σ H Q
  | _ => fun _ _ _ => False
theorem ptsB {scope : Scope} {ifs : List Expr} (s : Shared) (H0 : Hp) (C : Addr) (cl : List (Str × Addr)) (fp : List Addr) (h : ifs.length ≤ 1) : PTs (Blk X scope s H0 C cl fp) ifs (tBlkT X scope ifs) := by
  match ifs, h with
  | [], _ => exact pts_nil
  | [c], _ => exact pts_one ⟨fun pins s' σ H Q I h => h s H0 C cl fp pins s' I⟩
theorem pgB {scope : Scope} (s : Shared) (H0 : Hp) (C : Addr) (cl : List (Str × Addr)) (fp : List Addr) : PG (Blk X scope s H0 C cl fp) tg (tBlkG X scope tg) := ⟨fun pins s' σ H v u Q I r h => h s H0 C cl fp pins s' u I r⟩
theorem peB {scope : Scope} (s : Shared) (H0 : Hp) (C : Addr) (cl : List (Str × Addr)) (fp : List Addr) : PE (Blk X scope s H0 C cl fp) e (tBlkE X scope e) := ⟨fun pins s' σ H Q I h => h s H0 C cl fp pins s' I⟩
/-- what a list comprehension asks, of the items -/
def LcQ (X : Cx) (scope : Scope) (elt tg : Expr) (ifs : List Expr) (vs : List Nat) (Δ : DS) (k : AK) : AK := fun ds M1 => ∃ I : Nat → List D → Store → Prop, I 0 [] M1 ∧
    (∀ i d acc M', ds[i]? = some d → I i acc M' → acc.length < sizeLine ∧ ∃ Δ1 sl, (∀ j ∈ sl, j ∈ vs) ∧ (∀ s H C cl fp, GdD (Blk X scope s H C cl fp) tg d (wipeD Δ vs) Δ1 sl) ∧
      ∃ kb : BK, (∀ s H C cl fp, TsD (Blk X scope s H C cl fp) ifs Δ1 M' kb) ∧
        ∀ c M2, kb c M2 → if c = true then ∃ ke : DK, (∀ s H C cl fp, EvD (Blk X scope s H C cl fp) elt Δ1 M2 ke) ∧ ∀ r M3, ke r M3 → I (i + 1) (acc ++ [r]) M3 else I (i + 1) acc M2) ∧
    (∀ acc M', I ds.length acc M' → k acc M')
def LcP (X : Cx) (scope : Scope) (elt tg iter : Expr) (ifs : List Expr) (vs : List Nat) (Δ : DS) (M : Store) (k : AK) : Prop := ItD X tg iter Δ M (LcQ X scope elt tg ifs vs Δ k)
/-- .. for any way to walk the items -/
theorem lc_gen {scope : Scope} {elt : Expr} {ifs : List Expr} {vs : List Nat} {wi : TI} {F H : Hp} {σ : L2.St} {Q : VK}
    (hw : ∀ R : It → Hp → Prop, (∀ ds M' F' H' J, LcQ X scope elt tg ifs vs Δ ka ds M' → Stp F M H F' M' H' → Ok X.K F' M' H' → ItRep X.K J ds F' M' H' → R J H') → wi σ H R) (hS : IsS X.K F Δ σ) (ok : Ok X.K F M H) (post : PostL X.K F M H ka Q) :
    tLc wi (tBlkG X scope tg) (tBlkT X scope ifs) (tBlkE X scope elt) vs σ H Q := by
  refine hw _ fun ds M1 F1 H1 J ⟨I, h0, hstep, hend⟩ st ok1 rep => ?_
  intro q hq
  have hq0 : H q = none := by
    cases z : H q with
    | none => rfl
    | some u => exact absurd hq (st.there q (by rw [z]; simp))
  refine ⟨fun i m H' => ∃ M' F' acc us, m = ds.length - i ∧ i ≤ ds.length ∧ Stp F1 M1 H1 F' M' H' ∧ Ok X.K F' M' H' ∧ F' q = none ∧ M' q = none ∧ H' q = some (.lst us) ∧ IsL X.K F' acc us ∧ I i acc M',
    ⟨ds.length, M1, F1, [], [], rfl, Nat.zero_le _, ?_, ?_, (ok1.fresh hq).1, (ok1.fresh hq).2, upd_same, IsL.nil, h0⟩, ?_⟩
  · refine ⟨Same.refl _, fun a u e => .inl e, fun a u e _ => ?_, fun a m _ => m, fun a n => ?_⟩
    · rw [upd_ne (ne_of_none e hq)]; exact e
    · by_cases z : a = q
      · subst z; exact absurd hq n
      · rw [upd_ne z]; exact n
  · refine ⟨fun a u e => ?_, fun a m e => ?_⟩
    · have z : a ≠ q := fun z => by rw [z, (ok1.fresh hq).1] at e; cases e
      rw [upd_ne z]; exact ok1.sub a u e
    · have z : a ≠ q := fun z => by rw [z, (ok1.fresh hq).2] at e; cases e
      obtain ⟨g1, u, g2, g3⟩ := ok1.mem a m e
      exact ⟨g1, u, by rw [upd_ne z]; exact g2, g3⟩
  · rintro i m H' ⟨M', F', acc, us, rfl, hi, st', ok', fF, fM, hL, il, hI⟩
    by_cases hlt : i < ds.length
    · refine .inr ⟨rep.go i F' M' H' st' ok' hlt, fun H2 => ∃ M2 F2 acc us, Stp F1 M1 H1 F2 M2 H2 ∧ Ok X.K F2 M2 H2 ∧ F2 q = none ∧ M2 q = none ∧ H2 q = some (.lst us) ∧ IsL X.K F2 acc us ∧ I (i + 1) acc M2,
        fun H2 ⟨M2, F2, acc, us, a1, a2, a3, a4, a5, a6, a7⟩ => ⟨ds.length - (i + 1), by omega, M2, F2, acc, us, rfl, hlt, a1, a2, a3, a4, a5, a6, a7⟩, fun v H2 y => ?_⟩
      obtain ⟨F2, d, hd, st2, ok2, iv⟩ := rep.yld i F' M' H' v H2 st' ok' hlt y
      obtain ⟨hlen, Δ1, sl, hsl, hg, kb, ht, hb⟩ := hstep i d acc M' hd hI
      have hS2 : IsS X.K F2 (wipeD Δ vs) (wipe σ vs) := (hS.mono ((st.trans st').trans st2).ext).wipe vs
      -- the fresh list stays put along a step
      have stay : ∀ {F3 M3 H3}, Stp F' M' H' F3 M3 H3 → F3 q = none ∧ M3 q = none ∧ H3 q = some (.lst us) := fun {F3 M3 H3} s3 => by
        refine ⟨?_, s3.dom q fM (by rw [hL]; simp), s3.keep q _ hL fM⟩
        cases z : F3 q with
        | none => rfl
        | some u =>
          rcases s3.new q u z with w | w | w
          · rw [fF] at w; cases w
          · rw [hL] at w; cases w
          · exact absurd fM w
      intro s0 H0 C cl fp
      refine hg s0 H0 C cl fp F2 M' H2 _ v _ hS2 ok2 iv fun σ2 hSσ hw => ⟨?_, ?_⟩
      · rw [hw vs hsl]
        have ww : ∀ l : List Nat, (∀ j ∈ l, j ∈ vs) → wipe (wipe σ l) vs = wipe σ vs := fun l => by
          induction l with
          | nil => intro _; rfl
          | cons j l ih =>
            intro hl
            show wipe ((wipe σ l).set j none) vs = _
            rw [wipe_set (hl j (by simp)), ih fun j hj => hl j (List.mem_cons_of_mem _ hj)]
        exact ww vs fun j hj => hj
      · have after : ∀ c M3 F3 H3, kb c M3 → Stp F2 M' H2 F3 M3 H3 → Ok X.K F3 M3 H3 → (if c = true then tBlkE X scope elt σ2 H3 fun y H4 => ∃ acc, H4 q = some (.lst acc) ∧ acc.length < sizeLine ∧ (∃ M2 F2 acc' us, Stp F1 M1 H1 F2 M2 (upd H4 q (.lst (acc ++ [y]))) ∧ Ok X.K F2 M2 (upd H4 q (.lst (acc ++ [y]))) ∧ F2 q = none ∧ M2 q = none ∧ (upd H4 q (.lst (acc ++ [y]))) q = some (.lst us) ∧ IsL X.K F2 acc' us ∧ I (i + 1) acc' M2) else (∃ M2 F2 acc us, Stp F1 M1 H1 F2 M2 H3 ∧ Ok X.K F2 M2 H3 ∧ F2 q = none ∧ M2 q = none ∧ H3 q = some (.lst us) ∧ IsL X.K F2 acc us ∧ I (i + 1) acc M2)) := fun c M3 F3 H3 kc s3 ok3 => by
          have hbc := hb c M3 kc
          have s23 := st2.trans s3
          cases c with
          | true =>
            rw [if_pos rfl] at hbc ⊢
            obtain ⟨ke, hev, hke⟩ := hbc
            intro s1 H9 C9 cl9 fp9
            refine hev s1 H9 C9 cl9 fp9 F3 H3 σ2 _ (hSσ.mono s3.ext) ok3 fun r M4 F4 H4 u kr s4 ok4 ir => ?_
            have s24 := s23.trans s4
            obtain ⟨b1, b2, b3⟩ := stay s24
            have l1 := (il.mono s24.ext)
            refine ⟨us, b3, by rw [← il.length]; exact hlen, M4, F4, acc ++ [r], us ++ [u], ?_, ?_, b1, b2, upd_same, l1.app (IsL.cons ir IsL.nil), hke r M4 kr⟩
            · have s14 := st'.trans s24
              refine ⟨s14.ext, s14.new, fun a w e m => ?_, s14.dom, fun a n => ?_⟩
              · rw [upd_ne (ne_of_none e hq)]; exact s14.keep a w e m
              · by_cases z : a = q
                · subst z; exact absurd hq n
                · rw [upd_ne z]; exact s14.there a n
            · refine ⟨fun a w e => ?_, fun a m e => ?_⟩
              · have z : a ≠ q := fun z => by rw [z, b1] at e; cases e
                rw [upd_ne z]; exact ok4.sub a w e
              · have z : a ≠ q := fun z => by rw [z, b2] at e; cases e
                obtain ⟨g1, w, g2, g3⟩ := ok4.mem a m e
                exact ⟨g1, w, by rw [upd_ne z]; exact g2, g3⟩
          | false =>
            rw [if_neg Bool.false_ne_true] at hbc ⊢
            obtain ⟨b1, b2, b3⟩ := stay s23
            exact ⟨M3, F3, acc, us, st'.trans s23, ok3, b1, b2, b3, il.mono s23.ext, hbc⟩
        match ifs, ht with
        | [], ht => exact after true M' F2 H2 (ht s0 H0 C cl fp) Stp.refl ok2
        | [c], ht =>
          intro s1 H9 C9 cl9 fp9
          exact ht s1 H9 C9 cl9 fp9 F2 H2 σ2 _ hSσ ok2 fun c M3 F3 H3 kc s3 ok3 => after c M3 F3 H3 kc s3 ok3
        | c :: c2 :: r, ht => exact (ht s0 H0 C cl fp).elim
    · have e : i = ds.length := by omega
      subst e
      refine .inl ⟨rep.stop F' M' H' st' ok', ?_⟩
      exact post acc M' F' H' q us (hend acc M' hI) (st.trans st') ok' fF fM hq0 hL il
theorem lc_read {scope : Scope} {elt iter : Expr} {ifs : List Expr} {vs : List Nat} (h : LcP X scope elt tg iter ifs vs Δ M ka) {F H : Hp} {σ : L2.St} {Q : VK} (hS : IsS X.K F Δ σ) (ok : Ok X.K F M H) (post : PostL X.K F M H ka Q) :
    tLc (SemI X tg iter) (tBlkG X scope tg) (tBlkT X scope ifs) (tBlkE X scope elt) vs σ H Q := lc_gen (fun R hR => h F H σ R hS ok hR) hS ok post
theorem el_lc {scope : Scope} {own : List (Str × Nat)} {elt iter : Expr} {ifs : List Expr} (hc : X.calm = true) (hN : X.N.Nodup) (ok : BlkOk X.N X.env.scope scope own) (hl : ifs.length ≤ 1) (h : LcP X scope elt tg iter ifs (own.map (·.2)) Δ M ka)
    (hs : ∀ x, foldedSetIterable iter X.env x = pure x := by intro _; rfl) : EvL X (.ListComp elt [⟨tg, iter, ifs, 0⟩] scope pos) Δ M ka := fun F H σ Q hS okk post =>
  sem_of (pe_lc hc hN pi_sem ok (fun s H C cl fp => pgB s H C cl fp) (fun s H C cl fp => ptsB s H C cl fp hl) (fun s H C cl fp => peB s H C cl fp) hs) (lc_read h hS okk post)
end
end DL
end
section
set_option Elab.async false
set_option linter.all false
set_option maxRecDepth 100000
namespace DL
open PySem L2
section
variable {X : Cx} {a b e e2 o tg tg2 : Expr} {es tgs : List Expr} {Δ Δ1 Δ2 : DS} {M : Store} {k : DK} {kb : BK} {ka : AK} {ks : KS} {p pos apos : Pos} {x : Str} {d d1 d2 : D} {sl sl2 : List Nat} {st : Stmt} {sts body : List Stmt}
/-! ### blocks -/
theorem ss_nil (h : ks.nx Δ M) : SsD X [] Δ M ks := fun F H σ Q hS ok post => semSs_of pss_nil (post.nx Δ M F H σ h Stp.refl ok hS)
theorem ss_cons (h : StD X st Δ M { ks with nx := fun Δ1 M1 => SsD X sts Δ1 M1 ks }) : SsD X (st :: sts) Δ M ks := fun F H σ Q hS ok post =>
  semSs_of (pss_cons ps_sem pss_sem) (h F H σ _ hS ok ⟨fun Δ' M' F' H' σ' q s' ok' hS' => q F' H' σ' Q hS' ok' (post.step s'), post.rt, post.bk, post.ct⟩)
theorem ss_one (h : StD X st Δ M ks) : SsD X [st] Δ M ks := fun F H σ Q hS ok post => semSs_of (pss_one ps_sem) (h F H σ Q hS ok post)
theorem s_pass (h : ks.nx Δ M) : StD X (.Pass pos) Δ M ks := fun F H σ Q hS ok post => semS_of ps_pass (post.nx Δ M F H σ h Stp.refl ok hS)
theorem s_break (h : ks.bk Δ M) : StD X (.Break pos) Δ M ks := fun F H σ Q hS ok post => semS_of ps_break (post.bk Δ M F H σ h Stp.refl ok hS)
theorem s_cont (h : ks.ct Δ M) : StD X (.Continue pos) Δ M ks := fun F H σ Q hS ok post => semS_of ps_continue (post.ct Δ M F H σ h Stp.refl ok hS)
theorem s_expr (h : EvD X e Δ M fun _ M1 => ks.nx Δ M1) (hs : swapsWith e none pos.line X.env = pure false := by rfl) : StD X (.Expr e pos) Δ M ks := fun F H σ Q hS ok post =>
  semS_of (ps_expr pe_sem hs) (h F H σ _ hS ok fun d M1 F1 H1 v q s1 ok1 i => post.nx Δ M1 F1 H1 σ q s1 ok1 (hS.mono s1.ext))
theorem s_ret (h : EvD X e Δ M ks.rt) : StD X (.Return (some e) pos) Δ M ks := fun F H σ Q hS ok post => semS_of (ps_ret pe_sem) (h F H σ _ hS ok post.rt)
theorem s_retN (h : ks.rt .non M) : StD X (.Return none pos) Δ M ks := fun F H σ Q hS ok post => semS_of ps_retN (post.rt.here ok h (is_non.2 rfl))
theorem s_if {c : Expr} {A B : List Stmt} (h : TeD X c Δ M fun t M1 => if t = true then SsD X A Δ M1 ks else SsD X B Δ M1 ks) : StD X (.If c A B pos) Δ M ks := fun F H σ Q hS ok post =>
  semS_of (ps_if pt_sem pss_sem pss_sem) (h F H σ _ hS ok fun t M1 F1 H1 q s1 ok1 => by
    cases t with
    | true => exact q F1 H1 σ Q (hS.mono s1.ext) ok1 (post.step s1)
    | false => exact q F1 H1 σ Q (hS.mono s1.ext) ok1 (post.step s1))
theorem s_set {i : Nat} {pos' : Pos} (hN : X.N.Nodup) (hi : X.N[i]? = some x) (hx : Loc X.env.scope x) (hf : X.fn x = true ∨ X.env.scope.names.lookup x = some .local) (h : EvD X e Δ M fun d M1 => ks.nx (Δ.set i (some d)) M1)
    (hs : swapsWith e (some (.Name x pos')) pos.line X.env = pure false := by rfl) : StD X (.Assign [.Name x pos'] e pos) Δ M ks := fun F H σ Q hS ok post =>
  semS_of (ps_set hN hi hx pe_sem hs hf) (h F H σ _ hS ok fun d M1 F1 H1 v q s1 ok1 i1 => post.nx _ M1 F1 H1 _ q s1 ok1 ((hS.mono s1.ext).set i i1))
/-- x = [..], the comprehension's own way -/
theorem s_setLc {i : Nat} {y : Str} {py spos : Pos} {scope : Scope} {own : List (Str × Nat)} {elt iter : Expr} {ifs : List Expr} (hc : X.calm = true) (hN : X.N.Nodup) (hy : X.N[i]? = some y) (hyl : X.env.scope.names.lookup y = some .local)
    (hsw : swapsWith (.ListComp elt [⟨tg, iter, ifs, 0⟩] scope pos) (some (.Name y py)) spos.line X.env = pure true) (ok : BlkOk X.N X.env.scope scope own) (hl : ifs.length ≤ 1)
    (h : LcP X scope elt tg iter ifs (own.map (·.2)) Δ M fun ds M1 => ks.nx (Δ.set i (some (.lst ds))) M1)
    (hs : ∀ x, foldedSetIterable iter X.env x = pure x := by intro _; rfl) : StD X (.Assign [.Name y py] (.ListComp elt [⟨tg, iter, ifs, 0⟩] scope pos) spos) Δ M ks := fun F H σ Q hS okk post => by
  refine semS_of (ps_setLc hc hN hy hyl hsw pi_sem ok (fun s H C cl fp => pgB s H C cl fp) (fun s H C cl fp => ptsB s H C cl fp hl) (fun s H C cl fp => peB s H C cl fp) hs) ?_
  refine lc_read h hS okk fun ds M' F' H' q vs hk st ok' f m n hq il => ?_
  refine post.nx _ M' (upd F' q (.lst vs)) H' _ hk ⟨st.ext.trans (same_new f), fun x o e => ?_, st.keep, st.dom, st.there⟩ ⟨fun x o e => ?_, fun x m' e => ?_⟩ ((hS.mono (st.ext.trans (same_new f))).set i (lst_new il f))
  · by_cases z : x = q
    · subst z; exact .inr (.inl n)
    · rw [upd_ne z] at e; exact st.new x o e
  · by_cases z : x = q
    · subst z; rw [upd_same] at e; cases e; exact .inl hq
    · rw [upd_ne z] at e; exact ok'.sub x o e
  · obtain ⟨h1, o, h2, h3⟩ := ok'.mem x m' e
    have z : x ≠ q := fun z => by rw [z, m] at e; cases e
    exact ⟨by rw [upd_ne z]; exact h1, o, h2, h3.mono (same_new f)⟩
/-- .. and the list a cell -/
theorem s_setLcC {i : Nat} {y : Str} {py spos : Pos} {scope : Scope} {own : List (Str × Nat)} {elt iter : Expr} {ifs : List Expr} (hc : X.calm = true) (hN : X.N.Nodup) (hy : X.N[i]? = some y) (hyl : X.env.scope.names.lookup y = some .local)
    (hsw : swapsWith (.ListComp elt [⟨tg, iter, ifs, 0⟩] scope pos) (some (.Name y py)) spos.line X.env = pure true) (ok : BlkOk X.N X.env.scope scope own) (hl : ifs.length ≤ 1)
    (h : LcP X scope elt tg iter ifs (own.map (·.2)) Δ M fun ds M1 => ∀ q, M1 q = none → ks.nx (Δ.set i (some (.cell q))) (mup M1 q (.lst ds)))
    (hs : ∀ x, foldedSetIterable iter X.env x = pure x := by intro _; rfl) : StD X (.Assign [.Name y py] (.ListComp elt [⟨tg, iter, ifs, 0⟩] scope pos) spos) Δ M ks := fun F H σ Q hS okk post => by
  refine semS_of (ps_setLc hc hN hy hyl hsw pi_sem ok (fun s H C cl fp => pgB s H C cl fp) (fun s H C cl fp => ptsB s H C cl fp hl) (fun s H C cl fp => peB s H C cl fp) hs) ?_
  refine lc_read h hS okk fun ds M' F' H' q vs hk st ok' f m n hq il => ?_
  refine post.nx _ (mup M' q (.lst ds)) F' H' _ (hk q m) ⟨st.ext, st.new, st.keep, fun x e z => ?_, st.there⟩ ⟨ok'.sub, fun x m' e => ?_⟩ ((hS.mono st.ext).set i (is_cell.2 rfl))
  · have z' : x ≠ q := fun w => z (by rw [w]; exact n)
    rw [mup_ne z']; exact st.dom x e z
  · by_cases z : x = q
    · subst z; rw [mup_same] at e; cases e; exact ⟨f, _, hq, vs, rfl, il⟩
    · rw [mup_ne z] at e; exact ok'.mem x m' e
/-- a, b = x, y -/
theorem s_par {i j : Nat} {y : Str} {px py pt : Pos} {kt k2 pt2} (hc : X.calm = true) (hN : X.N.Nodup) (hi : X.N[i]? = some x) (hj : X.N[j]? = some y) (hij : i ≠ j) (hx : X.env.scope.names.lookup x = some .local) (hy : X.env.scope.names.lookup y = some .local)
    (hw : swappedStores [.Tuple [.Name x px, .Name y py] kt pt] (.Tuple [a, b] k2 pt2) X.env = pure (some [x, y]))
    (h : EvD X a Δ M fun d1 M1 => EvD X b Δ M1 fun d2 M2 => ks.nx ((Δ.set i (some d1)).set j (some d2)) M2) (hs : swapsWithSole [.Tuple [.Name x px, .Name y py] kt pt] (.Tuple [a, b] k2 pt2) pos.line X.env = pure false := by rfl)
    (h1 : starEach [a, b] X.env = (false, eval a X.env) :: starEach [b] X.env := by rfl) (h2 : starEach [b] X.env = [(false, eval b X.env)] := by rfl) :
    StD X (.Assign [.Tuple [.Name x px, .Name y py] kt pt] (.Tuple [a, b] k2 pt2) pos) Δ M ks := fun F H σ Q hS ok post =>
  semS_of (ps_par hc hN hi hj hij hx hy (pa_cons pe_sem (pa_cons pe_sem pa_nil h2) h1) hw hs) (two h hS ok fun d1 d2 M' F' H' u w q st ok' i1 i2 =>
    ⟨u, w, rfl, post.nx _ M' F' H' _ q st ok' (((hS.mono st.ext).set i i1).set j i2)⟩)
theorem s_par3 {c : Expr} {i j l : Nat} {y z : Str} {px py pz pt : Pos} {kt k2 pt2} (hc : X.calm = true) (hN : X.N.Nodup) (hi : X.N[i]? = some x) (hj : X.N[j]? = some y) (hl : X.N[l]? = some z) (hij : i ≠ j) (hil : i ≠ l) (hjl : j ≠ l) (hx : X.env.scope.names.lookup x = some .local) (hy : X.env.scope.names.lookup y = some .local) (hz : X.env.scope.names.lookup z = some .local)
    (hw : swappedStores [.Tuple [.Name x px, .Name y py, .Name z pz] kt pt] (.Tuple [a, b, c] k2 pt2) X.env = pure (some [x, y, z]))
    (h : EvD X a Δ M fun d1 M1 => EvD X b Δ M1 fun d2 M2 => EvD X c Δ M2 fun d3 M3 => ks.nx (((Δ.set i (some d1)).set j (some d2)).set l (some d3)) M3) (hs : swapsWithSole [.Tuple [.Name x px, .Name y py, .Name z pz] kt pt] (.Tuple [a, b, c] k2 pt2) pos.line X.env = pure false := by rfl)
    (h1 : starEach [a, b, c] X.env = (false, eval a X.env) :: starEach [b, c] X.env := by rfl) (h2 : starEach [b, c] X.env = (false, eval b X.env) :: starEach [c] X.env := by rfl) (h3 : starEach [c] X.env = [(false, eval c X.env)] := by rfl) :
    StD X (.Assign [.Tuple [.Name x px, .Name y py, .Name z pz] kt pt] (.Tuple [a, b, c] k2 pt2) pos) Δ M ks := fun F H σ Q hS ok post =>
  semS_of (ps_par3 hc hN hi hj hl hij hil hjl hx hy hz (pa_cons pe_sem (pa_cons pe_sem (pa_cons pe_sem pa_nil h3) h2) h1) hw hs) (two h hS ok fun d1 d2 M' F' H' u w q st ok' i1 i2 =>
    q F' H' σ _ (hS.mono st.ext) ok' fun d3 M3 F3 H3 v q3 st3 ok3 i3 => ⟨u, w, v, rfl, post.nx _ M3 F3 H3 _ q3 (st.trans st3) ok3 ((((hS.mono (st.trans st3).ext).set i (i1.mono st3.ext)).set j (i2.mono st3.ext)).set l i3)⟩)
/-- target = value, any target of names -/
theorem s_asg (h : EvD X e Δ M fun d M1 => ∃ Δ1 sl, GdD X tg d Δ Δ1 sl ∧ ks.nx Δ1 M1) (hs : swapsWithSole [tg] e pos.line X.env = pure false := by rfl) (hw : swappedStores [tg] e X.env = pure none := by rfl)
    (h1 : (assignEach [tg] X.env).map (·.2) = [assign tg X.env] := by rfl) : StD X (.Assign [tg] e pos) Δ M ks := fun F H σ Q hS ok post =>
  semS_of (ps_asg pe_sem pg_sem hs hw h1) (h F H σ _ hS ok fun d M1 F1 H1 v ⟨Δ1, sl, g, q⟩ st ok1 i => g F1 M1 H1 σ v _ (hS.mono st.ext) ok1 i fun σ' hS' _ => post.nx _ M1 F1 H1 _ q st ok1 hS')
/-- x[i] = e of a cell -/
theorem s_put {spos : Pos} (h : EvD X e Δ M fun y M1 => EvD X a Δ M1 fun d M2 => EvD X b Δ M2 fun j M3 => ∃ q ds n jj, d = .cell q ∧ j = .int n ∧ M3 q = some (.lst ds) ∧ ixN ds.length n = some jj ∧ ks.nx Δ (mup M3 q (.lst (ds.set jj y))))
    (hs : swapsWithSole [.Subscript a b spos] e pos.line X.env = pure false := by rfl) (hw : swappedStores [.Subscript a b spos] e X.env = pure none := by rfl) (h1 : (assignEach [.Subscript a b spos] X.env).map (·.2) = [assign (.Subscript a b spos) X.env] := by rfl)
    (ha : ∀ v, assign (.Subscript a b spos) X.env v = (do
      let ov ← holding [v] (eval a X.env)
      let iv ← holding [v, ov] (eval b X.env)
      standAt spos
      holding [v, ov, iv] (setItem ov iv v)
      release [v, ov, iv] []) := by intro _; rfl) : StD X (.Assign [.Subscript a b spos] e pos) Δ M ks := fun F H σ Q hS ok post =>
  semS_of (ps_asg pe_sem (pg_sub pe_sem pe_sem set_list ha) hs hw h1) (h F H σ _ hS ok fun y M1 F1 H1 v hq st ok1 iy => two hq (hS.mono st.ext) ok1 fun d j M3 F3 H3 u w ⟨q, ds, n, jj, e1, e2, hm, hj, hk⟩ st3 ok3 i1 i2 => by
    subst e1 e2
    obtain ⟨vs, hH, il⟩ := cell_of ok3 hm
    refine ⟨q, vs, n, jj, is_cell.1 i1, is_int.1 i2, hH, by rw [← il.length]; exact hj, ?_⟩
    have wr := ok3.write (m := .lst (ds.set jj y)) (o := .lst (vs.set jj v)) hm ⟨_, rfl, il.set jj (iy.mono st3.ext)⟩
    exact post.nx _ _ F3 _ σ hk ((st.trans st3).trans wr.2) wr.1 (hS.mono (st.trans st3).ext))
/-- x += e of ints -/
theorem s_aug {i : Nat} {pos' : Pos} (hN : X.N.Nodup) (hi : X.N[i]? = some x) (hx : Loc X.env.scope x) (hf : X.fn x = true ∨ X.env.scope.names.lookup x = some .local) {m : Int} (hm : Δ[i]? = some (some (.int m)))
    (h : EvD X e Δ M fun d M1 => ∃ n, d = .int n ∧ ks.nx (Δ.set i (some (.int (m + n)))) M1) : StD X (.AugAssign (.Name x pos') .Add e pos) Δ M ks := fun F H σ Q hS ok post => by
  refine semS_of (ps_aug hN hi hx pe_sem ip_add hf) ?_
  obtain ⟨v, h1, h2⟩ := hS.2 i _ hm
  refine ⟨v, h1, h F H σ _ hS ok fun d M1 F1 H1 u ⟨n, ed, q⟩ st ok1 i1 => ?_⟩
  subst ed
  exact ⟨m, n, is_int.1 h2, is_int.1 i1, post.nx _ M1 F1 H1 _ q st ok1 ((hS.mono st.ext).set i (is_int.2 rfl))⟩
/-! ### for -/
theorem s_for {iter : Expr} (hp : PassesOwn (model X.prog X.w) X.A X.env X.xe) (hc : X.calm = true)
    (h : ItD X tg iter Δ M fun ds M1 => ∃ I : Nat → DS → Store → Prop, I 0 Δ M1 ∧ (∀ i d Δ' M', ds[i]? = some d → I i Δ' M' → ∃ Δ1 sl, GdD X tg d Δ' Δ1 sl ∧ SsD X body Δ1 M' { nx := I (i + 1), ct := I (i + 1), bk := ks.nx, rt := ks.rt }) ∧ (∀ Δ' M', I ds.length Δ' M' → ks.nx Δ' M'))
    (hs : ∀ x, foldedSetIterable iter X.env x = pure x := by intro _; rfl) : StD X (.For tg iter body [] pos) Δ M ks := fun F H σ Q hS ok post => by
  refine semS_of (ps_for hp hc pi_sem pg_sem pss_sem hs) ?_
  refine h F H σ _ hS ok fun ds M1 F1 H1 J ⟨I, h0, hstep, hend⟩ st ok1 rep => ?_
  refine ⟨fun i m σ' H' => ∃ Δ' M' F', m = ds.length - i ∧ i ≤ ds.length ∧ Stp F1 M1 H1 F' M' H' ∧ Ok X.K F' M' H' ∧ IsS X.K F' Δ' σ' ∧ I i Δ' M', ⟨ds.length, Δ, M1, F1, rfl, Nat.zero_le _, Stp.refl, ok1, hS.mono st.ext, h0⟩, ?_⟩
  rintro i m σ' H' ⟨Δ', M', F', rfl, hi, st', ok', hS', hI⟩
  by_cases hlt : i < ds.length
  · refine .inr ⟨rep.go i F' M' H' st' ok' hlt, fun σ2 H2 => ∃ Δ2 M2 F2, Stp F1 M1 H1 F2 M2 H2 ∧ Ok X.K F2 M2 H2 ∧ IsS X.K F2 Δ2 σ2 ∧ I (i + 1) Δ2 M2,
      fun σ2 H2 ⟨Δ2, M2, F2, a1, a2, a3, a4⟩ => ⟨ds.length - (i + 1), by omega, Δ2, M2, F2, rfl, hlt, a1, a2, a3, a4⟩, fun v H2 y => ?_⟩
    obtain ⟨F2, d, hd, st2, ok2, iv⟩ := rep.yld i F' M' H' v H2 st' ok' hlt y
    obtain ⟨Δ1, sl, g, hb⟩ := hstep i d Δ' M' hd hI
    have s12 := st'.trans st2
    refine g F2 M' H2 σ' v _ (hS'.mono st2.ext) ok2 iv fun σ3 hS3 _ => hb F2 H2 σ3 _ hS3 ok2 ⟨fun Δ4 M4 F4 H4 σ4 q s4 ok4 hS4 => ⟨Δ4, M4, F4, s12.trans s4, ok4, hS4, q⟩, ?_, ?_, fun Δ4 M4 F4 H4 σ4 q s4 ok4 hS4 => ⟨Δ4, M4, F4, s12.trans s4, ok4, hS4, q⟩⟩
    · exact post.rt.step (st.trans s12)
    · exact fun Δ4 M4 F4 H4 σ4 q s4 ok4 hS4 => post.nx Δ4 M4 F4 H4 σ4 q ((st.trans s12).trans s4) ok4 hS4
  · have e : i = ds.length := by omega
    subst e
    exact .inl ⟨rep.stop F' M' H' st' ok', post.nx Δ' M' F' H' σ' (hend Δ' M' hI) (st.trans st') ok' hS'⟩
/-! ### cells frozen, dropped -/
def frzD (q : Addr) (ds : List D) (Δ : DS) : DS := Δ.map fun
  | some (.cell r) => if r = q then some (.lst ds) else some (.cell r)
  | z => z
theorem ss_freeze {q : Addr} {ds : List D} (hm : M q = some (.lst ds)) (h : SsD X sts (frzD q ds Δ) (mdel M q) ks) : SsD X sts Δ M ks := fun F H σ Q hS ok post => by
  obtain ⟨vs, hH, il⟩ := cell_of ok hm
  have hF : F q = none := (ok.mem q _ hm).1
  have st : Stp F M H (upd F q (.lst vs)) (mdel M q) H := by
    refine ⟨same_new hF, fun x u e => ?_, fun x u e _ => e, fun x m n => ?_, fun x n => n⟩
    · by_cases z : x = q
      · subst z; exact .inr (.inr (by rw [hm]; simp))
      · rw [upd_ne z] at e; exact .inl e
    · by_cases z : x = q
      · rw [z, mdel_same]
      · rw [mdel_ne z]; exact m
  have ok' : Ok X.K (upd F q (.lst vs)) (mdel M q) H := by
    refine ⟨fun x u e => ?_, fun x m e => ?_⟩
    · by_cases z : x = q
      · subst z; rw [upd_same] at e; cases e; exact .inl hH
      · rw [upd_ne z] at e; exact ok.sub x u e
    · by_cases z : x = q
      · rw [z, mdel_same] at e; cases e
      · rw [mdel_ne z] at e
        obtain ⟨g1, w, g2, g3⟩ := ok.mem x m e
        exact ⟨by rw [upd_ne z]; exact g1, w, g2, g3.mono (same_new hF)⟩
  refine h _ H σ Q ⟨by unfold frzD; rw [List.length_map]; exact hS.1, fun i d e => ?_⟩ ok' (post.step st)
  unfold frzD at e
  rw [List.getElem?_map] at e
  cases hd : Δ[i]? with
  | none => rw [hd] at e; cases e
  | some z =>
    rw [hd] at e
    cases z with
    | none => cases e
    | some d0 =>
      obtain ⟨v, h1, h2⟩ := hS.2 i d0 hd
      refine ⟨v, h1, ?_⟩
      have h3 := h2.mono (same_new (o := .lst vs) hF)
      cases d0 with
      | cell r =>
        by_cases w : r = q
        · subst w
          simp only [Option.map_some, if_true, Option.some.injEq] at e
          subst e
          rw [is_cell.1 h2]
          exact lst_new il hF
        · simp only [Option.map_some, if_neg w, Option.some.injEq] at e
          subst e
          exact h3
      | _ =>
        simp only [Option.map_some, Option.some.injEq] at e
        subst e
        exact h3
theorem ss_drop (q : Addr) (h : SsD X sts Δ (mdel M q) ks) : SsD X sts Δ M ks := fun F H σ Q hS ok post => h F H σ Q hS (ok.drop q).1 (post.step (ok.drop q).2)
/-- at a return: a cell is handed over frozen -/
theorem rt_freeze {q : Addr} {ds : List D} (hm : M q = some (.lst ds)) (h : k (.lst ds) (mdel M q)) {F H : Hp} {Q : VK} (ok : Ok X.K F M H) (post : Post X.K F M H k Q) : Q (.ref q) H := by
  obtain ⟨vs, hH, il⟩ := cell_of ok hm
  have hF : F q = none := (ok.mem q _ hm).1
  refine post (.lst ds) (mdel M q) (upd F q (.lst vs)) H (.ref q) h ?_ ?_ (lst_new il hF)
  · refine ⟨same_new hF, fun x u e => ?_, fun x u e _ => e, fun x m n => ?_, fun x n => n⟩
    · by_cases z : x = q
      · subst z; exact .inr (.inr (by rw [hm]; simp))
      · rw [upd_ne z] at e; exact .inl e
    · by_cases z : x = q
      · rw [z, mdel_same]
      · rw [mdel_ne z]; exact m
  · refine ⟨fun x u e => ?_, fun x m e => ?_⟩
    · by_cases z : x = q
      · subst z; rw [upd_same] at e; cases e; exact .inl hH
      · rw [upd_ne z] at e; exact ok.sub x u e
    · by_cases z : x = q
      · rw [z, mdel_same] at e; cases e
      · rw [mdel_ne z] at e
        obtain ⟨g1, w, g2, g3⟩ := ok.mem x m e
        exact ⟨by rw [upd_ne z]; exact g1, w, g2, g3.mono (same_new hF)⟩
/-- an expression's cell handed on frozen; cells dropped behind an expression -/
theorem ev_freeze (h : EvD X e Δ M fun d M1 => ∃ q ds, d = .cell q ∧ M1 q = some (.lst ds) ∧ k (.lst ds) (mdel M1 q)) : EvD X e Δ M k := fun F H σ Q hS ok post =>
  h F H σ Q hS ok fun d M1 F1 H1 v ⟨q, ds, ed, hm, hk⟩ st ok1 i => by
    subst ed
    rw [is_cell.1 i]
    exact rt_freeze (X := X) hm hk ok1 (post.step st)
theorem ev_drop (q : Addr) (h : EvD X e Δ M fun d M1 => k d (mdel M1 q)) : EvD X e Δ M k := fun F H σ Q hS ok post =>
  h F H σ Q hS ok fun d M1 F1 H1 v hk st ok1 i => post d _ F1 H1 v hk (st.trans (ok1.drop q).2) (ok1.drop q).1 i

/-! ### a def's contract -/
abbrev SpD := List D → Store → DK → Prop
def spOf (K : PySem.W.Frag) (sp : SpD) : Sp := fun vs H Q _ => ∃ ds F M k, IsL K F ds vs ∧ Ok K F M H ∧ sp ds M k ∧ Post K F M H k Q
def startD (N : List Str) (ds : List D) : DS := ds.map some ++ List.replicate (N.length - ds.length) none
theorem start_is {K : PySem.W.Frag} {F : Hp} {N : List Str} {ds : List D} {vs : List V} (h : IsL K F ds vs) : IsS K F (startD N ds) (L2.start N vs) := by
  unfold startD L2.start
  refine ⟨by rw [List.length_append, List.length_append, List.length_map, List.length_map, List.length_replicate, List.length_replicate, h.length], fun i d e => ?_⟩
  by_cases hi : i < ds.length
  · rw [List.getElem?_append_left (by rw [List.length_map]; exact hi), List.getElem?_map] at e
    have hi2 : i < vs.length := by rw [← h.length]; exact hi
    rw [List.getElem?_append_left (by rw [List.length_map]; exact hi2), List.getElem?_map]
    cases hd : ds[i]? with
    | none => rw [hd] at e; cases e
    | some d0 =>
      rw [hd] at e
      cases e
      obtain ⟨v, h1, h2⟩ := h.get hd
      exact ⟨v, by rw [h1]; rfl, h2⟩
  · rw [List.getElem?_append_right (by rw [List.length_map]; omega), List.getElem?_replicate] at e
    split at e <;> cases e
end
section
variable {P : Program} {w : World} {K : PySem.W.Frag} {mg : Str → Option Value} {base : Heap}
/-- the context of a def's body -/
abbrev XOf (P : Program) (w : World) (K : PySem.W.Frag) (mg : Str → Option Value) (base : Heap) (N : List Str) (qual : Str) (st : Stmt) (f : Addr) (cdv : Value) (A : Around) (outer : List Env) (s : Shared) (H : Hp) (E : XK) : Cx := (cxOf CX0 P w K mg base N qual (defScope st) f cdv A outer s H E).nox
theorem ok_d {x qual : Str} {st : Stmt} {f : Addr} {fd : FuncData} {N ps : List Str} {n : Nat} {sp : SpD} (Fn : Fun K x qual st f fd) (S : FnScope N ps (defScope st)) (len : ∀ ds M k, sp ds M k → ds.length = ps.length)
    (hbody : ∀ (cdv : Value) (A : Around) (outer : List Env) (s : Shared) (H : Hp) (E : XK) (ds : List D) (M : Store) (k : DK), Room n (A.deeper (PyProof.Rows.envOfC qual (defScope st) s.heap.objs.size f cdv)) → sp ds M k →
      SsD (XOf P w K mg base N qual st f cdv A outer s H E) (defBody st) (startD N ds) M { nx := fun _ M' => k .non M', rt := k }) : FnOk P w K mg base CX0 (n + 1) f fd ps (spOf K sp) := by
  refine Fn.ok S (fun vs H Q E ⟨ds, F, M, k, il, ok, h, post⟩ => by rw [← il.length]; exact len ds M k h) fun cdv A outer s H vs Q E hr ⟨ds, F, M, k, il, ok, h, post⟩ => ?_
  refine ⟨_, pss_sem, hbody cdv A outer s H E ds M k hr h F H (L2.start N vs) _ (start_is il) ok ⟨fun Δ' M' F' H' σ' q st' ok' _ => post .non M' F' H' .non q st' ok' (is_non.2 rfl), post, fun _ _ _ _ _ q => q.elim, fun _ _ _ _ _ q => q.elim⟩⟩
/-- a def that can be called -/
structure Cal (P : Program) (w : World) (K : PySem.W.Frag) (mg : Str → Option Value) (base : Heap) (x : Str) (n : Nat) (sp : SpD) : Prop where
  ex : ∃ f fd ps, FnOk P w K mg base CX0 n f fd ps (spOf K sp) ∧ mg x = some (.ref f) ∧ PySem.W.keepIn K (.ref f) = true ∧ Binds K fd ps []
theorem Cal.mono {x : Str} {m n : Nat} {sp : SpD} (c : Cal P w K mg base x m sp) (h : m ≤ n) : Cal P w K mg base x n sp := by
  obtain ⟨f, fd, ps, h1, h2⟩ := c.ex
  exact ⟨f, fd, ps, h1.mono h, h2⟩
end
section
variable {X : Cx} {e : Expr} {es : List Expr} {Δ : DS} {M : Store} {k : DK} {p pos : Pos} {x : Str}
theorem ev_call {n : Nat} {sp : SpD} (C : Cal X.prog X.w X.K X.mg X.base x n sp) (hr : Room n X.A) (hg : Gl X x) (h : EvA X (e :: es) Δ M fun ds M1 => sp ds M1 k) (hdb : (x == ("__debug__" : Str)) = false := by decide)
    (he : starEach (e :: es) X.env = (false, eval e X.env) :: starEach es X.env := by rfl) (hpl : (backTo pos (starEach es X.env)).any (·.1) = false := by rfl) : EvD X (.Call (.Name x p) (e :: es) [] pos) Δ M k := fun F H σ Q hS ok post => by
  obtain ⟨f, fd, ps, hF, hm, hk, hb⟩ := C.ex
  refine sem_of (pe_call (E := E0) hF hr hg hm hk hb .nil pass0 pa_sem hdb he hpl) (h F H σ _ hS ok fun ds M1 F1 H1 vs q st ok1 il => ?_)
  rw [List.append_nil]
  exact ⟨ds, F1, M1, k, il, ok1, q, post.step st⟩
theorem ev_call0 {n : Nat} {sp : SpD} (C : Cal X.prog X.w X.K X.mg X.base x n sp) (hr : Room n X.A) (hg : Gl X x) (h : sp [] M k) (hdb : (x == ("__debug__" : Str)) = false := by decide) : EvD X (.Call (.Name x p) [] [] pos) Δ M k := fun F H σ Q hS ok post => by
  obtain ⟨f, fd, ps, hF, hm, hk, hb⟩ := C.ex
  exact sem_of (pe_call0 (E := E0) hF hr hg hm hk hb .nil pass0 hdb) ⟨[], F, M, k, IsL.nil, ok, h, post⟩
end
end DL
end
section
set_option Elab.async false
set_option linter.all false
set_option maxRecDepth 100000
namespace DL
open PySem L2
section
variable {X : Cx} {a b e e2 o : Expr} {es rest : List Expr} {Δ : DS} {M : Store} {k : DK} {kb : BK} {ka : AK} {p pos apos : Pos} {x : Str} {op : CmpOp}
/-! ### a comparison as a value and as a test -/
def SemC (X : Cx) (op : CmpOp) (a b : Expr) : TE := fun σ H Q => ∀ pins s, Inv X pins σ H s → wpAny (model X.prog X.w) X.A (eval a X.env) (fun v s₁ => wpAny (model X.prog X.w) X.A (eval b X.env) (fun u s₂ => wpAny (model X.prog X.w) X.A (compareOp op v u) (EP X pins σ Q) X.xe s₂) X.xe s₁) X.xe s
theorem pc_sem : PC X op a b (SemC X op a b) := ⟨fun pins s _ _ _ I h => h pins s I⟩
theorem semC_of {t : TE} {σ : L2.St} {H : Hp} {Q : VK} (h : PC X op a b t) (q : t σ H Q) : SemC X op a b σ H Q := fun pins s I => h.run pins s σ H Q I q
theorem pc_op {r : R2} {ta tb : TE} (ho : OpR X (compareOp op) r) (ha : PE X a ta) (hb : PE X b tb) : PC X op a b (tOp r ta tb) := by
  refine ⟨fun pins s σ H Q I h => ?_⟩
  exact bin ha hb I h fun v u s2 x y H2 I2 rx ry q => ho pins s2 σ H2 x y v u Q I2 rx ry q
def EvC (X : Cx) (op : CmpOp) (a b : Expr) (Δ : DS) (M : Store) (k : DK) : Prop := ∀ F H σ (Q : VK), IsS X.K F Δ σ → Ok X.K F M H → Post X.K F M H k Q → SemC X op a b σ H Q
theorem ev_c1 (hm : behindInMarks op b = false) (h : EvC X op a b Δ M k) : EvD X (.Compare a [op] [b] pos) Δ M k := fun F H σ Q hS ok post => sem_of (pe_cmp pc_sem hm) (h F H σ Q hS ok post)
theorem te_c1 (hm : behindInMarks op b = false) (h : EvC X op a b Δ M fun d M' => ∃ c, d = .bl c ∧ kb c M') : TeD X (.Compare a [op] [b] pos) Δ M kb := fun F H σ Q hS ok post =>
  semT_of (pt_cmp pc_sem hm) (h F H σ _ hS ok fun d M' F' H' v ⟨c, ed, q⟩ st ok' i => by
    subst ed
    exact ⟨c, is_bl.1 i, post c M' F' H' q st ok'⟩)
theorem c_op2 {r : R2} (ho : OpR X (compareOp op) r) (h : EvD X a Δ M fun d1 M1 => EvD X b Δ M1 fun d2 M2 => P2 X r d1 d2 M2 k) : EvC X op a b Δ M k := fun F H σ Q hs ok post =>
  semC_of (pc_op ho pe_sem pe_sem) (two h hs ok fun d1 d2 M' F' H' x y p st ok' i1 i2 => p F' H' x y Q ok' i1 i2 (post.step st))
theorem c_co (h : EvD X a Δ M fun d1 M1 => EvD X b Δ M1 fun d2 M2 => CoP op d1 d2 M2 k) : EvC X op a b Δ M k := c_op2 op_co (h.mono fun _ _ q => q.mono fun _ _ p => p2_co p)
def EqA (neg : Bool) (d1 d2 : D) (M : Store) (k : DK) : Prop := EqS neg d1 d2 M k ∨ EqP neg d1 d2 M k
theorem c_eq (hu : X.A.units + 64 < cLine) (h : EvD X a Δ M fun d1 M1 => EvD X b Δ M1 fun d2 M2 => EqA false d1 d2 M2 k) : EvC X .Eq a b Δ M k :=
  c_op2 (op_eq.or (op_eqD hu)) (h.mono fun _ _ q => q.mono fun _ _ z F H u w Q ok i1 i2 post => by
    rcases z with ⟨x, y, h1, h2, s1, hk⟩ | ⟨p, q, h1, h2, s1, s2, hk⟩
    · rw [sc_is h1 i1, sc_is h2 i2]
      exact .inl ⟨s1, post.here ok hk (is_bl.2 rfl)⟩
    · exact .inr ⟨p, q, dp_of ok _ _ _ h1 i1, dp_of ok _ _ _ h2 i2, s1, s2, post.here ok hk (is_bl.2 rfl)⟩)
theorem c_ne (hu : X.A.units + 64 < cLine) (h : EvD X a Δ M fun d1 M1 => EvD X b Δ M1 fun d2 M2 => EqA true d1 d2 M2 k) : EvC X .NotEq a b Δ M k :=
  c_op2 (op_ne.or (op_neD hu)) (h.mono fun _ _ q => q.mono fun _ _ z F H u w Q ok i1 i2 post => by
    rcases z with ⟨x, y, h1, h2, s1, hk⟩ | ⟨p, q, h1, h2, s1, s2, hk⟩
    · rw [sc_is h1 i1, sc_is h2 i2]
      exact .inl ⟨s1, post.here ok hk (is_bl.2 rfl)⟩
    · exact .inr ⟨p, q, dp_of ok _ _ _ h1 i1, dp_of ok _ _ _ h2 i2, s1, s2, post.here ok hk (is_bl.2 rfl)⟩)
theorem c_isN {j : Nat} {p : Pos} (h : EvD X a Δ M fun d1 M1 => k (.bl (isNon d1)) M1) : EvC X .Is a (.Constant .none j p) Δ M k := fun F H σ Q hs ok post =>
  semC_of (pc_isN pe_sem) (h F H σ _ hs ok fun d M' F' H' v hk st ok' i => by
    rw [isNon_of i]
    exact (post.step st).here ok' hk (is_bl.2 rfl))
theorem c_notN {j : Nat} {p : Pos} (h : EvD X a Δ M fun d1 M1 => k (.bl (!isNon d1)) M1) : EvC X .IsNot a (.Constant .none j p) Δ M k := fun F H σ Q hs ok post =>
  semC_of (pc_notN pe_sem) (h F H σ _ hs ok fun d M' F' H' v hk st ok' i => by
    rw [isNon_of i]
    exact (post.step st).here ok' hk (is_bl.2 rfl))
/-- in: a flat thing in a sequence, a sign in a text -/
def InA (neg : Bool) (d1 d2 : D) (M : Store) (k : DK) : Prop := InP neg d1 d2 M k ∨ ∃ c z, d1 = .str ⟨#[c]⟩ ∧ d2 = .str z ∧ k (.bl (if neg then !decide (c ∈ z.cps.toList) else decide (c ∈ z.cps.toList))) M
theorem c_in (h : EvD X a Δ M fun d1 M1 => EvD X b Δ M1 fun d2 M2 => InA false d1 d2 M2 k) : EvC X .In a b Δ M k :=
  c_op2 (op_in_seq.or op_in_sign) (h.mono fun _ _ q => q.mono fun d2 M2 z F H u w Q ok i1 i2 post => by
    rcases z with ⟨x, ds, vs, h1, h2, h3, hk⟩ | ⟨c, z, e1, e2, hk⟩
    · obtain ⟨p, ws, e, hq, hl⟩ := seq_of ok h2 i2
      have ew := flatL_of h3 hl
      subst ew
      rw [sc_is h1 i1]
      exact .inl ⟨p, ws, e, hq, flatV_sc h1, flatL_all h3, post.here ok hk (is_bl.2 rfl)⟩
    · subst e1 e2
      exact .inr ⟨c, z, is_str.1 i1, is_str.1 i2, post.here ok hk (is_bl.2 rfl)⟩)
theorem c_notin (h : EvD X a Δ M fun d1 M1 => EvD X b Δ M1 fun d2 M2 => InA true d1 d2 M2 k) : EvC X .NotIn a b Δ M k :=
  c_op2 (op_notIn_seq.or op_notIn_sign) (h.mono fun _ _ q => q.mono fun d2 M2 z F H u w Q ok i1 i2 post => by
    rcases z with ⟨x, ds, vs, h1, h2, h3, hk⟩ | ⟨c, z, e1, e2, hk⟩
    · obtain ⟨p, ws, e, hq, hl⟩ := seq_of ok h2 i2
      have ew := flatL_of h3 hl
      subst ew
      rw [sc_is h1 i1]
      exact .inl ⟨p, ws, e, hq, flatV_sc h1, flatL_all h3, post.here ok hk (is_bl.2 rfl)⟩
    · subst e1 e2
      exact .inr ⟨c, z, is_str.1 i1, is_str.1 i2, post.here ok hk (is_bl.2 rfl)⟩)
theorem c_din (hu : X.A.units + 1 < cLine) (h : EvD X a Δ M fun d1 M1 => EvD X b Δ M1 fun d2 M2 => DInP false d1 d2 M2 k) : EvC X .In a b Δ M k := fun F H σ Q hS ok post =>
  semC_of (pc_din hu pe_sem pe_sem) (two h hS ok fun d1 d2 M' F' H' u y ⟨ks, ds, c, e1, e2, hk⟩ st ok' i1 i2 => by
    subst e1
    obtain ⟨q, vs, e, hq, hl, il⟩ := dct_rd ok' i2
    refine ⟨q, _, e, .inl ⟨_, c, hq, key_is e2 i1, rfl⟩, ?_⟩
    rw [some_is hl il]
    exact (post.step st).here ok' hk (is_bl.2 rfl))
theorem c_dnotin (hu : X.A.units + 1 < cLine) (h : EvD X a Δ M fun d1 M1 => EvD X b Δ M1 fun d2 M2 => DInP true d1 d2 M2 k) : EvC X .NotIn a b Δ M k := fun F H σ Q hS ok post =>
  semC_of (pc_dnotin hu pe_sem pe_sem) (two h hS ok fun d1 d2 M' F' H' u y ⟨ks, ds, c, e1, e2, hk⟩ st ok' i1 i2 => by
    subst e1
    obtain ⟨q, vs, e, hq, hl, il⟩ := dct_rd ok' i2
    refine ⟨q, _, e, .inl ⟨_, c, hq, key_is e2 i1, rfl⟩, ?_⟩
    rw [some_is hl il]
    exact (post.step st).here ok' hk (is_bl.2 rfl))
/-! ### pure chains: one answer -/
theorem we_andP {b1 b2 : Bool} (h1 : TeD X a Δ M fun c M1 => c = b1 ∧ M1 = M) (h2 : b1 = true → WeD X (.BoolOp .And (b :: rest) pos) Δ M fun c M1 => c = b2 ∧ M1 = M) (h : kb (b1 && b2) M) : WeD X (.BoolOp .And (a :: b :: rest) pos) Δ M kb :=
  we_and (h1.mono fun c M1 ⟨e1, e2⟩ => by
    subst e1 e2
    cases c with
    | true =>
      rw [if_pos rfl]
      exact fun F H σ Q hs ok post => h2 rfl F H σ Q hs ok fun c2 M2 F' H' ⟨e1, e2⟩ => by
        subst e1 e2
        exact post c2 M2 F' H' h
    | false => exact h)
theorem we_orP {b1 b2 : Bool} (h1 : TeD X a Δ M fun c M1 => c = b1 ∧ M1 = M) (h2 : b1 = false → WeD X (.BoolOp .Or (b :: rest) pos) Δ M fun c M1 => c = b2 ∧ M1 = M) (h : kb (b1 || b2) M) : WeD X (.BoolOp .Or (a :: b :: rest) pos) Δ M kb :=
  we_or (h1.mono fun c M1 ⟨e1, e2⟩ => by
    subst e1 e2
    cases c with
    | false =>
      rw [if_neg Bool.false_ne_true]
      exact fun F H σ Q hs ok post => h2 rfl F H σ Q hs ok fun c2 M2 F' H' ⟨e1, e2⟩ => by
        subst e1 e2
        exact post c2 M2 F' H' h
    | true => exact h)
theorem ev_andP {b1 b2 : Bool} (h1 : EvD X a Δ M fun d M1 => d = .bl b1 ∧ M1 = M) (h2 : b1 = true → EvD X (.BoolOp .And (b :: rest) pos) Δ M fun d M1 => d = .bl b2 ∧ M1 = M) (h : k (.bl (b1 && b2)) M) : EvD X (.BoolOp .And (a :: b :: rest) pos) Δ M k :=
  ev_and (h1.mono fun d M1 ⟨e1, e2⟩ => by
    subst e1 e2
    refine ⟨b1, rfl, ?_⟩
    cases b1 with
    | true =>
      rw [if_pos rfl]
      exact (h2 rfl).mono fun d2 M2 ⟨e1, e2⟩ => by subst e1 e2; exact h
    | false => exact h)
theorem ev_orP {b1 b2 : Bool} (h1 : EvD X a Δ M fun d M1 => d = .bl b1 ∧ M1 = M) (h2 : b1 = false → EvD X (.BoolOp .Or (b :: rest) pos) Δ M fun d M1 => d = .bl b2 ∧ M1 = M) (h : k (.bl (b1 || b2)) M) : EvD X (.BoolOp .Or (a :: b :: rest) pos) Δ M k :=
  ev_or (h1.mono fun d M1 ⟨e1, e2⟩ => by
    subst e1 e2
    refine ⟨b1, rfl, ?_⟩
    cases b1 with
    | false =>
      rw [if_neg Bool.false_ne_true]
      exact (h2 rfl).mono fun d2 M2 ⟨e1, e2⟩ => by subst e1 e2; exact h
    | true => exact h)
end
/-! ### finishers -/
section
variable {M : Store} {k : DK} {i j : Int} {x y : Str} {xs ys : List D} {c1 c2 : Bool}
theorem add_int (h : k (.int (i + j)) M) : AddP (.int i) (.int j) M k := h
theorem add_str (l : x.length + y.length ≤ sizeLine) (h : k (.str (x ++ y)) M) : AddP (.str x) (.str y) M k := ⟨l, h⟩
theorem add_lst (l : xs.length + ys.length ≤ sizeLine) (h : k (.lst (xs ++ ys)) M) : AddP (.lst xs) (.lst ys) M k := ⟨l, h⟩
theorem add_tup (l : xs.length + ys.length ≤ sizeLine) (h : k (.tup (xs ++ ys)) M) : AddP (.tup xs) (.tup ys) M k := ⟨l, h⟩
theorem num_int {g : Int → Int → D} (h : k (g i j) M) : NumP g (.int i) (.int j) M k := h
theorem num1_int {g : Int → D} (h : k (g i) M) : NumP1 g (.int i) M k := h
theorem intp_int {C : Int → Int → Prop} {g : Int → Int → D} (c : C i j) (h : k (g i j) M) : IntP C g (.int i) (.int j) M k := ⟨c, h⟩
theorem mul_int (c : IntMulOk i j) (h : k (.int (i * j)) M) : MulP (.int i) (.int j) M k := ⟨c, h⟩
theorem mul_lst (c : -(2 ^ 63) ≤ j ∧ j < 2 ^ 63 ∧ xs.length * j.toNat ≤ sizeLine) (h : k (.lst (List.replicate j.toNat xs).flatten) M) : MulP (.lst xs) (.int j) M k := ⟨c, h⟩
theorem neg_int (h : k (.int (-i)) M) : NegP (.int i) M k := h
theorem intc_int (h : k (.int i) M) : IntC (.int i) M k := h
theorem intc_bl (h : k (.int (if c1 then 1 else 0)) M) : IntC (.bl c1) M k := h
theorem lt_int (h : k (.bl (decide (i < j))) M) : CoP .Lt (.int i) (.int j) M k := h
theorem le_int (h : k (.bl (decide (i ≤ j))) M) : CoP .LtE (.int i) (.int j) M k := h
theorem gt_int (h : k (.bl (decide (j < i))) M) : CoP .Gt (.int i) (.int j) M k := h
theorem ge_int (h : k (.bl (decide (j ≤ i))) M) : CoP .GtE (.int i) (.int j) M k := h
theorem eq_int (h : k (.bl (decide (i = j))) M) : EqA false (.int i) (.int j) M k := .inl ⟨.int i, .int j, rfl, rfl, rfl, by
  have e : decide (V.int i = V.int j) = decide (i = j) := decide_eq_decide.mpr ⟨fun z => by cases z; rfl, fun z => by rw [z]⟩
  rw [e]; exact h⟩
theorem ne_int (h : k (.bl (!decide (i = j))) M) : EqA true (.int i) (.int j) M k := .inl ⟨.int i, .int j, rfl, rfl, rfl, by
  have e : decide (V.int i = V.int j) = decide (i = j) := decide_eq_decide.mpr ⟨fun z => by cases z; rfl, fun z => by rw [z]⟩
  rw [e]; exact h⟩
theorem eq_str (h : k (.bl (decide (x = y))) M) : EqA false (.str x) (.str y) M k := .inl ⟨.str x, .str y, rfl, rfl, rfl, by
  have e : decide (V.str x = V.str y) = decide (x = y) := decide_eq_decide.mpr ⟨fun z => by cases z; rfl, fun z => by rw [z]⟩
  rw [e]; exact h⟩
theorem ne_str (h : k (.bl (!decide (x = y))) M) : EqA true (.str x) (.str y) M k := .inl ⟨.str x, .str y, rfl, rfl, rfl, by
  have e : decide (V.str x = V.str y) = decide (x = y) := decide_eq_decide.mpr ⟨fun z => by cases z; rfl, fun z => by rw [z]⟩
  rw [e]; exact h⟩
theorem eq_bl (h : k (.bl (decide (c1 = c2))) M) : EqA false (.bl c1) (.bl c2) M k := .inl ⟨.bl c1, .bl c2, rfl, rfl, rfl, by
  have e : decide (V.bl c1 = V.bl c2) = decide (c1 = c2) := decide_eq_decide.mpr ⟨fun z => by cases z; rfl, fun z => by rw [z]⟩
  rw [e]; exact h⟩
theorem ne_bl (h : k (.bl (!decide (c1 = c2))) M) : EqA true (.bl c1) (.bl c2) M k := .inl ⟨.bl c1, .bl c2, rfl, rfl, rfl, by
  have e : decide (V.bl c1 = V.bl c2) = decide (c1 = c2) := decide_eq_decide.mpr ⟨fun z => by cases z; rfl, fun z => by rw [z]⟩
  rw [e]; exact h⟩
theorem eq_non (h : k (.bl true) M) : EqA false .non .non M k := .inl ⟨.non, .non, rfl, rfl, rfl, h⟩
theorem eq_nonI (h : k (.bl false) M) : EqA false .non (.int i) M k := .inl ⟨.non, .int i, rfl, rfl, rfl, h⟩
theorem sl_str {lo hi : Option Int} (l : x.length ≤ sizeLine) (h : k (.str (cutS x lo hi)) M) : SlP (.str x) lo hi M k := ⟨l, h⟩
theorem sl_tup {lo hi : Option Int} (h : k (.tup (cutD xs lo hi)) M) : SlP (.tup xs) lo hi M k := h
theorem sl_lst {lo hi : Option Int} (h : k (.lst (cutD xs lo hi)) M) : SlP (.lst xs) lo hi M k := ⟨xs, rfl, h⟩
theorem sl_frl {lo hi : Option Int} (h : k (.lst (cutD xs lo hi)) M) : SlP (.frl xs) lo hi M k := ⟨xs, rfl, h⟩
theorem iteB {A B : Prop} {c : Bool} (h1 : c = true → A) (h2 : c = false → B) : if c = true then A else B := by
  cases c with
  | true => exact h1 rfl
  | false => exact h2 rfl
end
end DL
end
section
set_option Elab.async false
set_option linter.all false
set_option maxRecDepth 100000
namespace DL
open PySem L2
section
variable {X : Cx} {a b e e2 o : Expr} {es rest : List Expr} {Δ : DS} {M : Store} {k : DK} {kb : BK} {ka : AK} {p pos apos : Pos} {x : Str} {op : CmpOp}
theorem at_cell {q : Addr} {ds : List D} {i : Int} {r : D} (h : M q = some (.lst ds)) (e : atI ds i = some r) : atD M (.cell q) i = some r := by
  have h1 : seqD M (.cell q) = some ds := by
    simp only [seqD, h]
  show (seqD M (.cell q)).bind (fun ds => atI ds i) = some r
  rw [h1]
  exact e
theorem seq_cell {q : Addr} {ds : List D} (h : M q = some (.lst ds)) : seqD M (.cell q) = some ds := by
  simp only [seqD, h]
theorem ls_cell {q : Addr} {ds : List D} (h : M q = some (.lst ds)) : lsD M (.cell q) = some ds := by
  simp only [lsD, h]
theorem len_cell {q : Addr} {ds : List D} (h : M q = some (.lst ds)) : lenD M (.cell q) = some ds.length := by
  show (seqD M (.cell q)).map List.length = some ds.length
  rw [seq_cell h]
  rfl
theorem tru_cell {q : Addr} {ds : List D} (h : M q = some (.lst ds)) : truD M (.cell q) = some (!ds.isEmpty) := by
  simp only [truD, h]
/-- a module's constant -/
theorem ev_g {d : D} {v : V} {u : Value} (hm : X.mg x = some u ∧ RelV v u ∧ ∀ F, Is X.K F d v) (hg : Gl X x) (h : k d M) (hd : (x == ("__debug__" : Str)) = false := by decide) : EvD X (.Name x pos) Δ M k :=
  ev_c (pe_glob hg hm.1 hm.2.1 hd) hm.2.2 h
theorem lc_here {c : Bool} : (fun (c' : Bool) (M' : Store) => c' = c ∧ M' = M) c M := ⟨rfl, rfl⟩
theorem lc_here2 {d : D} : (fun (c' : D) (M' : Store) => c' = d ∧ M' = M) d M := ⟨rfl, rfl⟩
/-- a < b < c as a test -/
theorem te_chain {c : Expr} {op op' : CmpOp} (hm : lastMarks [op, op'] [b, c] = false)
    (h : EvD X a Δ M fun d1 M1 => EvD X b Δ M1 fun d2 M2 => CoP op d1 d2 M2 fun d M3 => ∃ z, d = .bl z ∧ if z = true then EvD X c Δ M3 (fun d3 M4 => CoP op' d2 d3 M4 fun d M5 => ∃ z, d = .bl z ∧ kb z M5) else kb false M3) : TeD X (.Compare a [op, op'] [b, c] pos) Δ M kb := fun F H σ Q hs ok post => by
  refine semT_of (pt_chain op_co op_co pe_sem pe_sem pe_sem hm) ?_
  refine two h hs ok fun d1 d2 M' F' H' x y p st ok' i1 i2 => p2_co p F' H' x y _ ok' i1 i2 fun d M2 F2 H2 v ⟨z, ed, kz⟩ st2 ok2 i => ?_
  subst ed
  refine ⟨z, is_bl.1 i, ?_⟩
  have st12 := st.trans st2
  cases z with
  | true =>
    rw [if_pos rfl] at kz ⊢
    exact kz F2 H2 σ _ (hs.mono st12.ext) ok2 fun d3 M3 F3 H3 u k3 st3 ok3 i3 => p2_co k3 F3 H3 y u _ ok3 (i2.mono (st2.ext.trans st3.ext)) i3 fun d M4 F4 H4 v ⟨z, ed, kz⟩ st4 ok4 i => by
      subst ed
      exact ⟨z, is_bl.1 i, post z M4 F4 H4 kz ((st12.trans st3).trans st4) ok4⟩
  | false =>
    rw [if_neg Bool.false_ne_true] at kz ⊢
    exact ⟨false, rfl, post false M2 F2 H2 kz st12 ok2⟩
end
/-! ### the urn of a law -/
def Urn (M : Store) (u : Addr) (n : Nat) : Prop := ∃ a b c : Int, M u = some (.lst [.int a, .int b, .int c]) ∧ 0 ≤ a ∧ 0 ≤ b ∧ b < 2 ^ 62 ∧ 0 ≤ c ∧ c + (n : Int) ≤ 2 ^ 60
theorem Urn.le {M : Store} {u : Addr} {m n : Nat} (h : Urn M u n) (l : m ≤ n) : Urn M u m := by
  obtain ⟨a, b, c, h1, h2, h3, h4, h5, h6⟩ := h
  exact ⟨a, b, c, h1, h2, h3, h4, h5, by omega⟩
theorem Urn.mup {M : Store} {u q : Addr} {n : Nat} {m : MO} (h : Urn M u n) (l : q ≠ u) : Urn (mup M q m) u n := by
  obtain ⟨a, b, c, h1, h2⟩ := h
  exact ⟨a, b, c, by rw [mup_ne l.symm]; exact h1, h2⟩
theorem Urn.mdel {M : Store} {u q : Addr} {n : Nat} (h : Urn M u n) (l : q ≠ u) : Urn (mdel M q) u n := by
  obtain ⟨a, b, c, h1, h2⟩ := h
  exact ⟨a, b, c, by rw [mdel_ne l.symm]; exact h1, h2⟩
theorem Urn.ne {M : Store} {u q : Addr} {n : Nat} (h : Urn M u n) (l : M q = none) : q ≠ u := fun e => by
  obtain ⟨a, b, c, h1, h2⟩ := h
  rw [e, h1] at l
  cases l
/-- a draw: any number below low -/
def sp_take : SpD := fun ds M k => ∃ u low n, ds = [.cell u, .int low] ∧ 0 < low ∧ low.natAbs.log2 < 9000 ∧ Urn M u (n + 1) ∧ ∀ d m, 0 ≤ d → d < low → Urn (mup M u m) u n → k (.int d) (mup M u m)
end DL
end
section
set_option Elab.async false
set_option linter.all false
set_option maxRecDepth 100000
set_option maxHeartbeats 4000000
/-! sets of ints and texts: set(xs), sorted of it -/
namespace DSet
open PySem PySem.Spec PyProof.Rows L2
instance memKey (c : Key) : (cs : List Key) → Decidable (c ∈ cs)
  | [] => .isFalse (fun h => nomatch h)
  | d :: cs => if h : c = d then .isTrue (h ▸ List.mem_cons_self) else
    match memKey c cs with
    | .isTrue q => .isTrue (List.mem_cons_of_mem _ q)
    | .isFalse q => .isFalse (fun z => (List.mem_cons.mp z).elim h q)
def ke (e : Int × Value) : Key := match e.2 with
  | .int i _ => .inl i
  | .str x _ => .inr x
  | _ => .inl 0
def Ge (w : World) (e : Int × Value) : Prop := ∃ c : Key, keyIs c e.2 = true ∧ e.1 = keyH w c
theorem ke_of {e : Int × Value} {c : Key} (h : keyIs c e.2 = true) : ke e = c := by
  unfold ke
  rcases keyIs_shape h with ⟨i, t, rfl, e2⟩ | ⟨x, t, rfl, e2⟩ <;> rw [e2]
theorem ke_is {w : World} {e : Int × Value} (g : Ge w e) (c : Key) : keyIs c e.2 = true ↔ ke e = c := by
  obtain ⟨d, h1, _⟩ := g
  constructor
  · exact fun h => ke_of h
  · intro h
    rw [← h, ke_of h1]
    exact h1
/-- the set at a holds just S, n of them; it can be walked -/
def SK (w : World) (h : Heap) (a : Addr) (S : Key → Bool) (n : Nat) : Prop :=
  ∃ o es ep t, h.get? a = some o ∧ o.ExactSet ∧ o.data = .set es ep t ∧ (∀ e ∈ es.toList, Ge w e) ∧ (es.toList.map ke).Nodup ∧ (∀ c, S c = true ↔ c ∈ es.toList.map ke) ∧
    es.size < scanBound ∧ t.fits es.size = true ∧ es.size = n ∧ Ris t.place.toList ∧ (w.params.followText "set-order" = true ∨ t.led = true)
section
variable {P : Program} {w : World} {h h' : Heap} {a : Addr} {S : Key → Bool} {n : Nat}
theorem SK.keep (R : SK w h a S n) (k : ∀ o, h.get? a = some o → h'.get? a = some o) : SK w h' a S n := by
  obtain ⟨ob, es, ep, t, ho, rr⟩ := R
  exact ⟨ob, es, ep, t, k ob ho, rr⟩
theorem SK.same {S' : Key → Bool} (R : SK w h a S n) (e : ∀ c, S' c = S c) : SK w h a S' n := by
  have q : S' = S := funext e
  rw [q]
  exact R
theorem Ge.elems {l : List (Int × Value)} (g : ∀ e ∈ l, Ge w e) : ElemsOf (mixKind P w) l := fun e he => by
  obtain ⟨c, h1, h2⟩ := g e he
  refine ⟨⟨c, h1, h2⟩, ?_⟩
  rcases keyIs_shape h1 with ⟨i, t, rfl, e2⟩ | ⟨x, t, rfl, e2⟩ <;> rw [e2] <;> rfl
theorem Ge.mem {l : List (Int × Value)} (g : ∀ e ∈ l, Ge w e) (c : Key) : c ∈ l.map ke ↔ ∃ e ∈ l, (mixKind P w).is c e.2 = true := by
  rw [List.mem_map]
  constructor
  · rintro ⟨e, he, q⟩
    exact ⟨e, he, (ke_is (g e he) c).2 q⟩
  · rintro ⟨e, he, q⟩
    exact ⟨e, he, (ke_is (g e he) c).1 q⟩
end
section
variable {P : Program} {w : World} {A : Around} {E : Value → Shared → Prop} {s : Shared} {a : Addr} {S : Key → Bool} {n : Nat}
theorem add_tail {g : Bool → PySem.Sem Unit} (hg : ∀ (b : Bool) (s1 : Shared) (Q1 : Unit → Shared → Prop), Q1 () s1 → wpAny (model P w) A (g b) Q1 E s1)
    {ob : Obj} {es : Array (Int × Value)} {ep : Nat} {t : SetTable} (ho : s.heap.get? a = some ob) (hex : ob.ExactSet) (hd : ob.data = .set es ep t)
    {fs : Array (Int × Value)} {u : SetTable} {S' : Key → Bool} (gf : ∀ e ∈ fs.toList, Ge w e) (nf : (fs.toList.map ke).Nodup) (mf : ∀ c, S' c = true ↔ c ∈ fs.toList.map ke)
    (bf : fs.size < scanBound) (uf : u.fits fs.size = true) (ur : Ris u.place.toList) (ul : w.params.followText "set-order" = true ∨ u.led = true) {wasDummy : Bool} {R : Option Bool → Shared → Prop}
    (hR : ∀ h2, Heap.SameBut a s.heap h2 → SK w h2 a S' fs.size → R (some true) { s with heap := h2 }) :
    wpAny (model P w) A (do
        storeSet a fs u
        if (!wasDummy && u.tooFull) = true then do
            g (relayAll u fs (SetTable.grown fs.size)).2.2
            storeSet a (relayAll u fs (SetTable.grown fs.size)).1 (relayAll u fs (SetTable.grown fs.size)).2.1
            pure (some true)
          else pure (some true)) R E s := by
  refine wpAny_bind (wpAny_storeSet_of ho hd ?_ (fits_of_scanBound bf))
  have o1 := L2.store_at (es' := fs) (t' := u) ho hd
  have b1 := Heap.SameBut.update s.heap a (Obj.putSet fs u)
  split
  · have pm := relayAll_perm u fs (SetTable.grown fs.size)
    have h3 := relayAll_fits u fs (SetTable.grown fs.size)
    have r3 := L2.relayAll_ris u fs (SetTable.grown fs.size)
    have l3 := L2.relayAll_led u fs (SetTable.grown fs.size)
    generalize relayAll u fs (SetTable.grown fs.size) = Z at pm h3 r3 l3 ⊢
    obtain ⟨gs, u3, gave⟩ := Z
    dsimp only at pm h3 r3 l3 ⊢
    have zz : gs.size = fs.size := by rw [← Array.length_toList, pm.length_eq, Array.length_toList]
    have b2 : gs.size < scanBound := by rw [zz]; exact bf
    refine wpAny_bind (hg _ _ _ ?_)
    refine wpAny_bind (wpAny_storeSet_of o1 rfl ?_ (fits_of_scanBound b2))
    have o2 := L2.store_at (es' := gs) (t' := u3) o1 rfl
    refine wpAny_pure (hR _ (b1.trans (Heap.SameBut.update _ a _)) ?_)
    exact ⟨_, gs, _, u3, o2, hex, rfl, fun e he => gf e (pm.mem_iff.mp he), (pm.map ke).nodup_iff.mpr nf, fun c => (mf c).trans (pm.map ke).mem_iff.symm, b2, h3, zz, r3, ul.imp id fun z => by rw [l3]; exact z⟩
  · exact wpAny_pure (hR _ b1 ⟨_, fs, _, u, o1, hex, rfl, gf, nf, mf, bf, uf, rfl, ur, ul⟩)
theorem add_hashed {c : Key} {v : Value} {Q : Bool → Shared → Prop} (hv : keyIs c v = true) (R : SK w s.heap a S n) (room : n + 1 < scanBound)
    (hQ : ∀ h2, Heap.SameBut a s.heap h2 → SK w h2 a (fun j => S j || decide (j = c)) (if S c = true then n else n + 1) → Q (!S c) { s with heap := h2 }) :
    wpAny (model P w) A (setAddHashed a v ((mixKind P w).hash c)) Q E s := by
  obtain ⟨ob, es, ep, t, ho, hex, hd, g, nd, hm, hb, hf, hn, hr, hl⟩ := R
  have hkey : (mixKind P w).is c v = true := hv
  have hsc : v.scannable = true := by
    rcases keyIs_shape hv with ⟨i, tk, rfl, e2⟩ | ⟨x, tk, rfl, e2⟩ <;> rw [e2] <;> rfl
  have hel : ElemsOf (mixKind P w) es.toList := Ge.elems g
  unfold setAddHashed setAddHashedIn
  refine wpAny_holding (wpAny_bind (wpAny_setState_of ho hd hf ?_))
  dsimp only
  rw [byScan_of hsc hb hel]
  simp only [↓reduceIte]
  unfold setAddByScan
  refine wpAny_bind ?_
  refine wpAny_bind (wpAny_rule ?_)
  refine wpAny_bind (wpAny_setScan_of hkey ho hd hf hel ?_)
  cases hfi : List.findIdx? (fun e => (mixKind P w).is c e.2) es.toList with
  | some j =>
    dsimp only
    obtain ⟨hj, pj, _⟩ := List.findIdx?_eq_some_iff_getElem.mp hfi
    have hSc : S c = true := (hm c).2 ((Ge.mem (P := P) g c).2 ⟨es.toList[j], List.getElem_mem hj, pj⟩)
    refine wpAny_pure (wpAny_pure ?_)
    have q := hQ s.heap (Heap.SameBut.refl a s.heap) ⟨ob, es, ep, t, ho, hex, hd, g, nd, fun i => by
      rw [Bool.or_eq_true, decide_eq_true_eq, ← hm i]
      exact ⟨fun z => z.elim id (fun e => e ▸ hSc), .inl⟩, hb, hf, by rw [if_pos hSc]; exact hn, hr, hl⟩
    rw [hSc] at q
    exact q
  | none =>
    dsimp only
    have hnc : c ∉ es.toList.map ke := fun z => by
      obtain ⟨e, he, q⟩ := (Ge.mem (P := P) g c).1 z
      have cc := List.findIdx?_eq_none_iff.mp hfi e he
      rw [q] at cc
      cases cc
    have hSc : S c = false := by
      cases q : S c with
      | false => rfl
      | true => exact absurd ((hm c).1 q) hnc
    have hgw : ∀ (b : Bool) {s1 : Shared} {Q1 : Unit → Shared → Prop}, Q1 () s1 → wpAny (model P w) A (match b with | true => rule "set.scan.the-table-gave-way" | false => pure ()) Q1 E s1 :=
      fun b s1 Q1 q => by cases b <;> first | exact wpAny_pure q | exact wpAny_rule q
    have pm := layNew_perm t es ((mixKind P w).hash c) v
    have f1 := layNew_fits t es ((mixKind P w).hash c) v
    have r1 := L2.layNew_ris t es ((mixKind P w).hash c) v hr
    have l1 := L2.layNew_led t es ((mixKind P w).hash c) v
    generalize layNew t es ((mixKind P w).hash c) v = Z at pm f1 r1 l1 ⊢
    obtain ⟨fs, u, wasDummy, gave⟩ := Z
    dsimp only at pm f1 r1 l1 ⊢
    rw [Array.toList_push] at pm
    have pc : fs.toList.Perm (((mixKind P w).hash c, v) :: es.toList) := pm.trans (List.perm_append_singleton _ _)
    have kc : ke ((mixKind P w).hash c, v) = c := ke_of (e := ((mixKind P w).hash c, v)) hv
    have pk : (fs.toList.map ke).Perm (c :: es.toList.map ke) := by
      have z := pc.map ke
      rw [List.map_cons, kc] at z
      exact z
    have gf : ∀ e ∈ fs.toList, Ge w e := fun e he => by
      rcases List.mem_cons.mp (pc.mem_iff.mp he) with z | z
      · rw [z]; exact ⟨c, hv, rfl⟩
      · exact g e z
    have nf : (fs.toList.map ke).Nodup := pk.nodup_iff.mpr (List.nodup_cons.mpr ⟨hnc, nd⟩)
    have mf : ∀ i, (S i || decide (i = c)) = true ↔ i ∈ fs.toList.map ke := fun i => by
      rw [Bool.or_eq_true, decide_eq_true_eq, hm i, pk.mem_iff, List.mem_cons]
      exact Or.comm
    have zz : fs.size = n + 1 := by rw [← Array.length_toList, pc.length_eq, List.length_cons, Array.length_toList, hn]
    have bf : fs.size < scanBound := by rw [zz]; exact room
    have ul : w.params.followText "set-order" = true ∨ u.led = true := hl.imp id fun z => by rw [l1]; exact z
    have fin : ∀ h2, Heap.SameBut a s.heap h2 → SK w h2 a (fun j => S j || decide (j = c)) fs.size → Q true { s with heap := h2 } := fun h2 sb r => by
      have q := hQ h2 sb
      rw [hSc] at q
      rw [zz] at r
      exact q r
    refine wpAny_bind (hgw _ ?_)
    split
    · refine wpAny_bind ?_
      rw [hashByValue_scannable 8 hsc]
      refine wpAny_pure ?_
      refine add_tail ?_ ho hex hd gf nf mf bf ?_ ?_ ?_ ?_
      · intro b s1 Q1 q; cases b <;> first | exact wpAny_pure q | exact wpAny_rule q
      · first | (split <;> first | exact f1 | exact SetTable.fits_plain_off f1) | exact f1
      · first | (split <;> exact r1) | exact r1
      · first | (split <;> exact ul) | exact ul
      · intro h2 sb r; dsimp only; exact wpAny_pure (fin h2 sb r)
    · refine wpAny_bind (wpAny_pure ?_)
      simp only [↓reduceIte]
      refine add_tail ?_ ho hex hd gf nf mf bf f1 r1 ul ?_
      · intro b s1 Q1 q; cases b <;> first | exact wpAny_pure q | exact wpAny_rule q
      · intro h2 sb r; dsimp only; exact wpAny_pure (fin h2 sb r)
/-- the empty set as it is made -/
abbrev freshSet (w : World) : Obj := { cls := .type "set", dict := none, data := .set #[] 0 (.fresh 0 0 (!w.params.followText "set-order")) }
theorem SK.fresh {h : Heap} {cs : List Key} (ho : h.get? a = some (freshSet w)) : SK w h a (fun j => decide (j ∈ cs.take 0)) 0 :=
  ⟨_, #[], 0, _, ho, ⟨rfl, rfl, rfl⟩, rfl, (fun e he => by simp at he), (by simp), (fun k => by simp), (by decide), (by rfl), rfl, List.Pairwise.nil, by
    show _ ∨ (!w.params.followText "set-order") = true
    cases w.params.followText "set-order"
    · exact .inr rfl
    · exact .inl rfl⟩
theorem update_keys {I : Addr} {fp wr : List Addr} {G : Array GenState → Array GenState → Prop} {n : Nat} {Pv : Nat → Value → Prop} {St : Nat → Shared → Prop} {R : Result → Shared → Prop}
    (W : WalksS P w A.in1 I fp wr G n Pv St) (T : Addr) (hT : T ∉ fp) (cs : List Key) (hn : n = cs.length) (hb : cs.length + 1 < scanBound) (hval : ∀ i v, Pv i v → ∃ c, cs[i]? = some c ∧ keyIs c v = true) :
    ∀ (k i : Nat) (s : Shared), n - i = k → i ≤ n → St i s → (∃ c, c ≤ i ∧ SK w s.heap T (fun j => decide (j ∈ cs.take i)) c) →
      (∀ s2 c, Moved (T :: wr) G s s2 → c ≤ n → SK w s2.heap T (fun j => decide (j ∈ cs)) c → R (.ok (.ret .none)) s2) →
      codeAny (model P w) A (.builtin "set.update.loop" ⟨[.ref T, .ref I], []⟩) R s := by
  have hTw : T ∉ wr := fun h => hT (W.sub _ h)
  have hsub : ∀ b ∈ wr, b ∈ T :: wr := fun b hb => List.mem_cons_of_mem _ hb
  intro k
  induction k with
  | zero =>
    intro i s hk2 hi hst ⟨c, hc, hS⟩ hR
    have hin : i = n := by omega
    subst hin
    refine codeAny_builtin PyProof.Rows.F.entry_set_update_loop ?_
    rw [Around.under_plainId PyProof.Rows.F.plain_set_update_loop _]
    show wpAny _ A.in1 (pyNext (.ref I) >>= _) _ _ s
    refine wpAny_bind (W.done s _ _ hst fun s2 hm => ?_)
    show wpAny _ A.in1 (ret Value.none) _ _ s2
    have e : cs.take i = cs := List.take_of_length_le (by omega)
    rw [e] at hS
    exact wpAny_pure (hR s2 c (hm.mono hsub) hc (hS.keep fun o e => hm.heap T o hTw e))
  | succ k ih =>
    intro i s hk2 hi hst ⟨c, hc, hS⟩ hR
    have hlt : i < n := by omega
    refine codeAny_builtin PyProof.Rows.F.entry_set_update_loop ?_
    rw [Around.under_plainId PyProof.Rows.F.plain_set_update_loop _]
    show wpAny _ A.in1 (pyNext (.ref I) >>= _) _ _ s
    refine wpAny_bind (W.item i s _ _ hlt hst fun v s2 hP hst2 hm => ?_)
    obtain ⟨z, hz, hv⟩ := hval i v hP
    have hS2 : SK w s2.heap T (fun j => decide (j ∈ cs.take i)) c := hS.keep fun o e => hm.heap T o hTw e
    show wpAny _ A.in1 (holding [v] (setAdd T v) >>= _) _ _ s2
    refine wpAny_bind (wpAny_holding ?_)
    unfold setAdd
    refine wpAny_holding ?_
    refine wpAny_bind ((mixKind P w).pyHash (k := z) hv ?_)
    refine add_hashed (s := { s2 with toks := s2.toks + 1 }) hv hS2 (by omega) fun h3 hsb hS3 => ?_
    have hS4 : SK w h3 T (fun j => decide (j ∈ cs.take (i + 1))) (if decide (z ∈ cs.take i) = true then c else c + 1) := hS3.same fun j => by
      rw [List.take_add_one, hz]
      simp [List.mem_append]
    have hc4 : (if decide (z ∈ cs.take i) = true then c else c + 1) ≤ i + 1 := by
      split <;> omega
    refine wpAny_pure ⟨plainId_quiet PyProof.Rows.F.plain_set_update_loop _, ih (i + 1) _ (by omega) hlt (W.frame _ s2 _ _ hst2 (Nat.le_succ _) fun b hb o e => ?_) ⟨_, hc4, hS4⟩ fun s5 c2 hm5 hc5 hS5 => ?_⟩
    · rw [hsb.2 b (fun h : b = T => hT (by rw [← h]; exact hb))]; exact e
    · refine hR s5 c2 (Moved.trans W.gtrans ((hm.mono hsub).then_heap (Nat.le_succ _) fun b o hb e => ?_) hm5) hc5 hS5
      rw [hsb.2 b (fun h : b = T => hb (by rw [h]; exact List.mem_cons_self))]; exact e
end
end DSet
end
section
set_option Elab.async false
set_option linter.all false
set_option maxRecDepth 100000
set_option maxHeartbeats 4000000
namespace DSet
open PySem PySem.Spec PyProof.Rows L2
section
variable {P : Program} {w : World} {A : Around} {E : Value → Shared → Prop} {s : Shared}
set_option maxHeartbeats 8000000 in
theorem call_set_list {l : Addr} {items : Array Value} (cs : List Key) {Q : Value → Shared → Prop} (hh : A.handled = none) (hl : s.heap.IsList l items) (hlen : items.size = cs.length) (hval : ∀ (i : Nat) (v : Value), items[i]? = some v → ∃ c, cs[i]? = some c ∧ keyIs c v = true) (hb : cs.length + 1 < scanBound)
    (h : ∀ (h2 : Heap) (tk c : Nat), SK w h2 s.heap.objs.size (fun j => decide (j ∈ cs)) c → c ≤ cs.length → (∀ b o, s.heap.get? b = some o → h2.get? b = some o) → Q (.ref s.heap.objs.size) { s with heap := h2, toks := tk }) :
    wpAny (model P w) A (call (.type "set") [.ref l]) Q E s := by
  obtain ⟨c, tl, hmro⟩ := PySem.F.called_set.mro
  have hmade := PySem.F.called_set.made
  have hsub := PySem.F.called_set.sub
  refine wpAny_call (codeAny_of_tree ?_)
  show wpAny _ _ (callAny (.type "set") _) _ _ _
  refine wpAny_pure ⟨Code.quiet_builtin _ (by decide +kernel), codeAny_builtin PySem.F.entry_type_call ?_⟩
  rw [Around.under_plain (weight_type_call_type "set" [.ref l] []) rfl]
  have h1 := PySem.F.called_set.notType
  have h2 := PySem.F.called_set.canCreate
  have hct := PySem.F.typeCall_set_1 (.ref l)
  repeat (any_goals (first | assumption | wp_step))
  refine codeAny_mono (L2.code_set_led1 (.ref l) (E := E) (Q₁ := fun obj s1 => obj = .ref s.heap.objs.size ∧ s1 = { s with heap := s.heap.push (freshSet w) }) ⟨rfl, rfl⟩) fun r s1 hr => ?_
  cases r with
  | error e => exact hr
  | ok fl =>
    cases fl with
    | ret obj =>
      obtain ⟨rfl, rfl⟩ := hr
      have hS : (s.heap.push (freshSet w)).get? s.heap.objs.size = some (freshSet w) := Heap.get?_push_size _ rfl
      have hT : Shared.TypeIs { s with heap := s.heap.push (freshSet w) } (.ref s.heap.objs.size) "set" := ⟨_, hS, rfl⟩
      have hli := PySem.F.called_set.init.lookup
      have hbi := PySem.F.called_set.init.bind (.ref s.heap.objs.size)
      repeat (any_goals (first | assumption | wp_step))
      refine codeAny_mono (codeAny_call_builtin (R := wants (fun r s2 => r = .none ∧ ∃ h2 tk c, s2 = { s with heap := h2, toks := tk } ∧ SK w h2 s.heap.objs.size (fun j => decide (j ∈ cs)) c ∧ c ≤ cs.length ∧
          (∀ b o, s.heap.get? b = some o → h2.get? b = some o)) E) PySem.F.called_set.init.plain PySem.F.entry_set_init (check_set_init_1 hT ?_)) fun r2 s2 hr2 => ?_
      · obtain ⟨ol, hol, hcl, nl, hdl⟩ := hl
        obtain ⟨ocls, odict, odata, oslots⟩ := ol
        simp only at hcl hdl
        subst hcl; subst hdl
        have hol2 : (s.heap.push (freshSet w)).get? l = some { cls := .type "list", dict := odict, data := .seq items nl, slots := oslots } := Heap.get?_push_of_some _ hol
        have hsls := PySem.F.sub_list_set
        have hslf := PySem.F.sub_list_frozenset
        have hne : (Value.type "list" == Value.type "dict") = false := by decide
        have hl1 : (s.heap.push (freshSet w)).IsList l items := ⟨_, hol2, rfl, nl, rfl⟩
        unfold Builtin.«set.__init__» noKeywords Builtin.Frozenset.updateFrom
        generalize hPI : pyIter = PI
        wp_walk
        subst hPI
        refine wpAny_pyIter_list hl1 ?_
        refine wpAny_bind (wpAny_runValue ?_)
        have hlS : l < s.heap.objs.size := Heap.lt_size hol
        have hh3 : A.in1.in1.in1.handled = none := by simp [hh]
        have hneI : l ≠ (s.heap.push (freshSet w)).objs.size := by
          rw [Heap.size_push]; exact Nat.ne_of_lt (Nat.lt_succ_of_lt hlS)
        have hSf : s.heap.objs.size ∉ [(s.heap.push (freshSet w)).objs.size, l] := by
          rw [Heap.size_push]; simp only [List.mem_cons, List.mem_singleton, List.not_mem_nil, or_false, not_or]
          exact ⟨Nat.ne_of_lt (Nat.lt_succ_self _), Nat.ne_of_gt hlS⟩
        refine update_keys ((Walks.list hh3 _ l hneI items).toS) s.heap.objs.size
          hSf cs hlen hb hval (items.size - 0) 0 _ (by omega) (Nat.zero_le _)
          ⟨⟨_, Heap.get?_push_size _ rfl, rfl, rfl⟩, (hl1.push _)⟩ ?hS0 ?hR
        case hS0 => exact ⟨0, Nat.le_refl 0, SK.fresh (Heap.get?_push_of_some _ hS)⟩
        case hR =>
          intro s9 c9 hm hc9 hS9
          obtain ⟨h9, g9, d9, tk9, os9⟩ := s9
          have eg : g9 = s.gens := hm.gens
          have ed : d9 = s.drawn := hm.drawn
          have eo : os9 = s.os := hm.os
          subst eg; subst ed; subst eo
          show wpAny _ _ _ _ _ _
          refine wpAny_pure ?_
          show wpAny _ _ (ret Value.none) _ _ _
          rw [hlen] at hc9
          refine wpAny_pure ⟨rfl, h9, tk9, c9, rfl, hS9, hc9, fun b o e => ?_⟩
          have hb0 : b < s.heap.objs.size := Heap.lt_size e
          have hb1 : b ≠ s.heap.objs.size := Nat.ne_of_lt hb0
          have hb2 : b ≠ (s.heap.push (freshSet w)).objs.size := by
            rw [Heap.size_push]; exact Nat.ne_of_lt (Nat.lt_succ_of_lt hb0)
          exact hm.heap b o (by simp only [List.mem_cons, List.mem_singleton, List.not_mem_nil, or_false, not_or]; exact ⟨hb1, hb2⟩) (Heap.get?_push_of_some _ (Heap.get?_push_of_some _ e))
      · cases r2 with
        | error e => exact hr2
        | ok fl2 =>
          cases fl2 with
          | ret r =>
            obtain ⟨rfl, h9, tk, c9, rfl, hS9, hc9, hk9⟩ := hr2
            repeat (any_goals (first | assumption | wp_step))
            exact h _ _ _ hS9 hc9 hk9
          | _ => exact hr2.elim
    | _ => exact hr.elim
set_option maxHeartbeats 8000000 in
theorem call_set_tup {l : Addr} {items : Array Value} (cs : List Key) {Q : Value → Shared → Prop} (hh : A.handled = none) (hl : s.heap.IsTuple l items) (hlen : items.size = cs.length) (hval : ∀ (i : Nat) (v : Value), items[i]? = some v → ∃ c, cs[i]? = some c ∧ keyIs c v = true) (hb : cs.length + 1 < scanBound)
    (h : ∀ (h2 : Heap) (tk c : Nat), SK w h2 s.heap.objs.size (fun j => decide (j ∈ cs)) c → c ≤ cs.length → (∀ b o, s.heap.get? b = some o → h2.get? b = some o) → Q (.ref s.heap.objs.size) { s with heap := h2, toks := tk }) :
    wpAny (model P w) A (call (.type "set") [.ref l]) Q E s := by
  obtain ⟨c, tl, hmro⟩ := PySem.F.called_set.mro
  have hmade := PySem.F.called_set.made
  have hsub := PySem.F.called_set.sub
  refine wpAny_call (codeAny_of_tree ?_)
  show wpAny _ _ (callAny (.type "set") _) _ _ _
  refine wpAny_pure ⟨Code.quiet_builtin _ (by decide +kernel), codeAny_builtin PySem.F.entry_type_call ?_⟩
  rw [Around.under_plain (weight_type_call_type "set" [.ref l] []) rfl]
  have h1 := PySem.F.called_set.notType
  have h2 := PySem.F.called_set.canCreate
  have hct := PySem.F.typeCall_set_1 (.ref l)
  repeat (any_goals (first | assumption | wp_step))
  refine codeAny_mono (L2.code_set_led1 (.ref l) (E := E) (Q₁ := fun obj s1 => obj = .ref s.heap.objs.size ∧ s1 = { s with heap := s.heap.push (freshSet w) }) ⟨rfl, rfl⟩) fun r s1 hr => ?_
  cases r with
  | error e => exact hr
  | ok fl =>
    cases fl with
    | ret obj =>
      obtain ⟨rfl, rfl⟩ := hr
      have hS : (s.heap.push (freshSet w)).get? s.heap.objs.size = some (freshSet w) := Heap.get?_push_size _ rfl
      have hT : Shared.TypeIs { s with heap := s.heap.push (freshSet w) } (.ref s.heap.objs.size) "set" := ⟨_, hS, rfl⟩
      have hli := PySem.F.called_set.init.lookup
      have hbi := PySem.F.called_set.init.bind (.ref s.heap.objs.size)
      repeat (any_goals (first | assumption | wp_step))
      refine codeAny_mono (codeAny_call_builtin (R := wants (fun r s2 => r = .none ∧ ∃ h2 tk c, s2 = { s with heap := h2, toks := tk } ∧ SK w h2 s.heap.objs.size (fun j => decide (j ∈ cs)) c ∧ c ≤ cs.length ∧
          (∀ b o, s.heap.get? b = some o → h2.get? b = some o)) E) PySem.F.called_set.init.plain PySem.F.entry_set_init (check_set_init_1 hT ?_)) fun r2 s2 hr2 => ?_
      · obtain ⟨ol, hol, hcl, nl, hdl⟩ := hl
        obtain ⟨ocls, odict, odata, oslots⟩ := ol
        simp only at hcl hdl
        subst hcl; subst hdl
        have hol2 : (s.heap.push (freshSet w)).get? l = some { cls := .type "tuple", dict := odict, data := .seq items nl, slots := oslots } := Heap.get?_push_of_some _ hol
        have hsls := PySem.F.sub_tuple_set
        have hslf := PySem.F.sub_tuple_frozenset
        have hne : (Value.type "tuple" == Value.type "dict") = false := by decide
        have hl1 : (s.heap.push (freshSet w)).IsTuple l items := ⟨_, hol2, rfl, nl, rfl⟩
        unfold Builtin.«set.__init__» noKeywords Builtin.Frozenset.updateFrom
        generalize hPI : pyIter = PI
        wp_walk
        subst hPI
        refine wpAny_pyIter_tuple hl1 ?_
        refine wpAny_bind (wpAny_runValue ?_)
        have hlS : l < s.heap.objs.size := Heap.lt_size hol
        have hh3 : A.in1.in1.in1.handled = none := by simp [hh]
        have hneI : l ≠ (s.heap.push (freshSet w)).objs.size := by
          rw [Heap.size_push]; exact Nat.ne_of_lt (Nat.lt_succ_of_lt hlS)
        have hSf : s.heap.objs.size ∉ [(s.heap.push (freshSet w)).objs.size, l] := by
          rw [Heap.size_push]; simp only [List.mem_cons, List.mem_singleton, List.not_mem_nil, or_false, not_or]
          exact ⟨Nat.ne_of_lt (Nat.lt_succ_self _), Nat.ne_of_gt hlS⟩
        refine update_keys ((Walks.tuple hh3 _ l hneI items).toS) s.heap.objs.size
          hSf cs hlen hb hval (items.size - 0) 0 _ (by omega) (Nat.zero_le _)
          ⟨⟨_, Heap.get?_push_size _ rfl, rfl, rfl⟩, (hl1.push _)⟩ ?hS0 ?hR
        case hS0 => exact ⟨0, Nat.le_refl 0, SK.fresh (Heap.get?_push_of_some _ hS)⟩
        case hR =>
          intro s9 c9 hm hc9 hS9
          obtain ⟨h9, g9, d9, tk9, os9⟩ := s9
          have eg : g9 = s.gens := hm.gens
          have ed : d9 = s.drawn := hm.drawn
          have eo : os9 = s.os := hm.os
          subst eg; subst ed; subst eo
          show wpAny _ _ _ _ _ _
          refine wpAny_pure ?_
          show wpAny _ _ (ret Value.none) _ _ _
          rw [hlen] at hc9
          refine wpAny_pure ⟨rfl, h9, tk9, c9, rfl, hS9, hc9, fun b o e => ?_⟩
          have hb0 : b < s.heap.objs.size := Heap.lt_size e
          have hb1 : b ≠ s.heap.objs.size := Nat.ne_of_lt hb0
          have hb2 : b ≠ (s.heap.push (freshSet w)).objs.size := by
            rw [Heap.size_push]; exact Nat.ne_of_lt (Nat.lt_succ_of_lt hb0)
          exact hm.heap b o (by simp only [List.mem_cons, List.mem_singleton, List.not_mem_nil, or_false, not_or]; exact ⟨hb1, hb2⟩) (Heap.get?_push_of_some _ (Heap.get?_push_of_some _ e))
      · cases r2 with
        | error e => exact hr2
        | ok fl2 =>
          cases fl2 with
          | ret r =>
            obtain ⟨rfl, h9, tk, c9, rfl, hS9, hc9, hk9⟩ := hr2
            repeat (any_goals (first | assumption | wp_step))
            exact h _ _ _ hS9 hc9 hk9
          | _ => exact hr2.elim
    | _ => exact hr.elim
end
end DSet
end
section
set_option Elab.async false
set_option linter.all false
set_option maxRecDepth 100000
set_option maxHeartbeats 4000000
namespace DSet
open PySem PySem.Spec PyProof.Rows L2
section
variable {P : Program} {w : World} {A : Around} {E : Value → Shared → Prop} {s : Shared}

/-! ### sorted(set(xs)) of texts -/
theorem strs_of : ∀ (l : List Value), (∀ v ∈ l, ∃ x tk, v = Value.str x tk) → ∃ xs : List Str, StrsAre l xs ∧ xs.map Sum.inr = l.map fun v => ke (0, v)
  | [], _ => ⟨[], .nil, rfl⟩
  | v :: l, h => by
    obtain ⟨x, tk, rfl⟩ := h v List.mem_cons_self
    obtain ⟨xs, h1, h2⟩ := strs_of l fun u hu => h u (List.mem_cons_of_mem _ hu)
    exact ⟨x :: xs, .cons x tk h1, by rw [List.map_cons, List.map_cons, h2]; rfl⟩
theorem sorted_texts {a : Addr} {S : Key → Bool} {n : Nat} {Q : Value → Shared → Prop} (R : SK w s.heap a S n) (hS : ∀ c, S c = true → ∃ x, c = .inr x) (hh : A.handled = none)
    (hQ : ∀ s2 p (out : Array Value) (c : Nat) (ys : List Str), (∀ b o, s.heap.get? b = some o → s2.heap.get? b = some o) → s2.gens = s.gens → s2.os = s.os → s.heap.objs.size ≤ p →
      s2.heap.get? p = some (seqObj "list" out c) → StrsAre out.toList ys → sortedS ys = true → ys.Nodup → (∀ x, x ∈ ys ↔ S (.inr x) = true) → ys.length = n → Q (.ref p) s2) :
    wpAny (model P w) A (call (.builtin "sorted") [.ref a]) Q E s := by
  obtain ⟨ob, es, ep, t, ho, hex, hd, g, nd, hm, hb, hf, hn, hr, hl⟩ := R
  refine Calls.call_function_entry kind_sorted plain_sorted entry_sorted (args_sorted1 _) ?_
  unfold Builtin.«sorted»
  refine wpAny_bind (m := checkCount "sorted" 1 1 _) (wpAny_pure ?_)
  refine wpAny_bind (L2.collect_set (A := A.in1) hh ⟨ob, ho, hex.1, hd⟩ hf hb hr hl fun s1 vs k1 hz g1 o1 pm => ?_)
  have hvl : vs.length = n := by rw [pm.length_eq, List.length_map, Array.length_toList]; exact hn
  have hns : n ≤ sizeLine := by rw [← hn]; exact fits_of_scanBound hb
  obtain ⟨xs, hX, ex⟩ := strs_of vs fun v hv => by
    obtain ⟨e, he, q⟩ := List.mem_map.mp (pm.mem_iff.mp hv)
    obtain ⟨c, h1, _⟩ := g e he
    obtain ⟨x, rfl⟩ := hS c ((hm c).2 (List.mem_map.mpr ⟨e, he, ke_of h1⟩))
    rcases keyIs_shape h1 with ⟨i, tk, e1, _⟩ | ⟨y, tk, e1, e2⟩
    · cases e1
    · exact ⟨y, tk, by rw [← q]; exact e2⟩
  have pk : (xs.map (Sum.inr : Str → Key)).Perm (es.toList.map ke) := by
    rw [ex]
    have q := pm.map fun v => ke (0, v)
    rw [List.map_map] at q
    exact q
  refine wpAny_bind (wpAny_newList ?_ (by rw [hvl]; exact hns))
  have hoL : (s1.heap.push (seqObj "list" vs.toArray 0)).get? s1.heap.objs.size = some (seqObj "list" vs.toArray 0) := Heap.get?_push_size _ rfl
  refine wpAny_bind (wpAny_holding (wpAny_call_entry slot_list_sort ⟨_, hoL, rfl⟩ entry_list_sort (list_sort_treeKAny strKind_oneLt hoL hX.keysOf (fun v1 v2 rest e => keyKind_strs (by rw [← e]; exact hX)) (by rw [hvl]; exact hns) fun st2 hp hs => ⟨_, rfl, ?_⟩) (args_list_sort _)))
  obtain ⟨ys, h1, h2, h3⟩ := sorted_out_str hX hp hs
  obtain ⟨c, hc⟩ := sortedHeap_at (vs := vs) (out := (arrOf st2).map (·.2)) hoL
  have pn : (ys.map (Sum.inr : Str → Key)).Perm (es.toList.map ke) := (h2.map _).trans pk
  have nd2 : ys.Nodup := by
    have z := pn.nodup_iff.mpr nd
    exact List.Pairwise.of_map _ (fun x y h e => h (by rw [e])) z
  refine wpAny_pure ⟨_, rfl, hQ _ s1.heap.objs.size _ c ys (fun b u e => ?_) g1 o1 hz hc h1 h3 nd2 (fun x => ?_) ?_⟩
  · have q := k1 b u e
    have hlt := Heap.lt_size q
    show (sortedHeap (s1.heap.push (seqObj "list" vs.toArray 0)) s1.heap.objs.size vs _).get? b = some u
    rw [sortedHeap_old (Nat.ne_of_lt hlt) (by rw [size_push']; exact Nat.lt_succ_of_lt hlt)]
    exact Heap.get?_push_of_some _ q
  · rw [hm, ← pn.mem_iff, List.mem_map]
    exact ⟨fun z => ⟨x, z, rfl⟩, fun ⟨y, z, e⟩ => by cases e; exact z⟩
  · have z := pn.length_eq
    rw [List.length_map, List.length_map, Array.length_toList] at z
    exact z.trans hn
end
/-- sorted(set(x)), x a list or tuple of texts -/
def tSortSet (K : PySem.W.Frag) (ta : TE) : TE := fun σ H Q => ta σ H fun x H1 => ∃ (l : Addr) (xs : List Str), x = .ref l ∧ (SqL K H1 l (xs.map V.str) ∨ SqT K H1 l (xs.map V.str)) ∧ xs.length + 1 < scanBound ∧
  ∀ (ys : List Str) (p : Addr), sortedS ys = true → ys.Nodup → (∀ z, z ∈ ys ↔ z ∈ xs) → H1 p = none → Q (.ref p) (upd H1 p (.lst (ys.map V.str)))
theorem key_at {xs : List Str} {its : List Value} (r : Vals (xs.map V.str) its) (i : Nat) (v : Value) (h : its.toArray[i]? = some v) : ∃ c, (xs.map (Sum.inr : Str → Key))[i]? = some c ∧ keyIs c v = true := by
  have h2 : its[i]? = some v := by simpa using h
  have hi : i < xs.length := by
    have q := (List.getElem?_eq_some_iff.mp h2).1
    rw [← r.length, List.length_map] at q
    exact q
  obtain ⟨u, hu, ru⟩ := r.get (i := i) (x := .str xs[i]) (by rw [List.getElem?_map, List.getElem?_eq_getElem hi]; rfl)
  rw [h2] at hu
  cases hu
  obtain ⟨t, rfl⟩ := ru
  exact ⟨.inr xs[i], by rw [List.getElem?_map, List.getElem?_eq_getElem hi]; rfl, keyIs_str _ _⟩
theorem pe_sortSet {X : Cx} {a : Expr} {ta : TE} {p p2 q pos : Pos} (hg : Gl X "sorted") (hm : X.mg "sorted" = none) (hg2 : Gl X "set") (hm2 : X.mg "set" = none) (ha : PE X a ta) (hc : X.calm = true)
    (na : starEach [a] X.env = (false, eval a X.env) :: starEach [] X.env) (nb : starEach [.Call (.Name "set" p2) [a] [] q] X.env = (false, eval (.Call (.Name "set" p2) [a] [] q) X.env) :: starEach [] X.env) : PE X (.Call (.Name "sorted" p) [.Call (.Name "set" p2) [a] [] q] [] pos) (tSortSet X.K ta) := by
  refine ⟨fun pins s σ H Q I h => ?_⟩
  refine Call_ (ld_blt I hg hm (show bootBuiltins "sorted" = some (.builtin "sorted") by decide +kernel) ?_)
  refine PyProof.Rows.callWith_builtin1 (PyProof.Rows.args_cons ?_ nb) nb rfl
  refine Call_ (ld_blt I hg2 hm2 boot_set ?_)
  refine PyProof.Rows.callWith_type1 (PyProof.Rows.args_cons (thn (ha.run pins s σ H _ I h) fun v s1 ⟨x, H1, I1, r1, q1⟩ => PyProof.Rows.args_nil ?_) na) na rfl
  obtain ⟨l, xs, rfl, hq, hb, q1⟩ := q1
  cases r1
  have fin : ∀ (h2 : Heap) (tk c : Nat), SK X.w h2 s1.heap.objs.size (fun j => decide (j ∈ xs.map (Sum.inr : Str → Key))) c → c ≤ (xs.map (Sum.inr : Str → Key)).length → (∀ b o, s1.heap.get? b = some o → h2.get? b = some o) →
      wpAny (model X.prog X.w) X.A (call (.builtin "sorted") [.ref s1.heap.objs.size]) (EP X pins σ Q) X.xe { s1 with heap := h2, toks := tk } := fun h2 tk c hS hc2 hk => by
    have I2 : Inv X pins σ H1 { s1 with heap := h2, toks := tk } := I1.kept fun b o e => hk b o e
    refine sorted_texts hS (fun c h => ?_) (I1.ok.hd hc) fun s3 r out n ys k3 g3 o3 hz hr hY hs nd hx hl => ?_
    · have z := of_decide_eq_true h
      obtain ⟨x, _, e⟩ := List.mem_map.mp z
      exact ⟨x, e.symm⟩
    · have hlen : (ys.map V.str).length ≤ sizeLine := by
        rw [List.length_map, hl]
        rw [List.length_map] at hc2
        have := fits_of_scanBound (n := xs.length) (by omega)
        omega
      obtain ⟨h3, g3', d3, t3, os3⟩ := s3
      simp only at k3 g3 o3 hr hz
      subst g3
      subst o3
      have I3 : Inv X pins σ (upd H1 r (.lst (ys.map V.str))) ⟨h3, s1.gens, d3, t3, s1.os⟩ := by
        have J := I2.laid (h' := h3) (t' := t3) (a := r) (o := .lst (ys.map V.str)) (fun b u e => k3 b u e) hz ⟨hlen, out.toList, n, vals_of_strs hY, by simpa [seqObj] using hr⟩
        exact L2.Inv.step (s := ⟨h3, s1.gens, s1.drawn, t3, s1.os⟩) J (g' := s1.gens) (d' := d3) (t' := t3) (h' := h3) (ch := []) (fun _ z => nomatch z) (fun b o _ _ _ e _ => e) (fun b o _ _ _ e _ => ⟨o.slots, e⟩) (fun _ _ _ _ n => n) (fun b o _ e => ⟨o, e⟩) (fun _ _ e => e) (fun _ _ _ e => e) (fun b ps e => ⟨#[], by rw [e]; simp⟩) (fun m hm => hm) J.hok J.bare
      exact ⟨.ref r, _, I3, rfl, q1 ys r hs nd (fun z => by rw [hx, decide_eq_true_eq]; exact ⟨fun w => by obtain ⟨y, hy, e⟩ := List.mem_map.mp w; cases e; exact hy, fun w => List.mem_map.mpr ⟨z, w, rfl⟩⟩) (I2.hok.fresh hz)⟩
  rcases hq with hq | hq
  · obtain ⟨its, r, pl, hz⟩ := I1.list hq
    refine call_set_list (xs.map Sum.inr) (I1.ok.hd hc) pl.isList (by rw [List.size_toArray, ← r.length, List.length_map, List.length_map]) (key_at r) (by rw [List.length_map]; exact hb) fun h2 tk c hS hc2 hk => ?_
    exact PyProof.Rows.args_nil (fin h2 tk c hS hc2 hk)
  · obtain ⟨its, r, pl, hz⟩ := I1.tuple hq
    refine call_set_tup (xs.map Sum.inr) (I1.ok.hd hc) pl (by rw [List.size_toArray, ← r.length, List.length_map, List.length_map]) (key_at r) (by rw [List.length_map]; exact hb) fun h2 tk c hS hc2 hk => ?_
    exact PyProof.Rows.args_nil (fin h2 tk c hS hc2 hk)
end DSet
namespace DL
open PySem L2
section
variable {X : Cx} {a : Expr} {Δ : DS} {M : Store} {ka : AK} {p p2 q pos : Pos}
theorem el_sortSet (hc : X.calm = true) (hg : Gl X "sorted") (hm : X.mg "sorted" = none) (hg2 : Gl X "set") (hm2 : X.mg "set" = none)
    (h : EvD X a Δ M fun d M1 => ∃ xs : List Str, seqD M1 d = some (xs.map D.str) ∧ xs.length < 4000 ∧ ∀ ys : List Str, PyProof.Rows.sortedS ys = true → ys.Nodup → (∀ z, z ∈ ys ↔ z ∈ xs) → ka (ys.map D.str) M1)
    (na : starEach [a] X.env = (false, eval a X.env) :: starEach [] X.env := by rfl) (nb : starEach [.Call (.Name "set" p2) [a] [] q] X.env = (false, eval (.Call (.Name "set" p2) [a] [] q) X.env) :: starEach [] X.env := by rfl) :
    EvL X (.Call (.Name "sorted" p) [.Call (.Name "set" p2) [a] [] q] [] pos) Δ M ka := fun F H σ Q hS ok post =>
  sem_of (DSet.pe_sortSet hg hm hg2 hm2 pe_sem hc na nb) (h F H σ _ hS ok fun d M1 F1 H1 v ⟨xs, h1, h2, hk⟩ st ok1 i => by
    obtain ⟨l, vs, rfl, hq, hl⟩ := seq_of ok1 h1 i
    rw [(IsL.strs xs).1 hl] at hq
    exact ⟨l, xs, rfl, hq, by unfold scanBound; omega, fun ys r hs nd hx hr => post.new st ok1 (hk ys hs nd hx) hr ((IsL.strs ys).2 rfl)⟩)
end
end DL
end
section
set_option Elab.async false
set_option linter.all false
set_option maxRecDepth 100000
namespace DL
open PySem L2
/-! ### instances -/
def fldD : List Str → List D → Str → Option D
  | f :: fs, d :: ds, q => match q == f with
    | true => some d
    | false => fldD fs ds q
  | _, _, _ => none
theorem fld_is {K : PySem.W.Frag} {F : Hp} {q : Str} : ∀ {fs : List Str} {ds : List D} {vs : List V} {d : D}, IsL K F ds vs → fldD fs ds q = some d → ∃ v, (fs.zip vs).lookup q = some v ∧ Is K F d v
  | [], _, _, _, _, h => by unfold fldD at h; cases h
  | _ :: _, [], _, _, _, h => by unfold fldD at h; cases h
  | f :: fs, d :: ds, _, r, i, h => by
    obtain ⟨v, w, rfl, i1, i2⟩ := isL_cons.1 i
    unfold fldD at h
    rw [List.zip_cons_cons, List.lookup_cons]
    cases e : q == f with
    | true =>
      rw [e] at h
      cases h
      exact ⟨v, rfl, i1⟩
    | false =>
      rw [e] at h
      exact fld_is i2 h
def noF (fs : List Str) (m : Str) : Bool := !(fs.any fun f => m == f)
theorem noF_lookup {m : Str} : ∀ {fs : List Str} {vs : List V}, noF fs m = true → (fs.zip vs).lookup m = none
  | [], _, _ => rfl
  | _ :: _, [], _ => rfl
  | f :: fs, v :: vs, h => by
    unfold noF at h
    rw [List.any_cons, Bool.not_or, Bool.and_eq_true] at h
    rw [List.zip_cons_cons, List.lookup_cons]
    cases e : m == f with
    | true => rw [e] at h; cases h.1
    | false => exact noF_lookup h.2
/-- an instance: frozen, or a cell -/
def insD (M : Store) : D → Option (Addr × List Str × List D)
  | .ins C fs ds => some (C, fs, ds)
  | .cell a => match M a with
    | some (.ins C fs ds) => some (C, fs, ds)
    | _ => none
  | _ => none
theorem ins_of {K : PySem.W.Frag} {F H : Hp} {M : Store} (ok : Ok K F M H) {d : D} {C : Addr} {fs : List Str} {ds : List D} {v : V} (h : insD M d = some (C, fs, ds)) (i : Is K F d v) : ∃ a dx vs, v = .ref a ∧ H a = some (.ins C dx (fs.zip vs)) ∧ fs.length = ds.length ∧ IsL K F ds vs := by
  unfold insD at h
  split at h
  · cases h
    obtain ⟨a, dx, vs, e, h1, h2, h3⟩ := is_ins.1 i
    exact ⟨a, dx, vs, e, ok.ins h1, h2, h3⟩
  · rename_i a
    split at h
    · rename_i m c f z e
      cases h
      obtain ⟨_, o, h1, dx, vs, h2, h3, h4⟩ := ok.mem a _ e
      subst h2
      exact ⟨a, dx, vs, is_cell.1 i, h1, h3, h4⟩
    · cases h
  · cases h
section
variable {P : Program} {w : World} {K : PySem.W.Frag} {mg : Str → Option Value} {base : Heap}
/-- a method, a property's getter with its promise -/
structure MethD (P : Program) (w : World) (K : PySem.W.Frag) (mg : Str → Option Value) (base : Heap) (C : Addr) (m : Str) (n : Nat) (sp : SpD) : Prop where
  ex : ∃ f fd ps, FnOk P w K mg base CX0 n f fd ps (spOf K sp) ∧ Meth K C m f ∧ Binds K fd ps []
structure PropD (P : Program) (w : World) (K : PySem.W.Frag) (mg : Str → Option Value) (base : Heap) (C : Addr) (m : Str) (n : Nat) (sp : SpD) : Prop where
  ex : ∃ p g fd ps, FnOk P w K mg base CX0 n g fd ps (spOf K sp) ∧ PropOf K C m p g ∧ Binds K fd ps []
end
section
variable {X : Cx} {a b e e2 o : Expr} {es : List Expr} {Δ : DS} {M : Store} {k : DK} {kb : BK} {ka : AK} {ks : KS} {p pos apos : Pos} {x f m : Str} {C : Addr} {n : Nat} {sp : SpD}
theorem ev_fld (h : EvD X e Δ M fun d M1 => ∃ C fs ds r, insD M1 d = some (C, fs, ds) ∧ Cls X.K C ∧ NoAttr X.K C f ∧ fldD fs ds f = some r ∧ k r M1) (hb : attributeBase e f X.env (eval e X.env) = eval e X.env := by rfl) : EvD X (.Attribute e f pos) Δ M k := fun F H σ Q hS ok post =>
  sem_of (pe_fld pe_sem hb) (h F H σ _ hS ok fun d M1 F1 H1 v ⟨C, fs, ds, r, h1, hc, hn, hr, hk⟩ st ok1 i => by
    obtain ⟨q, dx, vs, e, hq, hl, il⟩ := ins_of ok1 h1 i
    obtain ⟨u, h2, h3⟩ := fld_is il hr
    exact ⟨q, C, dx, _, u, e, hq, hc, hn, h2, (post.step st).here ok1 hk h3⟩)
theorem ev_prop (c : Cls X.K C) (pr : PropD X.prog X.w X.K X.mg X.base C f n sp) (hr : Room (n + 1) X.A) (h : EvD X e Δ M fun d M1 => ∃ fs ds, insD M1 d = some (C, fs, ds) ∧ sp [d] M1 k) (hb : attributeBase e f X.env (eval e X.env) = eval e X.env := by rfl) : EvD X (.Attribute e f pos) Δ M k := fun F H σ Q hS ok post => by
  obtain ⟨q, g, fd, ps, hF, hp, hbn⟩ := pr.ex
  refine sem_of (pe_prop (E := E0) pe_sem c hp hF hr hbn .nil pass0 hb) (h F H σ _ hS ok fun d M1 F1 H1 v ⟨fs, ds, h1, hs⟩ st ok1 i => ?_)
  obtain ⟨r, dx, vs, rfl, hq, hl, il⟩ := ins_of ok1 h1 i
  exact ⟨r, dx, _, rfl, hq, [d], F1, M1, k, IsL.cons i IsL.nil, ok1, hs, post.step st⟩
theorem ev_meth {pl : PySem.Sem Bool} (c : Cls X.K C) (mt : MethD X.prog X.w X.K X.mg X.base C m n sp) (hr : Room n X.A) (h : EvD X o Δ M fun d M1 => ∃ fs ds, insD M1 d = some (C, fs, ds) ∧ noF fs m = true ∧ EvA X (e :: es) Δ M1 fun as M2 => sp (d :: as) M2 k)
    (hst : starEach (e :: es) X.env = (false, eval e X.env) :: starEach es X.env := by rfl) (hpl : (backTo pos (starEach es X.env)).any (·.1) = false := by rfl)
    (ht : eval (.Call (.Attribute o m apos) (e :: es) [] pos) X.env = (do
      let ov ← eval o X.env
      standAt apos.atName
      let (f, first) ← holding [ov] (getMethod ov m pl)
      callWith pos f first (backTo pos (starEach (e :: es) X.env)) (backToKw pos (keywordEach [] X.env))) := by rfl) : EvD X (.Call (.Attribute o m apos) (e :: es) [] pos) Δ M k := fun F H σ Q hS ok post => by
  obtain ⟨f, fd, ps, hF, hm, hbn⟩ := mt.ex
  refine sem_of (pe_meth (pl := pl) (E := E0) pe_sem c hm hF hr hbn .nil pass0 pa_sem hst hpl ht) (h F H σ _ hS ok fun d M1 F1 H1 v ⟨fs, ds, h1, hnf, hs⟩ st ok1 i => ?_)
  obtain ⟨r, dx, vs, rfl, hq, hl, il⟩ := ins_of ok1 h1 i
  refine ⟨r, dx, _, rfl, hq, noF_lookup hnf, hs F1 H1 σ _ (hS.mono st.ext) ok1 fun as M2 F2 H2 us q2 st2 ok2 i2 => ?_⟩
  rw [List.append_nil]
  exact ⟨d :: as, F2, M2, k, IsL.cons (i.mono st2.ext) i2, ok2, q2, post.step (st.trans st2)⟩
theorem ev_meth0 {pl : PySem.Sem Bool} (c : Cls X.K C) (mt : MethD X.prog X.w X.K X.mg X.base C m n sp) (hr : Room n X.A) (h : EvD X o Δ M fun d M1 => ∃ fs ds, insD M1 d = some (C, fs, ds) ∧ noF fs m = true ∧ sp [d] M1 k)
    (ht : eval (.Call (.Attribute o m apos) [] [] pos) X.env = (do
      let ov ← eval o X.env
      standAt apos.atName
      let (f, first) ← holding [ov] (getMethod ov m pl)
      callWith pos f first (backTo pos (starEach [] X.env)) (backToKw pos (keywordEach [] X.env))) := by rfl) : EvD X (.Call (.Attribute o m apos) [] [] pos) Δ M k := fun F H σ Q hS ok post => by
  obtain ⟨f, fd, ps, hF, hm, hbn⟩ := mt.ex
  refine sem_of (pe_meth0 (pl := pl) (E := E0) pe_sem c hm hF hr hbn .nil pass0 ht) (h F H σ _ hS ok fun d M1 F1 H1 v ⟨fs, ds, h1, hnf, hs⟩ st ok1 i => ?_)
  obtain ⟨r, dx, vs, rfl, hq, hl, il⟩ := ins_of ok1 h1 i
  exact ⟨r, dx, _, rfl, hq, noF_lookup hnf, [d], F1, M1, k, IsL.cons i IsL.nil, ok1, hs, post.step st⟩
/-! ### own operators -/
theorem look_of {pins : List (Addr × Obj)} {σ : L2.St} {H : Hp} {s : Shared} {q dx : Addr} {fs : List (Str × V)} (I : Inv X pins σ H s) (h : H q = some (.ins C dx fs)) : ∃ od, PySem.W.InstAt s.heap q (PySem.W.instObj C dx) C (some od) := by
  obtain ⟨mA, J, _⟩ := ins_get I.hok h
  obtain ⟨od, J, _⟩ := J.look
  exact ⟨od, J⟩
def rOwn (C : Addr) (sp : Sp) : R2 := fun x y H Q => ∃ q r dx dy fs gs, x = .ref q ∧ y = .ref r ∧ H q = some (.ins C dx fs) ∧ H r = some (.ins C dy gs) ∧ sp [x, y] H Q E0
theorem not_ni {v : V} {u : Value} {Q : Value → Shared → Prop} {s' : Shared} (r : RelV v u) (h : Q u s') : PySem.W.CmpBack Q u s' := by
  cases v with
  | non => cases r; exact h
  | bl _ => cases r; exact h
  | int _ => obtain ⟨t, rfl⟩ := r; exact h
  | str _ => obtain ⟨t, rfl⟩ := r; exact h
  | byt _ => obtain ⟨t, rfl⟩ := r; exact h
  | flt _ => obtain ⟨t, rfl⟩ := r; exact h
  | ref _ => cases r; exact h
  | ty _ => cases r; exact h
theorem op_own {op : Operator} {sq : Sp} {g : Addr} {fd : FuncData} {ps : List Str} (hF : FnOk X.prog X.w X.K X.mg X.base CX0 n g fd ps sq) (hr : Room n X.A) (hm : Meth X.K C (PySem.dunder op.info.2) g) (hb : Binds X.K fd ps []) (hc : PySem.W.selfFirst X.K C = true) : OpR X (binaryOp op) (rOwn C sq) := by
  intro pins s σ H x y v u Q I rx ry h
  obtain ⟨q, r, dx, dy, fs, gs, rfl, rfl, hq, hr2, hs⟩ := h
  cases rx
  cases ry
  obtain ⟨od, J⟩ := look_of I hq
  obtain ⟨od2, J2⟩ := look_of I hr2
  obtain ⟨m, hFr⟩ := I.fr
  refine PySem.W.binop_K hFr I.ok.mod.kin J J2.type hc hm.at_ hm.fn ?_
  exact thn (run_fn (E := E0) (dvs := []) (vs := [.ref q, .ref r]) (Q := Q) hF hr hb .nil pass0 I (.cons rfl (.cons rfl .nil)) hs) fun z s2 ⟨zv, H2, I2, rz, qz⟩ => not_ni rz ⟨zv, H2, I2, rz, qz⟩
/-- a & b .. of two instances of C -/
theorem ev_own {op : Operator} (mt : MethD X.prog X.w X.K X.mg X.base C (PySem.dunder op.info.2) n sp) (hr : Room n X.A) (hc : PySem.W.selfFirst X.K C = true)
    (h : EvD X a Δ M fun d1 M1 => EvD X b Δ M1 fun d2 M2 => ∃ fs ds gs es, insD M2 d1 = some (C, fs, ds) ∧ insD M2 d2 = some (C, gs, es) ∧ sp [d1, d2] M2 k) : EvD X (.BinOp a op b pos) Δ M k := by
  obtain ⟨f, fd, ps, hF, hm, hbn⟩ := mt.ex
  refine ev_op2 (op_own hF hr hm hbn hc) (h.mono fun d1 M1 q => q.mono fun d2 M2 ⟨fs, ds, gs, es, h1, h2, hs⟩ F H u w Q ok i1 i2 post => ?_)
  obtain ⟨q, dx, vs, e, hq, _⟩ := ins_of ok h1 i1
  obtain ⟨r, dy, ws, e', hr', _⟩ := ins_of ok h2 i2
  exact ⟨q, r, dx, dy, _, _, e, e', hq, hr', [d1, d2], F, M2, k, IsL.cons i1 (IsL.cons i2 IsL.nil), ok, hs, post⟩
/-- v in o: own __contains__ -/
def rOwnIn (C : Addr) (sp : Sp) (neg : Bool) : R2 := fun x y H Q => ∃ r dy gs, y = .ref r ∧ H r = some (.ins C dy gs) ∧ sp [y, x] H (fun z H' => ∃ c, z = .bl c ∧ Q (.bl (if neg then !c else c)) H') E0
theorem op_ownIn {sq : Sp} {g : Addr} {fd : FuncData} {ps : List Str} (hF : FnOk X.prog X.w X.K X.mg X.base CX0 n g fd ps sq) (hr : Room n X.A) (hm : Meth X.K C "__contains__" g) (hb : Binds X.K fd ps []) : OpR X (compareOp .In) (rOwnIn C sq false) := by
  intro pins s σ H x y v u Q I rx ry h
  obtain ⟨r, dy, gs, rfl, hr2, hs⟩ := h
  cases ry
  obtain ⟨od, J⟩ := look_of I hr2
  obtain ⟨m, hFr⟩ := I.fr
  refine PySem.W.in_K hFr I.ok.mod.kin J hm.at_ hm.fn ?_
  refine thn (run_fn (E := E0) (dvs := []) (vs := [.ref r, x]) hF hr hb .nil pass0 I (.cons (show RelV (.ref r) (.ref r) from rfl) (.cons rx .nil)) hs) fun z s2 ⟨zv, H2, I2, rz, c, ec, qz⟩ => ?_
  subst ec
  cases rz
  exact wpAny_truthy_bool ⟨.bl c, H2, I2, rfl, qz⟩
theorem op_ownNotIn {sq : Sp} {g : Addr} {fd : FuncData} {ps : List Str} (hF : FnOk X.prog X.w X.K X.mg X.base CX0 n g fd ps sq) (hr : Room n X.A) (hm : Meth X.K C "__contains__" g) (hb : Binds X.K fd ps []) : OpR X (compareOp .NotIn) (rOwnIn C sq true) := by
  intro pins s σ H x y v u Q I rx ry h
  obtain ⟨r, dy, gs, rfl, hr2, hs⟩ := h
  cases ry
  obtain ⟨od, J⟩ := look_of I hr2
  obtain ⟨m, hFr⟩ := I.fr
  refine PySem.W.notIn_K hFr I.ok.mod.kin J hm.at_ hm.fn ?_
  refine thn (run_fn (E := E0) (dvs := []) (vs := [.ref r, x]) hF hr hb .nil pass0 I (.cons (show RelV (.ref r) (.ref r) from rfl) (.cons rx .nil)) hs) fun z s2 ⟨zv, H2, I2, rz, c, ec, qz⟩ => ?_
  subst ec
  cases rz
  exact wpAny_truthy_bool ⟨.bl (!c), H2, I2, rfl, qz⟩
theorem c_ownIn (mt : MethD X.prog X.w X.K X.mg X.base C "__contains__" n sp) (hr : Room n X.A) (h : EvD X a Δ M fun d1 M1 => EvD X b Δ M1 fun d2 M2 => ∃ gs es, insD M2 d2 = some (C, gs, es) ∧ sp [d2, d1] M2 fun d M3 => ∃ c, d = .bl c ∧ k (.bl c) M3) : EvC X .In a b Δ M k := by
  obtain ⟨f, fd, ps, hF, hm, hbn⟩ := mt.ex
  refine c_op2 (op_ownIn hF hr hm hbn) (h.mono fun d1 M1 q => q.mono fun d2 M2 ⟨gs, es, h2, hs⟩ F H u w Q ok i1 i2 post => ?_)
  obtain ⟨r, dy, ws, e', hr', _⟩ := ins_of ok h2 i2
  refine ⟨r, dy, _, e', hr', [d2, d1], F, M2, _, IsL.cons i2 (IsL.cons i1 IsL.nil), ok, hs, fun d M3 F3 H3 z ⟨c, ed, hk⟩ st3 ok3 i3 => ?_⟩
  subst ed
  exact ⟨c, is_bl.1 i3, post _ M3 F3 H3 _ hk st3 ok3 (is_bl.2 rfl)⟩
theorem c_ownNotIn (mt : MethD X.prog X.w X.K X.mg X.base C "__contains__" n sp) (hr : Room n X.A) (h : EvD X a Δ M fun d1 M1 => EvD X b Δ M1 fun d2 M2 => ∃ gs es, insD M2 d2 = some (C, gs, es) ∧ sp [d2, d1] M2 fun d M3 => ∃ c, d = .bl c ∧ k (.bl (!c)) M3) : EvC X .NotIn a b Δ M k := by
  obtain ⟨f, fd, ps, hF, hm, hbn⟩ := mt.ex
  refine c_op2 (op_ownNotIn hF hr hm hbn) (h.mono fun d1 M1 q => q.mono fun d2 M2 ⟨gs, es, h2, hs⟩ F H u w Q ok i1 i2 post => ?_)
  obtain ⟨r, dy, ws, e', hr', _⟩ := ins_of ok h2 i2
  refine ⟨r, dy, _, e', hr', [d2, d1], F, M2, _, IsL.cons i2 (IsL.cons i1 IsL.nil), ok, hs, fun d M3 F3 H3 z ⟨c, ed, hk⟩ st3 ok3 i3 => ?_⟩
  subst ed
  exact ⟨c, is_bl.1 i3, post _ M3 F3 H3 _ hk st3 ok3 (is_bl.2 rfl)⟩
end
end DL
end
section
set_option Elab.async false
set_option linter.all false
set_option maxRecDepth 100000
namespace DL
open PySem L2
section
variable {K : PySem.W.Frag} {F H : Hp} {M : Store}
theorem Ok.junk (ok : Ok K F M H) {p : Addr} {o : HO} (h : H p = none) : Ok K F M (upd H p o) ∧ Stp F M H F M (upd H p o) := by
  obtain ⟨hF, hM⟩ := ok.fresh h
  refine ⟨⟨fun a u e => ?_, fun a m e => ?_⟩, ⟨Same.refl F, fun a u e => .inl e, fun a u e _ => ?_, fun _ m _ => m, fun a n => ?_⟩⟩
  · have q : a ≠ p := fun z => by rw [z, hF] at e; cases e
    rw [upd_ne q]; exact ok.sub a u e
  · have q : a ≠ p := fun z => by rw [z, hM] at e; cases e
    obtain ⟨h1, u, h2, h3⟩ := ok.mem a m e
    exact ⟨h1, u, by rw [upd_ne q]; exact h2, h3⟩
  · rw [upd_ne (ne_of_none e h)]; exact e
  · by_cases q : a = p
    · subst q; exact absurd h n
    · rw [upd_ne q]; exact n
theorem insc_of (ok : Ok K F M H) {q C : Addr} {fs : List Str} {ds : List D} (hm : M q = some (.ins C fs ds)) : ∃ dx vs, H q = some (.ins C dx (fs.zip vs)) ∧ fs.length = ds.length ∧ IsL K F ds vs := by
  obtain ⟨_, o, h1, dx, vs, h2, h3, h4⟩ := ok.mem q _ hm
  subst h2
  exact ⟨dx, vs, h1, h3, h4⟩
theorem put_new {f : Str} {y : V} : ∀ {fs : List Str} {vs : List V}, noF fs f = true → fs.length = vs.length → putF f y (fs.zip vs) = (fs ++ [f]).zip (vs ++ [y])
  | [], [], _, _ => rfl
  | g :: fs, v :: vs, h, l => by
    unfold noF at h
    rw [List.any_cons, Bool.not_or, Bool.and_eq_true] at h
    have hg : ¬ g = f := fun z => by
      subst z
      have := h.1
      rw [show (g == g) = true from beq_iff_eq.2 rfl] at this
      cases this
    show (if g = f then _ else (g, v) :: putF f y (fs.zip vs)) = _
    rw [if_neg hg, put_new (fs := fs) (vs := vs) h.2 (by simpa using l)]
    rfl
  | [], _ :: _, _, l => by cases l
  | _ :: _, [], _, l => by cases l
def fIx : List Str → Str → Nat
  | [], _ => 0
  | g :: fs, f => if g = f then 0 else fIx fs f + 1
theorem put_old {f : Str} {y : V} : ∀ {fs : List Str} {vs : List V}, noF fs f = false → fs.length = vs.length → putF f y (fs.zip vs) = fs.zip (vs.set (fIx fs f) y)
  | [], [], h, _ => by cases h
  | g :: fs, v :: vs, h, l => by
    show (if g = f then (g, y) :: fs.zip vs else (g, v) :: putF f y (fs.zip vs)) = _
    unfold fIx
    by_cases hg : g = f
    · rw [if_pos hg, if_pos hg]
      rfl
    · rw [if_neg hg, if_neg hg]
      have h2 : noF fs f = false := by
        unfold noF at h ⊢
        rw [List.any_cons] at h
        have e : (f == g) = false := by
          cases z : f == g with
          | false => rfl
          | true => exact absurd (beq_iff_eq.1 z).symm hg
        rw [e, Bool.false_or] at h
        exact h
      rw [put_old (fs := fs) (vs := vs) h2 (by simpa using l)]
      rfl
  | [], _ :: _, _, l => by cases l
  | _ :: _, [], _, l => by cases l
def putN (fs : List Str) (f : Str) : List Str := if noF fs f = true then fs ++ [f] else fs
def putD (fs : List Str) (ds : List D) (f : Str) (d : D) : List D := if noF fs f = true then ds ++ [d] else ds.set (fIx fs f) d
theorem put_any {f : Str} {y : V} {d : D} {fs : List Str} {ds : List D} {vs : List V} (l : fs.length = ds.length) (il : IsL K F ds vs) (iy : Is K F d y) : ∃ ws, putF f y (fs.zip vs) = (putN fs f).zip ws ∧ (putN fs f).length = (putD fs ds f d).length ∧ IsL K F (putD fs ds f d) ws := by
  unfold putN putD
  cases e : noF fs f with
  | true => exact ⟨_, put_new e (l.trans il.length), by simp [l], il.app (IsL.cons iy IsL.nil)⟩
  | false => exact ⟨_, put_old e (l.trans il.length), by simp [l], il.set _ iy⟩
/-- a cell of an instance frozen -/
theorem frz_ins (ok : Ok K F M H) {q C : Addr} {fs : List Str} {ds : List D} (hm : M q = some (.ins C fs ds)) : ∃ F', Ok K F' (mdel M q) H ∧ Stp F M H F' (mdel M q) H ∧ Is K F' (.ins C fs ds) (.ref q) := by
  obtain ⟨dx, vs, hH, l, il⟩ := insc_of ok hm
  have hF : F q = none := (ok.mem q _ hm).1
  refine ⟨upd F q (.ins C dx (fs.zip vs)), ⟨fun x u e => ?_, fun x m e => ?_⟩, ⟨same_new hF, fun x u e => ?_, fun x u e _ => e, fun x m n => ?_, fun x n => n⟩, is_ins.2 ⟨q, dx, vs, rfl, upd_same, l, il.mono (same_new hF)⟩⟩
  · by_cases z : x = q
    · subst z; rw [upd_same] at e; cases e; exact .inl hH
    · rw [upd_ne z] at e; exact ok.sub x u e
  · by_cases z : x = q
    · rw [z, mdel_same] at e; cases e
    · rw [mdel_ne z] at e
      obtain ⟨g1, w, g2, g3⟩ := ok.mem x m e
      exact ⟨by rw [upd_ne z]; exact g1, w, g2, g3.mono (same_new hF)⟩
  · by_cases z : x = q
    · subst z; exact .inr (.inr (by rw [hm]; simp))
    · rw [upd_ne z] at e; exact .inl e
  · by_cases z : x = q
    · rw [z, mdel_same]
    · rw [mdel_ne z]; exact m
end
section
variable {X : Cx} {a b e e2 o tg : Expr} {es tgs : List Expr} {Δ : DS} {M : Store} {k : DK} {kb : BK} {ka : AK} {ks : KS} {p pos apos : Pos} {x f m : Str} {C : Addr} {n : Nat} {sp : SpD}
/-! ### attribute targets -/
def gAttr (K : PySem.W.Frag) (to : TE) (f : Str) : TG := fun v σ H Q => to σ H fun x H1 => ∃ a C dx fs, x = .ref a ∧ H1 a = some (.ins C dx fs) ∧ Cls K C ∧ NoAttr K C f ∧ fs.length < 1000 ∧ Q σ (upd H1 a (.ins C dx (putF f v fs)))
theorem pg_attr {to : TE} (ho : PE X o to) : PG X (.Attribute o f pos) (gAttr X.K to f) := by
  refine ⟨fun pins s σ H v u Q I r h => ?_⟩
  rw [PySem.assign_Attribute]
  refine wpAny_bind (wpAny_holding (thn (ho.run pins s σ H _ I h) fun ov s1 ⟨x, H1, I1, r1, a, C, dx, fs, ex, ea, c, n, l, q⟩ => ?_))
  subst ex
  obtain rfl : ov = Value.ref a := r1
  refine wpAny_bind (wpAny_standAt (wpAny_bind (wpAny_holding (setattr_ok I1 ea c n l r fun s3 I3 => ?_))))
  exact wpAny_release ⟨σ, _, I3, q⟩
/-- targets that write -/
def GwD (X : Cx) (tg : Expr) (d : D) (Δ : DS) (M : Store) (k : DS → Store → Prop) : Prop := ∀ F H σ v (Q : L2.St → Hp → Prop), IsS X.K F Δ σ → Ok X.K F M H → Is X.K F d v →
  (∀ Δ' M' F' H' σ', k Δ' M' → Stp F M H F' M' H' → Ok X.K F' M' H' → IsS X.K F' Δ' σ' → Q σ' H') → SemG X tg v σ H Q
def SemGs (X : Cx) (tgs : List Expr) : TGs := fun vs σ H Q => ∀ pins s us, Inv X pins σ H s → Vals vs us → wpAny (model X.prog X.w) X.A (assignInOrder ((assignEach tgs X.env).map (·.2)) us) (fun _ s' => ∃ σ' H', Inv X pins σ' H' s' ∧ Q σ' H') X.xe s
theorem pgs_sem : PGs X tgs (SemGs X tgs) := ⟨fun pins s _ _ _ us _ I r h => h pins s us I r⟩
def GwsD (X : Cx) (tgs : List Expr) (ds : List D) (Δ : DS) (M : Store) (k : DS → Store → Prop) : Prop := ∀ F H σ vs (Q : L2.St → Hp → Prop), IsS X.K F Δ σ → Ok X.K F M H → IsL X.K F ds vs →
  (∀ Δ' M' F' H' σ', k Δ' M' → Stp F M H F' M' H' → Ok X.K F' M' H' → IsS X.K F' Δ' σ' → Q σ' H') → SemGs X tgs vs σ H Q
theorem gws_nil {kd : DS → Store → Prop} (h : kd Δ M) : GwsD X [] [] Δ M kd := fun F H σ vs Q hS ok il post pins s us I r => pgs_nil.run pins s σ H vs us Q I r ⟨isL_nil.1 il, post Δ M F H σ h Stp.refl ok hS⟩
theorem gws_cons {kd : DS → Store → Prop} {d : D} {ds : List D} (h : GwD X tg d Δ M fun Δ1 M1 => GwsD X tgs ds Δ1 M1 kd) (hs : (assignEach (tg :: tgs) X.env).map (·.2) = assign tg X.env :: (assignEach tgs X.env).map (·.2) := by rfl) : GwsD X (tg :: tgs) (d :: ds) Δ M kd := fun F H σ vs Q hS ok il post pins s us I r => by
  refine (pgs_cons pg_sem pgs_sem hs).run pins s σ H vs us Q I r ?_
  obtain ⟨v, w, rfl, i1, i2⟩ := isL_cons.1 il
  exact ⟨v, w, rfl, h F H σ v _ hS ok i1 fun Δ1 M1 F1 H1 σ1 hk st ok1 hS1 => hk F1 H1 σ1 w Q hS1 ok1 (i2.mono st.ext) fun Δ2 M2 F2 H2 σ2 q s2 ok2 hS2 => post Δ2 M2 F2 H2 σ2 q (st.trans s2) ok2 hS2⟩
theorem gw_tup {kd : DS → Store → Prop} {nn : Nat} {ds : List D} {kt : Nat} (hc : X.calm = true) (h : GwsD X tgs ds Δ M kd) (hl : ds.length = nn) (hn : (assignEach tgs X.env).length = nn := by rfl) (hst : (assignEach tgs X.env).findIdx? (·.1) = none := by rfl) : GwD X (.Tuple tgs kt pos) (.tup ds) Δ M kd := fun F H σ v Q hS ok iv post => by
  obtain ⟨a, vs, e, hq, il⟩ := is_tup.1 iv
  exact semG_of (pg_tup hc pgs_sem hn hst) ⟨a, vs, e, ok.sqT hq, by rw [← il.length]; exact hl, h F H σ vs Q hS ok il post⟩
theorem gw_name {kd : DS → Store → Prop} {d : D} {i : Nat} (hN : X.N.Nodup) (hi : X.N[i]? = some x) (hx : Loc X.env.scope x) (hf : X.fn x = true ∨ X.env.scope.names.lookup x = some .local) (h : kd (Δ.set i (some d)) M) : GwD X (.Name x pos) d Δ M kd := fun F H σ v Q hS ok iv post =>
  semG_of (pg_name hN hi hx hf) (post _ M F H _ h Stp.refl ok (hS.set i iv))
theorem gw_attr {kd : DS → Store → Prop} {d : D} (h : EvD X o Δ M fun r M1 => ∃ q C fs ds, r = .cell q ∧ M1 q = some (.ins C fs ds) ∧ Cls X.K C ∧ NoAttr X.K C f ∧ fs.length < 1000 ∧ kd Δ (mup M1 q (.ins C (putN fs f) (putD fs ds f d)))) : GwD X (.Attribute o f pos) d Δ M kd := fun F H σ v Q hS ok iv post =>
  semG_of (pg_attr pe_sem) (h F H σ _ hS ok fun r M1 F1 H1 u ⟨q, C, fs, ds, er, hm, hc, hn, hl, hk⟩ st ok1 i1 => by
    subst er
    obtain ⟨dx, vs, hH, l, il⟩ := insc_of ok1 hm
    obtain ⟨ws, e1, e2, e3⟩ := put_any (f := f) l il (iv.mono st.ext)
    refine ⟨q, C, dx, _, is_cell.1 i1, hH, hc, hn, ?_, ?_⟩
    · rw [List.length_zip, ← il.length, ← l]; omega
    · have w := ok1.write (m := .ins C (putN fs f) (putD fs ds f d)) (o := .ins C dx (putF f v (fs.zip vs))) hm ⟨dx, ws, by rw [e1], e2, e3⟩
      exact post _ _ F1 _ σ hk (st.trans w.2) w.1 (hS.mono st.ext))
/-- target = value, attributes too -/
theorem s_asw (h : EvD X e Δ M fun d M1 => GwD X tg d Δ M1 ks.nx) (hs : swapsWithSole [tg] e pos.line X.env = pure false := by rfl) (hw : swappedStores [tg] e X.env = pure none := by rfl)
    (h1 : (assignEach [tg] X.env).map (·.2) = [assign tg X.env] := by rfl) : StD X (.Assign [tg] e pos) Δ M ks := fun F H σ Q hS ok post =>
  semS_of (ps_asg pe_sem pg_sem hs hw h1) (h F H σ _ hS ok fun d M1 F1 H1 v g st ok1 i => g F1 H1 σ v _ (hS.mono st.ext) ok1 i fun Δ2 M2 F2 H2 σ2 q s2 ok2 hS2 => post.nx Δ2 M2 F2 H2 σ2 q (st.trans s2) ok2 hS2)
/-! ### keywords -/
def SemK (X : Cx) (kws : List Keyword) : TA := fun σ H Q => ∀ pos pins s, Inv X pins σ H s → wpAny (model X.prog X.w) X.A (evalAll ((backToKw pos (keywordEach kws X.env)).map (·.2))) (AP X pins σ Q) X.xe s
theorem pk_sem {kws : List Keyword} : PK X kws (SemK X kws) := ⟨fun pos pins s _ _ _ I h => h pos pins s I⟩
def EvK (X : Cx) (kws : List Keyword) (Δ : DS) (M : Store) (k : AK) : Prop := ∀ F H σ (Q : List V → Hp → Prop), IsS X.K F Δ σ → Ok X.K F M H → PostA X.K F M H k Q → SemK X kws σ H Q
theorem ek_nil (h : ka [] M) : EvK X [] Δ M ka := fun F H σ Q hS ok post pos pins s I => pk_nil.run pos pins s σ H Q I (post [] M F H [] h Stp.refl ok IsL.nil)
theorem ek_cons {nm : Option Str} {kpos : Pos} {kws : List Keyword} (h : EvD X e Δ M fun d M1 => EvK X kws Δ M1 fun ds M2 => ka (d :: ds) M2) : EvK X (⟨nm, e, kpos⟩ :: kws) Δ M ka := fun F H σ Q hS ok post pos pins s I =>
  (pk_cons pe_sem pk_sem).run pos pins s σ H Q I (h F H σ _ hS ok fun d M1 F1 H1 v hk st ok1 i => hk F1 H1 σ _ (hS.mono st.ext) ok1 fun ds M2 F2 H2 vs q s2 ok2 il => post (d :: ds) M2 F2 H2 (v :: vs) q (st.trans s2) ok2 (IsL.cons (i.mono s2.ext) il))
end
section
variable {P : Program} {w : World} {K : PySem.W.Frag} {mg : Str → Option Value} {base : Heap}
/-- a class that can be made: dv the defaults that fill up -/
structure MakD (P : Program) (w : World) (K : PySem.W.Frag) (mg : Str → Option Value) (base : Heap) (x : Str) (C : Addr) (n : Nat) (dv : List D) (sp : SpD) : Prop where
  ex : ∃ f fd ps ds dvs, Mk K C f ∧ FnOk P w K mg base CX0 n f fd ps (spOf K sp) ∧ mg x = some (.ref C) ∧ Binds K fd ps ds ∧ Vals dvs ds ∧ ∀ F, IsL K F dv dvs
/-- .. by keywords: na values, then those named ks -/
structure MakK (P : Program) (w : World) (K : PySem.W.Frag) (mg : Str → Option Value) (base : Heap) (x : Str) (C : Addr) (n na : Nat) (ks : List Str) (gD : List D → List D → List D) (sp : SpD) : Prop where
  ex : ∃ f fd ps g gV, Mk K C f ∧ FnOk P w K mg base CX0 n f fd ps (spOf K sp) ∧ mg x = some (.ref C) ∧ KBn K fd ps (na + 1) ks g gV ∧ ∀ F ds vs es ws, IsL K F ds vs → IsL K F es ws → IsL K F (gD ds es) (gV vs ws)
/-- a def called by keywords -/
structure CalK (P : Program) (w : World) (K : PySem.W.Frag) (mg : Str → Option Value) (base : Heap) (x : Str) (n na : Nat) (ks : List Str) (gD : List D → List D → List D) (sp : SpD) : Prop where
  ex : ∃ f fd ps g gV, FnOk P w K mg base CX0 n f fd ps (spOf K sp) ∧ mg x = some (.ref f) ∧ PySem.W.keepIn K (.ref f) = true ∧ KBn K fd ps na ks g gV ∧ ∀ F ds vs es ws, IsL K F ds vs → IsL K F es ws → IsL K F (gD ds es) (gV vs ws)
structure MethK (P : Program) (w : World) (K : PySem.W.Frag) (mg : Str → Option Value) (base : Heap) (C : Addr) (m : Str) (n na : Nat) (ks : List Str) (gD : List D → List D → List D) (sp : SpD) : Prop where
  ex : ∃ f fd ps g gV, FnOk P w K mg base CX0 n f fd ps (spOf K sp) ∧ Meth K C m f ∧ KBn K fd ps (na + 1) ks g gV ∧ ∀ F ds vs es ws, IsL K F ds vs → IsL K F es ws → IsL K F (gD ds es) (gV vs ws)
end
section
variable {X : Cx} {a b e e2 o tg : Expr} {es tgs : List Expr} {Δ : DS} {M : Store} {k : DK} {kb : BK} {ka : AK} {ks : KS} {p pos apos : Pos} {x f m : Str} {C : Addr} {n : Nat} {sp : SpD} {dv : List D} {kws : List Keyword} {kn : List Str} {gD : List D → List D → List D}
/-- what is asked of a new instance -/
def NewI (C : Addr) (sp : SpD) (k : DK) (args : Addr → List D) (M : Store) : Prop := ∀ q, M q = none → sp (args q) (mup M q (.ins C [] [])) fun d M2 => d = .non ∧ k (.cell q) M2
theorem new_of {F H : Hp} {Q : VK} {args : Addr → List D} {vargs : Addr → List V} (ok : Ok X.K F M H) (h : NewI C sp k args M) (post : Post X.K F M H k Q) (il : ∀ q, IsL X.K F (args q) (vargs q)) (x dx : Addr) (hx : H x = none) (hdx : H dx = none) (hne : dx ≠ x) :
    spOf X.K sp (vargs x) (upd (upd H dx (.own x)) x (.ins C dx [])) (fun v H2 => v = .non ∧ Q (.ref x) H2) E0 := by
  have j := ok.junk (o := .own x) hdx
  have hx2 : upd H dx (.own x) x = none := by rw [upd_ne (Ne.symm hne)]; exact hx
  have c := j.1.cell (m := .ins C [] []) (o := .ins C dx []) hx2 ⟨dx, [], rfl, rfl, IsL.nil⟩
  refine ⟨args x, F, _, _, il x, c.1, h x (ok.fresh hx).2, fun d M2 F2 H2 v ⟨ed, hk⟩ st ok2 i => ?_⟩
  subst ed
  exact ⟨is_non.1 i, post (.cell x) M2 F2 H2 (.ref x) hk ((j.2.trans c.2).trans st) ok2 (is_cell.2 rfl)⟩
theorem ev_make (mk : MakD X.prog X.w X.K X.mg X.base x C n dv sp) (hr : Room (n + 1) X.A) (hg : Gl X x) (h : EvA X (e :: es) Δ M fun ds M1 => NewI C sp k (fun q => .cell q :: (ds ++ dv)) M1) (hdb : (x == ("__debug__" : Str)) = false := by decide)
    (he : starEach (e :: es) X.env = (false, eval e X.env) :: starEach es X.env := by rfl) (hpl : (backTo pos (starEach es X.env)).any (·.1) = false := by rfl) : EvD X (.Call (.Name x p) (e :: es) [] pos) Δ M k := fun F H σ Q hS ok post => by
  obtain ⟨f, fd, ps, ds0, dvs, hM, hF, hm, hb, hv, hi⟩ := mk.ex
  refine sem_of (pe_make (E := E0) hM hF hr hg hm hb hv pass0 pa_sem hdb he hpl) (h F H σ _ hS ok fun ds M1 F1 H1 vs q st ok1 il => ?_)
  exact new_of (vargs := fun r => V.ref r :: (vs ++ dvs)) ok1 q (post.step st) fun r => IsL.cons (is_cell.2 rfl) (il.app (hi F1))
theorem ev_make0 (mk : MakD X.prog X.w X.K X.mg X.base x C n dv sp) (hr : Room (n + 1) X.A) (hg : Gl X x) (h : NewI C sp k (fun q => .cell q :: dv) M) (hdb : (x == ("__debug__" : Str)) = false := by decide) : EvD X (.Call (.Name x p) [] [] pos) Δ M k := fun F H σ Q hS ok post => by
  obtain ⟨f, fd, ps, ds0, dvs, hM, hF, hm, hb, hv, hi⟩ := mk.ex
  exact sem_of (pe_make0 (E := E0) hM hF hr hg hm hb hv pass0 hdb) (new_of (vargs := fun r => V.ref r :: dvs) ok h post fun r => IsL.cons (is_cell.2 rfl) (hi F))
theorem ev_makeK0 (mk : MakK X.prog X.w X.K X.mg X.base x C n 0 kn gD sp) (hr : Room (n + 1) X.A) (hg : Gl X x) (h : EvK X kws Δ M fun ds M1 => ds.length = kn.length ∧ NewI C sp k (fun q => gD [.cell q] ds) M1)
    (hall : (backToKw pos (keywordEach kws X.env)).all (·.1.isSome) = true := by rfl) (hks : (backToKw pos (keywordEach kws X.env)).filterMap (·.1) = kn := by rfl) (hdb : (x == ("__debug__" : Str)) = false := by decide)
    (hpl : ((backTo pos (starEach [] X.env)).any (·.1) || (backToKw pos (keywordEach kws X.env)).any (·.1.isNone)) = false := by rfl) : EvD X (.Call (.Name x p) [] kws pos) Δ M k := fun F H σ Q hS ok post => by
  obtain ⟨f, fd, ps, g, gV, hM, hF, hm, hb, hi⟩ := mk.ex
  refine sem_of (pe_makeK0 (E := E0) hM hF hr hg hm hb pass0 pk_sem hall hks hdb hpl) (h F H σ _ hS ok fun ds M1 F1 H1 vs ⟨hl, q⟩ st ok1 il => ⟨rfl, by rw [← il.length]; exact hl, ?_⟩)
  exact new_of (vargs := fun r => gV [V.ref r] vs) ok1 q (post.step st) fun r => hi F1 _ _ _ _ (IsL.cons (is_cell.2 rfl) IsL.nil) il
theorem ev_makeK {na : Nat} (mk : MakK X.prog X.w X.K X.mg X.base x C n na kn gD sp) (hr : Room (n + 1) X.A) (hg : Gl X x) (h : EvA X (e :: es) Δ M fun as M0 => as.length = na ∧ EvK X kws Δ M0 fun ds M1 => ds.length = kn.length ∧ NewI C sp k (fun q => gD (.cell q :: as) ds) M1)
    (hall : (backToKw pos (keywordEach kws X.env)).all (·.1.isSome) = true := by rfl) (hks : (backToKw pos (keywordEach kws X.env)).filterMap (·.1) = kn := by rfl) (hdb : (x == ("__debug__" : Str)) = false := by decide)
    (he : starEach (e :: es) X.env = (false, eval e X.env) :: starEach es X.env := by rfl) (hpl : ((backTo pos (starEach (e :: es) X.env)).any (·.1) || (backToKw pos (keywordEach kws X.env)).any (·.1.isNone)) = false := by rfl) : EvD X (.Call (.Name x p) (e :: es) kws pos) Δ M k := fun F H σ Q hS ok post => by
  obtain ⟨f, fd, ps, g, gV, hM, hF, hm, hb, hi⟩ := mk.ex
  refine sem_of (pe_makeK (E := E0) hM hF hr hg hm hb pass0 pa_sem pk_sem hall hks hdb he hpl) (h F H σ _ hS ok fun as M0 F0 H0 us ⟨h0, q0⟩ st0 ok0 il0 => q0 F0 H0 σ _ (hS.mono st0.ext) ok0 fun ds M1 F1 H1 vs ⟨hl, q⟩ st ok1 il => ⟨by rw [← il0.length]; exact h0, by rw [← il.length]; exact hl, ?_⟩)
  exact new_of (vargs := fun r => gV (V.ref r :: us) vs) ok1 q (post.step (st0.trans st)) fun r => hi F1 _ _ _ _ (IsL.cons (is_cell.2 rfl) (il0.mono st.ext)) il
/-- a new instance handed on frozen -/
theorem ev_frzI (h : EvD X e Δ M fun d M1 => ∃ q C fs ds, d = .cell q ∧ M1 q = some (.ins C fs ds) ∧ k (.ins C fs ds) (mdel M1 q)) : EvD X e Δ M k := fun F H σ Q hS ok post =>
  h F H σ Q hS ok fun d M1 F1 H1 v ⟨q, C, fs, ds, ed, hm, hk⟩ st ok1 i => by
    subst ed
    rw [is_cell.1 i]
    obtain ⟨F2, ok2, s2, i2⟩ := frz_ins ok1 hm
    exact post _ _ F2 H1 _ hk (st.trans s2) ok2 i2
/-! ### calls by keywords -/
theorem ev_callK0 (c : CalK X.prog X.w X.K X.mg X.base x n 0 kn gD sp) (hr : Room n X.A) (hg : Gl X x) (h : EvK X kws Δ M fun ds M1 => ds.length = kn.length ∧ sp (gD [] ds) M1 k)
    (hall : (backToKw pos (keywordEach kws X.env)).all (·.1.isSome) = true := by rfl) (hks : (backToKw pos (keywordEach kws X.env)).filterMap (·.1) = kn := by rfl) (hdb : (x == ("__debug__" : Str)) = false := by decide)
    (hpl : ((backTo pos (starEach [] X.env)).any (·.1) || (backToKw pos (keywordEach kws X.env)).any (·.1.isNone)) = false := by rfl) : EvD X (.Call (.Name x p) [] kws pos) Δ M k := fun F H σ Q hS ok post pins s I => by
  obtain ⟨f, fd, ps, g, gV, hF, hm, hk, hb, hi⟩ := c.ex
  refine wpAny_Call_Name_kw (ld_glob I hg hm ?_ hdb)
  refine PySem.W.callWith_KW0 (h₀ := X.base) I.ok.mod.kin hk hall ?_ hpl
  refine thn (h F H σ (fun zs H2 => zs.length = kn.length ∧ spOf X.K sp (gV [] zs) H2 Q E0) hS ok (fun ds M1 F1 H1 vs ⟨hl, q⟩ st ok1 il => ⟨by rw [← il.length]; exact hl, gD [] ds, F1, M1, k, hi F1 _ _ _ _ IsL.nil il, ok1, q, post.step st⟩) pos pins s I) fun ws s2 ⟨zs, H2, I2, rz, l2, q2⟩ => ⟨I2.kIn, ?_⟩
  rw [hks]
  exact run_fnN (us := []) (vs := []) hF hr hb pass0 I2 .nil rz rfl l2 q2
theorem ev_callK {na : Nat} (c : CalK X.prog X.w X.K X.mg X.base x n na kn gD sp) (hr : Room n X.A) (hg : Gl X x) (h : EvA X (e :: es) Δ M fun as M0 => as.length = na ∧ EvK X kws Δ M0 fun ds M1 => ds.length = kn.length ∧ sp (gD as ds) M1 k)
    (hall : (backToKw pos (keywordEach kws X.env)).all (·.1.isSome) = true := by rfl) (hks : (backToKw pos (keywordEach kws X.env)).filterMap (·.1) = kn := by rfl) (hdb : (x == ("__debug__" : Str)) = false := by decide)
    (he : starEach (e :: es) X.env = (false, eval e X.env) :: starEach es X.env := by rfl) (hpl : ((backTo pos (starEach (e :: es) X.env)).any (·.1) || (backToKw pos (keywordEach kws X.env)).any (·.1.isNone)) = false := by rfl) : EvD X (.Call (.Name x p) (e :: es) kws pos) Δ M k := fun F H σ Q hS ok post => by
  obtain ⟨f, fd, ps, g, gV, hF, hm, hk, hb, hi⟩ := c.ex
  refine sem_of (pe_callN (E := E0) hF hr hg hm hk hb pass0 pa_sem pk_sem hall hks hdb he hpl) (h F H σ _ hS ok fun as M0 F0 H0 us ⟨h0, q0⟩ st0 ok0 il0 => q0 F0 H0 σ _ (hS.mono st0.ext) ok0 fun ds M1 F1 H1 vs ⟨hl, q⟩ st ok1 il => ⟨by rw [← il0.length]; exact h0, by rw [← il.length]; exact hl, ?_⟩)
  exact ⟨gD as ds, F1, M1, k, hi F1 _ _ _ _ (il0.mono st.ext) il, ok1, q, post.step (st0.trans st)⟩
theorem ev_methK0 {pl : PySem.Sem Bool} (c : Cls X.K C) (mt : MethK X.prog X.w X.K X.mg X.base C m n 0 kn gD sp) (hr : Room n X.A) (h : EvD X o Δ M fun d M0 => ∃ fs ds, insD M0 d = some (C, fs, ds) ∧ noF fs m = true ∧ EvK X kws Δ M0 fun as M1 => as.length = kn.length ∧ sp (gD [d] as) M1 k)
    (hall : (backToKw pos (keywordEach kws X.env)).all (·.1.isSome) = true := by rfl) (hks : (backToKw pos (keywordEach kws X.env)).filterMap (·.1) = kn := by rfl) (hpl : ((backTo pos (starEach [] X.env)).any (·.1) || (backToKw pos (keywordEach kws X.env)).any (·.1.isNone)) = false := by rfl)
    (ht : eval (.Call (.Attribute o m apos) [] kws pos) X.env = (do
      let ov ← eval o X.env
      standAt apos.atName
      let (f, first) ← holding [ov] (getMethod ov m pl)
      callWith pos f first (backTo pos (starEach [] X.env)) (backToKw pos (keywordEach kws X.env))) := by rfl) : EvD X (.Call (.Attribute o m apos) [] kws pos) Δ M k := fun F H σ Q hS ok post pins s I => by
  obtain ⟨f, fd, ps, g, gV, hF, hm, hb, hi⟩ := mt.ex
  refine PySem.W.methodCall_KW (pl := pl) (thn (h F H σ (fun u H1 => ∃ a dx fs, u = .ref a ∧ H1 a = some (.ins C dx fs) ∧ fs.lookup m = none ∧ SemK X kws σ H1 fun zs H2 => zs.length = kn.length ∧ spOf X.K sp (gV [u] zs) H2 Q E0) hS ok (fun d M1 F1 H1 v ⟨fs, ds, h1, hnf, hs⟩ st ok1 i => ?_) pins s I) fun u s1 ⟨x, H1, I1, rx, a, dx, fs, ex, ea, l, q⟩ => ?_) ht
  · obtain ⟨r, dx, vs, rfl, hq, hl, il⟩ := ins_of ok1 h1 i
    refine ⟨r, dx, _, rfl, hq, noF_lookup hnf, hs F1 H1 σ _ (hS.mono st.ext) ok1 fun as M2 F2 H2 us ⟨q1, q2⟩ st2 ok2 i2 => ⟨by rw [← i2.length]; exact q1, ?_⟩⟩
    exact ⟨gD [d] as, F2, M2, k, hi F2 _ _ _ _ (IsL.cons (i.mono st2.ext) IsL.nil) i2, ok2, q2, post.step (st.trans st2)⟩
  · subst ex
    obtain rfl : u = Value.ref a := rx
    refine getmeth_ok I1 ea c hm l ?_
    refine PySem.W.callWith_KW0 (first := [.ref a]) (h₀ := X.base) I1.ok.mod.kin hm.kp hall ?_ hpl
    refine thn (q pos pins s1 I1) fun ws s2 ⟨zs, H2, I2, rz, l2, q2⟩ => ⟨I2.kIn, ?_⟩
    rw [hks]
    exact run_fnN (us := [.ref a]) (vs := [.ref a]) hF hr hb pass0 I2 (.cons rfl .nil) rz rfl l2 q2
end
end DL
end
section
set_option Elab.async false
set_option linter.all false
set_option maxRecDepth 100000
namespace DL
open PySem L2
/-- an own class, as isinstance wants it -/
structure TyC (K : PySem.W.Frag) (C : Addr) : Prop where
  cl : Cls K C
  ha : PySem.W.findIn K (.ref C) "__class__" = some (some (.builtin "object.__class__"))
  hn : PySem.W.specialIn K (.builtin "object.__class__") "__get__" = some (some (.builtin "getset_descriptor.__get__"))
  htk : PySem.W.takesIn K (.builtin "object.__class__") = some true
  hm : PySem.W.mroIn K C (.type "object") = some true
/-- a value's type, own ones too -/
def TyV (K : PySem.W.Frag) (M : Store) (d : D) (t : Value) : Prop := (∃ s, tyD d = some s ∧ t = .type s) ∨ ∃ C fs ds, insD M d = some (C, fs, ds) ∧ TyC K C ∧ t = .ref C
theorem tyV_of {K : PySem.W.Frag} {F H : Hp} {M : Store} (ok : Ok K F M H) {d : D} {t : Value} {v : V} (h : TyV K M d t) (i : Is K F d v) : TyX K H v t := by
  rcases h with ⟨s, h1, rfl⟩ | ⟨C, fs, ds, h1, c, rfl⟩
  · exact ty_of ok h1 i
  · obtain ⟨q, dx, vs, rfl, hq, _, _⟩ := ins_of ok h1 i
    exact .base (.ins hq c.cl c.ha c.hn c.htk c.hm)
section
variable {X : Cx} {a b e e2 o : Expr} {es : List Expr} {Δ : DS} {M : Store} {k : DK} {kb : BK} {ka : AK} {p pos apos : Pos} {x f m : Str} {C : Addr} {n : Nat} {sp : SpD}
theorem ev_isiO (hg : Gl X "isinstance") (hm : X.mg "isinstance" = none) (h : EvD X e Δ M fun d M1 => EvD X e2 Δ M1 fun d2 M2 => ∃ t C c, TyV X.K M2 d t ∧ d2 = .cell C ∧ PySem.W.kitOne X.K t (.ref C) = some c ∧ k (.bl c) M2) (hs : starEach [e, e2] X.env = (false, eval e X.env) :: starEach [e2] X.env := by rfl) (hs2 : starEach [e2] X.env = [(false, eval e2 X.env)] := by rfl) (hpl : (backTo pos (starEach [e2] X.env)).any (·.1) = false := by rfl) : EvD X (.Call (.Name "isinstance" p) [e, e2] [] pos) Δ M k :=
  ev_callB call_isi hg hm (by decide +kernel) (by decide) (by decide) hs hpl (two2 (h.mono fun d M1 q => q.mono fun d2 M2 ⟨t, C, c, h1, h2, h3, hk⟩ F H vs Q ok i post => by
    obtain ⟨v, v2, rfl, i1, i2⟩ := isL2 i
    subst h2
    rw [is_cell.1 i2]
    exact ⟨v, .ref C, t, .ref C, c, rfl, .own C, tyV_of ok h1 i1, h3, post.here ok hk (is_bl.2 rfl)⟩) hs hs2)
/-! ### own ==, != -/
def rOwnEq (C : Addr) (K : PySem.W.Frag) (sp : Sp) (neg : Bool) : R2 := fun x y H Q => ∃ q dx fs t, x = .ref q ∧ H q = some (.ins C dx fs) ∧ TyX K H y t ∧ PySem.W.notFirst K C t = true ∧ sp [x, y] H (fun z H' => if neg = true then ∃ c, z = .bl c ∧ Q (.bl (!c)) H' else Q z H') E0
theorem op_ownEq {sq : Sp} {g : Addr} {fd : FuncData} {ps : List Str} (hF : FnOk X.prog X.w X.K X.mg X.base CX0 n g fd ps sq) (hr : Room n X.A) (hm : Meth X.K C "__eq__" g) (hb : Binds X.K fd ps []) : OpR X (compareOp .Eq) (rOwnEq C X.K sq false) := by
  intro pins s σ H x y v u Q I rx ry h
  obtain ⟨q, dx, fs, t, rfl, hq, ty, hn, hs⟩ := h
  cases rx
  obtain ⟨od, J⟩ := look_of I hq
  obtain ⟨m, hFr⟩ := I.fr
  obtain ⟨P, Z, pz, _⟩ := kit_of I ry ty
  show wpAny (model X.prog X.w) X.A (richCompare .Eq (.ref q) u) (EP X pins σ Q) X.xe s
  refine PySem.W.cmp_K (op := .Eq) hr.units0 hFr I.ok.mod.kin J (Z.ty _ _ I.kIn pz) hn hm.at_ hm.fn ?_
  exact thn (run_fn (E := E0) (dvs := []) (vs := [.ref q, y]) (Q := Q) hF hr hb .nil pass0 I (.cons rfl (.cons ry .nil)) hs) fun z s2 ⟨zv, H2, I2, rz, qz⟩ => not_ni rz ⟨zv, H2, I2, rz, qz⟩
theorem c_ownEq (mt : MethD X.prog X.w X.K X.mg X.base C "__eq__" n sp) (hr : Room n X.A) (h : EvD X a Δ M fun d1 M1 => EvD X b Δ M1 fun d2 M2 => ∃ fs ds t, insD M2 d1 = some (C, fs, ds) ∧ TyV X.K M2 d2 t ∧ PySem.W.notFirst X.K C t = true ∧ sp [d1, d2] M2 k) : EvC X .Eq a b Δ M k := by
  obtain ⟨f, fd, ps, hF, hm, hbn⟩ := mt.ex
  refine c_op2 (op_ownEq hF hr hm hbn) (h.mono fun d1 M1 q => q.mono fun d2 M2 ⟨fs, ds, t, h1, h2, h3, hs⟩ F H u w Q ok i1 i2 post => ?_)
  obtain ⟨q, dx, vs, e, hq, _⟩ := ins_of ok h1 i1
  refine ⟨q, dx, _, t, e, hq, tyV_of ok h2 i2, h3, [d1, d2], F, M2, k, IsL.cons i1 (IsL.cons i2 IsL.nil), ok, hs, post⟩
/-- a def run below one built-in -/
theorem run_in1 {sq : Sp} {g : Addr} {fd : FuncData} {ps : List Str} {pins : List (Addr × Obj)} {σ : L2.St} {H : Hp} {s : Shared} {Q : VK} {us : List Value} {vs : List V} {E' : Value → Shared → Prop} (hF : FnOk X.prog X.w X.K X.mg X.base CX0 n g fd ps sq) (hr : Room (n + 1) X.A) (hb : Binds X.K fd ps [])
    (I : Inv X pins σ H s) (r : Vals vs us) (h : sq vs H Q E0) : wpAny (model X.prog X.w) X.A.in1 (call (.ref g) us) (EP X pins σ Q) E' s := by
  have hl : (us ++ []).length = ps.length := by rw [List.append_nil, ← r.length]; exact hF.len _ _ _ _ h
  have hb' := hb s us I.kIn hl
  rw [List.append_nil] at hb'
  refine wpAny_call (codeAny_mono (hF.run X.A.in1 X.stack s H ⟨us, []⟩ us vs Q E0 hr.in1 I.env0.in1 hb' r h) fun r s' hq => ?_)
  cases r with
  | error e => exact False.elim hq
  | ok fl =>
    cases fl with
    | ret u => exact I.after hq
    | next => exact False.elim hq
    | brk => exact False.elim hq
    | cont => exact False.elim hq
end
section
variable {prog : Program} {w : World} {A : Around} {E : Value → Shared → Prop} {s : Shared} {K : PySem.W.Frag} {x C f : Addr} {ox : Obj} {od : Option Obj} {b : Value}
theorem ifBound_ne {M : Model} {args : List Value} {Q : Option Value → Shared → Prop} (X : K.In s.heap) (I : PySem.W.InstAt s.heap x ox C od) (hs : PySem.W.findIn K (.ref C) "__ne__" = some (some (.builtin "object.__ne__")))
    (h : wpAny M A (call (.builtin "object.__ne__") (.ref x :: args)) (fun v => Q (some v)) E s) : wpAny M A (callSpecialIfBound? (.ref x) "__ne__" args) Q E s := by
  simp only [callSpecialIfBound?, bindSpecialIfBound?]
  refine wpAny_holding (wpAny_bind (wpAny_bind (wpAny_bind (I.type.here ((PySem.W.looks_findIn X hs).here ?_)))))
  refine wpAny_bind (wpAny_askSetting (wpAny_ite ?_))
  have fin : wpAny M A (call (.builtin "object.__ne__") ([.ref x] ++ args) >>= fun v => pure (some v)) Q E s := wpAny_bind (wpAny_mono h (fun v s' h' => wpAny_pure h') fun _ _ h' => h')
  split
  · exact wpAny_bind (wpAny_of_eq (F.cmp_object.ne.bind _) (wpAny_pure (by exact fin)))
  · exact wpAny_tryCatch (wpAny_bind (wpAny_of_eq (F.cmp_object.ne.bind _) (wpAny_pure (by exact fin))))
theorem entry_ne (X : K.In s.heap) (I : PySem.W.InstAt s.heap x ox C od) (hs : PySem.W.findIn K (.ref C) "__eq__" = some (some (.ref f))) (hf : PySem.W.isFn K (.ref f) = true) (hu : A.units < cLine) {Q : Fin → Shared → Prop}
    (hcall : wpAny (model prog w) A (call (.ref f) [.ref x, b]) (fun v s' => ∃ c, v = .bool c ∧ Q (.done (.ret (.bool (!c)))) s') E s) : wpAny (model prog w) A (Builtin.«object.__ne__» ⟨[.ref x, b], []⟩) Q E s := by
  unfold Builtin.«object.__ne__»
  repeat (first
    | with_reducible refine wpAny_cRoomFor hu ?_
    | (refine wpAny_bind (m := callSpecialIfBound? (.ref x) (Str.ofString "__eq__") [b])
        (PySem.W.ifBound_K X I hs hf (wpAny_mono hcall (fun r s' hr => by
          obtain ⟨b, rfl, hq⟩ := hr
          repeat (first | exact hq | exact wpAny_pure hq | exact wpAny_truthy_bool hq | (refine wpAny_bind (m := truthy (.bool _)) (wpAny_truthy_bool ?_)) | wp_step)) fun _ _ e => e)))
    | wp_step)
theorem rc_ne (hu : A.units + 1 < cLine) (X : K.In s.heap) (I : PySem.W.InstAt s.heap x ox C od) {tb : Value} (hb : PySem.W.Looks (model prog w) s.heap (typeOf b) tb) (hn : PySem.W.notFirst K C tb = true)
    (hs : PySem.W.findIn K (.ref C) "__eq__" = some (some (.ref f))) (hf : PySem.W.isFn K (.ref f) = true) (hne : PySem.W.findIn K (.ref C) "__ne__" = some (some (.builtin "object.__ne__"))) (hm : PySem.W.mroIn K C (.type "object") = some true) {Q : Value → Shared → Prop}
    (h : wpAny (model prog w) A.in1 (call (.ref f) [.ref x, b]) (fun v s' => ∃ c, v = .bool c ∧ Q (.bool (!c)) s') E s) : wpAny (model prog w) A (richCompare .NotEq (.ref x) b) Q E s := by
  have one : wpAny (model prog w) A (tryCompare (.ref x) "__ne__" b) (fun r s' => ∃ v, r = some v ∧ Q v s') E s := by
    unfold tryCompare
    refine wpAny_bind (ifBound_ne X I hne (wpAny_call (codeAny_call_builtin F.cmp_object.ne.plain F.cmpEntry_ne (PySem.W.check_slot F.cmpKind_ne F.cmpSplit_ne (I.type.andThen (PySem.W.looks_mroIn X hm)) (F.cmpArgs_ne _ _) (entry_ne (A := A.in1) X I hs hf hu (wpAny_mono h (fun v s' hv => ?_) fun _ _ e => e))))))
    obtain ⟨c, rfl, hq⟩ := hv
    exact ⟨c, rfl, wpAny_pure ⟨_, rfl, hq⟩⟩
  simp only [richCompare, cmpInfo_NotEq, oneThing_ref]
  refine wpAny_holding (wpAny_bind (wpAny_cRoomFor (Nat.lt_of_succ_lt hu) ?_))
  refine wpAny_bind (I.type.here (wpAny_bind (hb.here ?_)))
  split
  · rename_i q
    have e : PySem.W.subIn K tb (.ref C) = some false := by
      rcases Bool.or_eq_true_iff.mp hn with e | e
      · rw [beq_iff_eq.mp e] at q; simp at q
      · exact beq_iff_eq.mp e
    refine wpAny_bind ((PySem.W.looks_subIn X e).here ?_)
    simp only [Bool.false_eq_true, if_false]
    refine wpAny_bind (wpAny_mono one (fun r s' z => ?_) fun _ _ e => e)
    obtain ⟨v, rfl, hq⟩ := z
    exact wpAny_pure hq
  · refine wpAny_bind (wpAny_pure ?_)
    simp only [Bool.false_eq_true, if_false]
    refine wpAny_bind (wpAny_mono one (fun r s' z => ?_) fun _ _ e => e)
    obtain ⟨v, rfl, hq⟩ := z
    exact wpAny_pure hq
end
section
variable {X : Cx} {a b e e2 o : Expr} {es : List Expr} {Δ : DS} {M : Store} {k : DK} {kb : BK} {ka : AK} {p pos apos : Pos} {x f m : Str} {C : Addr} {n : Nat} {sp : SpD}
theorem op_ownNe {sq : Sp} {g : Addr} {fd : FuncData} {ps : List Str} (hF : FnOk X.prog X.w X.K X.mg X.base CX0 n g fd ps sq) (hr : Room (n + 1) X.A) (hm : Meth X.K C "__eq__" g) (hb : Binds X.K fd ps []) (hne : PySem.W.findIn X.K (.ref C) "__ne__" = some (some (.builtin "object.__ne__"))) (ho : PySem.W.mroIn X.K C (.type "object") = some true) : OpR X (compareOp .NotEq) (rOwnEq C X.K sq true) := by
  intro pins s σ H x y v u Q I rx ry h
  obtain ⟨q, dx, fs, t, rfl, hq, ty, hn, hs⟩ := h
  cases rx
  obtain ⟨od, J⟩ := look_of I hq
  obtain ⟨P, Z, pz, _⟩ := kit_of I ry ty
  show wpAny (model X.prog X.w) X.A (richCompare .NotEq (.ref q) u) (EP X pins σ Q) X.xe s
  refine rc_ne hr.in1.units0 I.kIn J (Z.ty _ _ I.kIn pz) hn hm.at_ hm.fn hne ho ?_
  refine thn (run_in1 (vs := [.ref q, y]) (Q := fun z H' => ∃ c, z = .bl c ∧ Q (.bl (!c)) H') hF hr hb I (.cons rfl (.cons ry .nil)) hs) fun z s2 ⟨zv, H2, I2, rz, c, ez, qz⟩ => ?_
  subst ez
  cases rz
  exact ⟨c, rfl, .bl (!c), H2, I2, rfl, qz⟩
theorem c_ownNe (mt : MethD X.prog X.w X.K X.mg X.base C "__eq__" n sp) (hr : Room (n + 1) X.A) (hne : PySem.W.findIn X.K (.ref C) "__ne__" = some (some (.builtin "object.__ne__"))) (ho : PySem.W.mroIn X.K C (.type "object") = some true) (h : EvD X a Δ M fun d1 M1 => EvD X b Δ M1 fun d2 M2 => ∃ fs ds t, insD M2 d1 = some (C, fs, ds) ∧ TyV X.K M2 d2 t ∧ PySem.W.notFirst X.K C t = true ∧ sp [d1, d2] M2 fun d M3 => ∃ c, d = .bl c ∧ k (.bl (!c)) M3) : EvC X .NotEq a b Δ M k := by
  obtain ⟨f, fd, ps, hF, hm, hbn⟩ := mt.ex
  refine c_op2 (op_ownNe hF hr hm hbn hne ho) (h.mono fun d1 M1 q => q.mono fun d2 M2 ⟨fs, ds, t, h1, h2, h3, hs⟩ F H u w Q ok i1 i2 post => ?_)
  obtain ⟨q, dx, vs, e, hq, _⟩ := ins_of ok h1 i1
  refine ⟨q, dx, _, t, e, hq, tyV_of ok h2 i2, h3, [d1, d2], F, M2, _, IsL.cons i1 (IsL.cons i2 IsL.nil), ok, hs, fun d M3 F3 H3 v ⟨c, ed, hk⟩ st ok3 i3 => ?_⟩
  subst ed
  exact ⟨c, is_bl.1 i3, post _ M3 F3 H3 _ hk st ok3 (is_bl.2 rfl)⟩
end
end DL
end
section
set_option Elab.async false
set_option linter.all false
set_option maxRecDepth 100000
/-! the head: any tests of the written part, and its defs -/
namespace DL
open PySem PySem.W PySem.Calls PyProof.Rows He He5
def obsF (fa : List (Frag → Bool)) (fn : List DefA) (K : Frag) : He.AlD := ((fa.all fun f => f K) && fn.all fun d => d.ok K, fn.map fun d => fnA K (d.at_ K))
def valF (fn : List DefA) : He.AlD := (true, fn.map DefA.val)
def SaysF (fa : List (Frag → Bool)) (fn : List DefA) (K : Frag) : Prop := obsF fa fn K = valF fn
def obsFG (n : Nat) (fa : List (Frag → Bool)) (fn : List DefA) (g : Addr → Option Obj) : He.AlD := obsF fa fn (frG g (asA g n))
def hookF (n : Nat) (fa : List (Frag → Bool)) (fn : List DefA) : PySem.W.Hook where
  α := He.AlD
  obs := fun s => obsFG n fa fn s.heap.get?
  val := fun _ => valF fn
  says := fun _ h => ∃ K : Frag, K.In h ∧ SaysF fa fn K
  of := fun _ _ e => ⟨_, frG_in, e⟩
  keeps := fun _ _ _ ⟨K, hK, c⟩ k => ⟨K, Frag.In.keeps hK k, c⟩
theorem obsFG_eq {n : Nat} {fa : List (Frag → Bool)} {fn : List DefA} {g : Addr → Option Obj} {s : Shared} (h : ∀ a, g a = s.heap.get? a) : obsFG n fa fn g = (hookF n fa fn).obs s := by
  have e : g = s.heap.get? := funext h
  rw [e] <;> rfl
section
variable {fa : List (Frag → Bool)} {fn : List DefA} {K : Frag}
theorem SaysF.fact (c : SaysF fa fn K) (i : Nat) {f : Frag → Bool} (h : fa[i]? = some f := by rfl) : f K = true := by
  have c1 := (ba (show ((fa.all fun f => f K) && fn.all fun d => d.ok K) = true from congrArg (fun z : He.AlD => z.1) c)).1
  exact List.all_eq_true.mp c1 f (List.mem_of_getElem? h)
theorem SaysF.def_ (c : SaysF fa fn K) (i : Nat) {d : DefA} (h : fn[i]? = some d := by rfl) : ∃ fd, L2.FunD K d.name d.qual d.params d.body d.scope (d.dvs K) (d.kws K) (d.at_ K) fd := by
  have c2 := (ba (show ((fa.all fun f => f K) && fn.all fun d => d.ok K) = true from congrArg (fun z : He.AlD => z.1) c)).2
  have e : fn.map (fun d => fnA K (d.at_ K)) = fn.map DefA.val := congrArg (fun z : He.AlD => z.2) c
  have e2 : (fn.map fun d => fnA K (d.at_ K))[i]? = (fn.map DefA.val)[i]? := by rw [e]
  rw [List.getElem?_map, List.getElem?_map, h] at e2
  exact DefA.funD (Option.some.inj e2) (List.all_eq_true.mp c2 d (List.mem_of_getElem? h))
end
/-! ### addresses -/
def gA (x : PySem.Str) (K : Frag) : Addr := ga K x
def mA (x m : PySem.Str) (K : Frag) : Addr := ma K (ga K x) m
/-- a property's getter -/
def pA (x m : PySem.Str) (K : Frag) : Addr := match recIn K (ma K (ga K x) m) "property" with
  | some (.ref g :: _) => g
  | _ => 0
/-! ### tests -/
def tFa (f : He.Fa) (K : Frag) : Bool := f.ok K
def tProp (x m : PySem.Str) (K : Frag) : Bool := decide (findIn K (.ref (ga K x)) m = some (some (.ref (ma K (ga K x) m)))) && (decide (specialIn K (.ref (ma K (ga K x) m)) "__get__" = some (some (.builtin "property.__get__"))) && (decide (takesIn K (.ref (ma K (ga K x) m)) = some true) && (match recIn K (ma K (ga K x) m) "property" with
  | some (.ref _ :: _) => true
  | _ => false)))
theorem tProp_ok {K : Frag} {x m : PySem.Str} (c : tProp x m K = true) : L2.PropOf K (ga K x) m (ma K (ga K x) m) (pA x m K) := by
  unfold tProp at c
  obtain ⟨c1, c⟩ := ba c
  obtain ⟨c2, c⟩ := ba c
  obtain ⟨c3, c4⟩ := ba c
  refine ⟨of_decide_eq_true c1, of_decide_eq_true c2, of_decide_eq_true c3, ?_⟩
  unfold pA
  split at c4
  · rename_i g r e
    exact ⟨r, by rw [e]⟩
  · cases c4
def tSelf (x : PySem.Str) (K : Frag) : Bool := selfFirst K (ga K x)
def tNotFirst (x : PySem.Str) (t : Value) (K : Frag) : Bool := notFirst K (ga K x) t
end DL
end
section
set_option Elab.async false
set_option linter.all false
set_option maxRecDepth 100000
namespace DRv
open PySem PySem.Spec PyProof.Rows HT
section
variable {prog : Program} {w : World} {A : Around} {E : Value → Shared → Prop} {s : Shared}
theorem applied {sl : Addr} {vl vu vs : Value} {n : Nat} {Q : Int × Int × Nat → Shared → Prop} (hs : s.heap.IsSliceOf sl vl vu vs) (pl : IsPart vl none) (pu : IsPart vu none) (ps : IsPart vs (some (-1)))
    (h : Q ((n : Int) - 1, -1, n) s) : wpAny (model prog w) A (Builtin.Slice.sliceApplied (.ref sl) (pure (n : Int))) Q E s := by
  obtain ⟨os, hos, hcs, hds⟩ := id hs
  unfold Builtin.Slice.sliceApplied Builtin.Slice.sliceFields
  refine wpAny_bind (wpAny_bind (wpAny_field hos hds (x := vl) rfl (wpAny_bind (wpAny_field hos hds (x := vu) rfl (wpAny_bind (wpAny_field hos hds (x := vs) rfl (wpAny_pure ?_)))))))
  refine wpAny_bind (slicePart_ ps ?_)
  show wpAny _ _ (if ((-1 : Int) == 0) = true then _ else _) _ _ s
  rw [if_neg (by decide)]
  refine wpAny_bind (slicePart_ pl (wpAny_bind (slicePart_ pu (wpAny_bind (wpAny_pure ?_)))))
  show wpAny _ _ (pure ((n : Int) - 1, (-1 : Int), Builtin.Slice.slicePlaces ((n : Int) - 1) (-1) (-1))) _ _ s
  have e : Builtin.Slice.slicePlaces ((n : Int) - 1) (-1) (-1) = n := by
    unfold Builtin.Slice.slicePlaces
    simp only [show ¬ ((-1 : Int) > 0) by omega, if_false]
    rw [show (-(-1) : Int) = 1 by omega, Int.ediv_one]
    split <;> omega
  rw [e]
  exact wpAny_pure h
theorem pick (xs : Array Value) : ((List.range xs.size).filterMap fun (m : Nat) => xs[(((xs.size : Nat) : Int) - 1 + (m : Int) * (-1)).toNat]?) = xs.toList.reverse := by
  have e : ∀ m ∈ List.range xs.size, (fun (m : Nat) => xs[(((xs.size : Nat) : Int) - 1 + (m : Int) * (-1)).toNat]?) m = (fun m => xs.toList.reverse[m]?) m := by
    intro m hm
    have hm' : m < xs.size := List.mem_range.1 hm
    have e1 : (((xs.size : Nat) : Int) - 1 + (m : Int) * (-1)).toNat = xs.size - 1 - m := by omega
    show xs[_]? = xs.toList.reverse[m]?
    rw [e1, List.getElem?_reverse (by rw [Array.length_toList]; exact hm'), Array.length_toList, Array.getElem?_toList]
  have cong : ∀ (l : List Nat) (f g : Nat → Option Value), (∀ m ∈ l, f m = g m) → l.filterMap f = l.filterMap g := fun l f g => by
    induction l with
    | nil => intro _; rfl
    | cons m l ih =>
      intro h
      rw [List.filterMap_cons, List.filterMap_cons, h m (List.mem_cons_self ..), ih fun m hm => h m (List.mem_cons_of_mem _ hm)]
  rw [cong _ _ _ e]
  have hl : xs.size = xs.toList.reverse.length := by rw [List.length_reverse, Array.length_toList]
  rw [hl]
  generalize xs.toList.reverse = ys
  induction ys with
  | nil => rfl
  | cons y ys ih =>
    rw [List.length_cons, List.range_succ_eq_map, List.filterMap_cons]
    show y :: List.filterMap _ _ = _
    rw [List.filterMap_map]
    exact congrArg (y :: ·) ih
theorem getItem_rev {t sl : Addr} {items : Array Value} {vl vu vs : Value} {Q : Value → Shared → Prop} (ht : IsTup s.heap t items) (hs : s.heap.IsSliceOf sl vl vu vs) (pl : IsPart vl none) (pu : IsPart vu none) (ps : IsPart vs (some (-1)))
    (h : Q (.ref s.heap.objs.size) { s with heap := s.heap.push { cls := .type "tuple", data := .seq items.toList.reverse.toArray } })
    (hsz : items.size ≤ sizeLine) : wpAny (model prog w) A (getItem (.ref t) (.ref sl)) Q E s := by
  have htake : sizeOk (.seq items.toList.reverse.toArray) := by
    show items.toList.reverse.toArray.size ≤ sizeLine
    rw [List.size_toArray, List.length_reverse, Array.length_toList]
    exact hsz
  obtain ⟨os, hos, hcs, hds⟩ := id hs
  have hTs : s.TypeIs (.ref sl) "slice" := ⟨os, hos, hcs⟩
  unfold getItem
  try with_reducible refine wpAny_holding ?_
  first | refine wpAny_bind (wpAny_pure ?_) | skip
  refine wpAny_bind (wpAny_sequenceKey ht.typeIs (by decide) ?_)
  refine wpAny_bind (wpAny_callSpecial?_slot (name := Str.ofString "__getitem__") ht.typeIs PyProof.Rows.slot_tuple_getitem
    (wpAny_call_entry PyProof.Rows.slot_tuple_getitem ht.typeIs entry_tuple_getitem ?_ (args_tuple_getitem _ _)))
  show wpAny _ _ (Builtin.Tuple.tupleItemsOf (.ref t) >>= _) _ _ s
  refine wpAny_bind (tupleItemsOf_ ht ?_)
  refine wpAny_bind (wpAny_typeOf hTs ?_)
  rw [if_pos (by decide)]
  refine wpAny_bind (applied hs pl pu ps ?_)
  have hno : ¬ (((((items.size : Nat) : Int) - 1) == 0 && (-1 : Int) == 1 && items.size == items.size) = true) := by
    intro q
    rw [Bool.and_eq_true, Bool.and_eq_true] at q
    have q1 : (-1 : Int) = 1 := eq_of_beq q.1.2
    omega
  show wpAny _ _ (if ((((items.size : Nat) : Int) - 1) == 0 && (-1 : Int) == 1 && items.size == items.size) = true then _ else _) _ _ s
  rw [if_neg hno, pick]
  first
    | exact wpAny_bind (m := Builtin.Tuple.tupleExact _) (wpAny_newObj_type (wpAny_pure ⟨_, rfl, wpAny_pure h⟩) htake)
    | exact wpAny_bind (m := Builtin.Tuple.tupleExact _) (wpAny_newObj_type (wpAny_bind (wpAny_pure (wpAny_pure ⟨_, rfl, wpAny_pure h⟩))) htake)
    | exact wpAny_bind (wpAny_bind (m := Builtin.Tuple.tupleExact _) (wpAny_newObj_type (wpAny_pure (wpAny_pure ⟨_, rfl, wpAny_pure h⟩)) htake))
    | exact wpAny_bind (wpAny_bind (m := Builtin.Tuple.tupleExact _) (wpAny_newObj_type (wpAny_pure ⟨_, rfl, wpAny_pure h⟩) htake))
end
end DRv
namespace DL
open PySem L2 PyProof.Rows
def tRevT (K : PySem.W.Frag) (te : TE) : TE := fun σ H Q => te σ H fun x H1 => ∃ a xs, x = .ref a ∧ SqT K H1 a xs ∧ ∀ p, H1 p = none → Q (.ref p) (upd H1 p (.tup xs.reverse))
section
variable {X : Cx} {a b e e2 o : Expr} {es : List Expr} {Δ : DS} {M : Store} {k : DK} {kb : BK} {ka : AK} {p pos apos : Pos} {x f m : Str} {C : Addr} {n : Nat} {sp : SpD}
theorem pe_revT {te : TE} {k : Nat} {p1 p2 p3 pos : Pos} (he : PE X e te) : PE X (.Subscript e (.Slice none none (some (.UnaryOp .USub (.Constant (.int 1) k p1) p2)) p3) pos) (tRevT X.K te) := by
  refine ⟨fun pins s σ H Q I h => ?_⟩
  refine Subscript_ (thn (he.run pins s σ H _ I h) fun v s1 ⟨x, H1, I1, r1, q1⟩ => ?_)
  obtain ⟨a, xs, ex, hx, q⟩ := q1
  subst ex
  cases r1
  have hst : PO X (some (.UnaryOp .USub (.Constant (.int 1) k p1) p2)) (tPart (tUn (rU fun i => .int (-i)) (tC (.int 1)))) := po_some (pe_un un_neg pe_int)
  refine wpAny_Slice (thn (po_none.run pins s1 σ H1 (fun o H2 => o = none ∧ H2 = H1) I1 ⟨rfl, rfl⟩) fun vl s2 ⟨l, H2, I2, pl, el, e2⟩ => ?_)
  subst el e2
  refine thn (po_none.run pins s2 σ H2 (fun o H3 => o = none ∧ H3 = H2) I2 ⟨rfl, rfl⟩) fun vu s3 ⟨u, H3, I3, pu, eu, e3⟩ => ?_
  subst eu e3
  refine thn (hst.run pins s3 σ H3 (fun o H4 => o = some (-1) ∧ H4 = H3) I3 ⟨1, rfl, -1, rfl, rfl, rfl⟩) fun vs s4 ⟨o, H4, I4, ps, eo, e4⟩ => ?_
  subst eo e4
  have I5 : Inv X pins σ H4 { s4 with heap := s4.heap.push { cls := .type "slice", data := .fields #[vl, vu, vs] } } := I4.kept (t' := s4.toks) fun b ob q => Heap.get?_push_of_some _ q
  obtain ⟨its, r, ht, hz⟩ := I5.tuple hx
  have hlen := r.length
  show wpAny (model X.prog X.w) X.A (subscriptTail e (.Slice none none (some (.UnaryOp .USub (.Constant (.int 1) k p1) p2)) p3) (.ref a) (.ref s4.heap.objs.size)) (EP X pins σ Q) X.xe { s4 with heap := s4.heap.push { cls := .type "slice", data := .fields #[vl, vu, vs] } }
  refine tail_any (ops := [.ref a, .ref s4.heap.objs.size]) ht.typeIs (PyProof.Rows.slot_tuple_getitem.lookup) ?_ (by with_unfolding_all rfl)
  refine DRv.getItem_rev ht (Heap.IsSliceOf.new _ vl vu vs) pl pu ps ?_ (by rw [List.size_toArray]; omega)
  refine ⟨.ref _, _, I5.laid (t' := s4.toks) (o := .tup xs.reverse) (fun b ob q => Heap.get?_push_of_some _ q) (Nat.le_refl _) ?_, rfl, q _ (I5.hok.fresh (Nat.le_refl _))⟩
  exact ⟨by rw [List.length_reverse]; exact hz, _, r.reverse, IsTup.new _ _⟩
/-- t[::-1] of a tuple -/
theorem ev_revT {j : Nat} {p1 p2 p3 : Pos} (h : EvD X a Δ M fun d M1 => ∃ ds, d = .tup ds ∧ k (.tup ds.reverse) M1) : EvD X (.Subscript a (.Slice none none (some (.UnaryOp .USub (.Constant (.int 1) j p1) p2)) p3) pos) Δ M k := fun F H σ Q hs ok post =>
  sem_of (pe_revT pe_sem) (h F H σ _ hs ok fun d M1 F1 H1 v ⟨ds, h1, hk⟩ st ok1 i => by
    subst h1
    obtain ⟨q, vs, e, hq, hl⟩ := is_tup.1 i
    refine ⟨q, vs, e, ok1.sqT hq, fun r hr => ?_⟩
    have nw := ok1.new (o := .tup vs.reverse) hr
    exact post _ M1 _ _ _ hk (st.trans nw.2) nw.1 (is_tup.2 ⟨r, _, rfl, .inl upd_same, (hl.rev).mono nw.2.ext⟩))
/-! ### list(text), tuple(text), sep.join(texts) -/
theorem signs_vals {x : Str} {acc : Array Value} (h : ItemsOf (SignAt x) acc x.cps.size) : ∃ vs : List V, Vals vs acc.toList ∧ ∀ (K : PySem.W.Frag) (F : Hp), IsL K F (signs x) vs := by
  refine ⟨x.cps.toList.map fun c => V.str ⟨#[c]⟩, ?_, fun K F => ?_⟩
  · have e : acc.toList.length = x.cps.toList.length := by rw [Array.length_toList, h.1, Array.length_toList]
    have g : ∀ (i : Nat) (v : Value), acc.toList[i]? = some v → ∃ c u, x.cps.toList[i]? = some c ∧ v = .str ⟨#[c]⟩ u := fun i v hv => by
      obtain ⟨c, u, h1, h2⟩ := h.2 i v (by rw [← Array.getElem?_toList]; exact hv)
      exact ⟨c, u, by rw [Array.getElem?_toList]; exact h1, h2⟩
    generalize acc.toList = as at e g
    generalize x.cps.toList = cs at e g
    induction cs generalizing as with
    | nil =>
      cases as with
      | nil => exact .nil
      | cons _ _ => cases e
    | cons c cs ih =>
      cases as with
      | nil => cases e
      | cons u as =>
        obtain ⟨c', t, h1, h2⟩ := g 0 u rfl
        cases h1
        exact .cons ⟨t, h2⟩ (ih as (by simpa using e) fun i v hv => g (i + 1) v hv)
  · unfold signs
    generalize x.cps.toList = cs
    induction cs with
    | nil => exact IsL.nil
    | cons c cs ih => exact IsL.cons (is_str.2 rfl) ih
theorem cr_listS (hc : X.calm = true) : CallR X (.type "list") (fun xs H Q => ∃ z : Str, xs = [.str z] ∧ z.cps.size ≤ sizeLine ∧ ∀ vs l, (∀ (K : PySem.W.Frag) (F : Hp), IsL K F (signs z) vs) → H l = none → Q (.ref l) (upd H l (.lst vs))) := by
  intro pins s σ H xs us Q I r h
  obtain ⟨z, rfl, hz, q⟩ := h
  obtain ⟨u, rfl, rx⟩ := vals1 r
  obtain ⟨t, rfl⟩ := rx
  refine call_list_str (I.ok.hd hc) z t (fun h' tk acc c' kp e ha => ?_) hz
  obtain ⟨vs, rv, iv⟩ := signs_vals ha
  have hl : vs.length ≤ sizeLine := by rw [rv.length, Array.length_toList, ha.1]; exact hz
  exact ⟨.ref s.heap.objs.size, _, I.laid (t' := tk) kp (Nat.le_refl _) (show ObjOk X.prog X.w _ h' _ (.lst vs) from ⟨hl, acc.toList, c', rv, by simpa using e⟩), rfl, q vs _ iv (I.hok.fresh (Nat.le_refl _))⟩
theorem cr_tupleS (hc : X.calm = true) : CallR X (.type "tuple") (fun xs H Q => ∃ z : Str, xs = [.str z] ∧ z.cps.size ≤ sizeLine ∧ ∀ vs l, (∀ (K : PySem.W.Frag) (F : Hp), IsL K F (signs z) vs) → H l = none → Q (.ref l) (upd H l (.tup vs))) := by
  intro pins s σ H xs us Q I r h
  obtain ⟨z, rfl, hz, q⟩ := h
  obtain ⟨u, rfl, rx⟩ := vals1 r
  obtain ⟨t, rfl⟩ := rx
  refine call_tuple_str (I.ok.hd hc) z t (fun h' tk acc kp ha => ?_) hz
  obtain ⟨vs, rv, iv⟩ := signs_vals ha
  have hl : vs.length ≤ sizeLine := by rw [rv.length, Array.length_toList, ha.1]; exact hz
  have I1 : Inv X pins σ H { s with heap := h', toks := tk } := I.kept (t' := tk) kp
  have I2 : Inv X pins σ (upd H h'.objs.size (.tup vs)) { s with heap := h'.push { cls := .type "tuple", data := .seq acc }, toks := tk } :=
    I1.laid (t' := tk) (fun b o e => Heap.get?_push_of_some _ e) (Nat.le_refl _) (show ObjOk X.prog X.w _ _ _ (.tup vs) from ⟨hl, acc.toList, rv, by simpa using IsTup.new h' acc⟩)
  exact ⟨.ref h'.objs.size, _, I2, rfl, q vs _ iv (I1.hok.fresh (Nat.le_refl _))⟩
theorem el_listS (hc : X.calm = true) (hg : Gl X "list") (hm : X.mg "list" = none) (h : EvD X e Δ M fun d M1 => ∃ z : Str, d = .str z ∧ z.cps.size ≤ sizeLine ∧ ka (signs z) M1) (hs : starEach [e] X.env = [(false, eval e X.env)] := by rfl) : EvL X (.Call (.Name "list" p) [e] [] pos) Δ M ka :=
  el_callT (cr_listS hc) hg hm (by decide +kernel) (by decide) (by decide) hs rfl (one1 (h.mono fun d M1 ⟨z, ed, hz, hk⟩ F0 M0 H0 F H vs Q st ok i post => by
    obtain ⟨v, rfl, iv⟩ := isL1 i
    subst ed
    rw [is_str.1 iv]
    exact ⟨z, rfl, hz, fun vs l il hl => post.new st ok hk hl (il _ _)⟩) hs)
theorem ev_tupleS (hc : X.calm = true) (hg : Gl X "tuple") (hm : X.mg "tuple" = none) (h : EvD X e Δ M fun d M1 => ∃ z : Str, d = .str z ∧ z.cps.size ≤ sizeLine ∧ k (.tup (signs z)) M1) (hs : starEach [e] X.env = [(false, eval e X.env)] := by rfl) : EvD X (.Call (.Name "tuple" p) [e] [] pos) Δ M k :=
  ev_callT (cr_tupleS hc) hg hm (by decide +kernel) (by decide) (by decide) hs rfl (one1 (h.mono fun d M1 ⟨z, ed, hz, hk⟩ F H vs Q ok i post => by
    obtain ⟨v, rfl, iv⟩ := isL1 i
    subst ed
    rw [is_str.1 iv]
    refine ⟨z, rfl, hz, fun vs l il hl => ?_⟩
    have nw := ok.new (o := .tup vs) hl
    exact post _ M1 _ _ _ hk nw.2 nw.1 (is_tup.2 ⟨l, vs, rfl, .inl upd_same, il _ _⟩)) hs)
/-- sep.join(texts) -/
theorem ev_join (h : EvD X o Δ M fun d M1 => ∃ z : Str, d = .str z ∧ EvD X e Δ M1 fun d2 M2 => ∃ ys : List Str, seqD M2 d2 = some (ys.map D.str) ∧ (ys.map (·.length)).sum + ys.length * z.length ≤ 16777216 ∧ k (.str (Txt.join z ys)) M2)
    (hs : starEach [e] X.env = [(false, eval e X.env)] := by rfl) (hbase : attributeBase o "join" X.env (eval o X.env) = eval o X.env := by rfl) (hline : (apos.endLine == pos.line) = true := by rfl) : EvD X (.Call (.Attribute o "join" apos) [e] [] pos) Δ M k := fun F H σ Q hS ok post =>
  sem_of (L2.pe_join pe_sem pe_sem hs hbase hline) (h F H σ _ hS ok fun d M1 F1 H1 v ⟨z, ed, hk⟩ st ok1 i => by
    subst ed
    refine ⟨⟨z, is_str.1 i⟩, hk F1 H1 σ _ (hS.mono st.ext) ok1 fun d2 M2 F2 H2 u ⟨ys, h1, hz, q⟩ st2 ok2 i2 => ?_⟩
    obtain ⟨l, vs, rfl, hq, hl⟩ := seq_of ok2 h1 i2
    rw [(IsL.strs ys).1 hl] at hq
    exact ⟨z, l, ys, is_str.1 i, rfl, hq, hz, post _ M2 F2 H2 _ q (st.trans st2) ok2 (is_str.2 rfl)⟩)
end
end DL
end
section
set_option Elab.async false
set_option linter.all false
set_option maxRecDepth 100000
namespace DL
open PySem L2 PyProof.Rows
/-! ### the order of texts -/
theorem ltC_irr : ∀ a : List Nat, Spec.ltCps a a = false
  | [] => rfl
  | a :: r => by
    show (decide (a < a) || (a == a && Spec.ltCps r r)) = false
    rw [ltC_irr r]; simp
theorem ltC_trans : ∀ {a b c : List Nat}, Spec.ltCps a b = true → Spec.ltCps b c = true → Spec.ltCps a c = true
  | [], [], _, h, _ => by cases h
  | [], _ :: _, [], _, h => by cases h
  | [], _ :: _, _ :: _, _, _ => rfl
  | _ :: _, [], _, h, _ => by cases h
  | _ :: _, _ :: _, [], _, h => by cases h
  | a :: r, b :: t, c :: u, h, g => by
    have h' : (decide (a < b) || (a == b && Spec.ltCps r t)) = true := h
    have g' : (decide (b < c) || (b == c && Spec.ltCps t u)) = true := g
    show (decide (a < c) || (a == c && Spec.ltCps r u)) = true
    simp only [Bool.or_eq_true, decide_eq_true_eq, Bool.and_eq_true, beq_iff_eq] at h' g' ⊢
    rcases h' with h' | ⟨h1, h2⟩
    · rcases g' with g' | ⟨g1, g2⟩
      · exact .inl (by omega)
      · exact .inl (by omega)
    · rcases g' with g' | ⟨g1, g2⟩
      · exact .inl (by omega)
      · exact .inr ⟨by omega, ltC_trans h2 g2⟩
theorem ltC_tri : ∀ {a b : List Nat}, Spec.ltCps a b = false → Spec.ltCps b a = false → a = b
  | [], [], _, _ => rfl
  | [], _ :: _, h, _ => by cases h
  | _ :: _, [], _, h => by cases h
  | a :: r, b :: t, h, g => by
    have h' : (decide (a < b) || (a == b && Spec.ltCps r t)) = false := h
    have g' : (decide (b < a) || (b == a && Spec.ltCps t r)) = false := g
    simp only [Bool.or_eq_false_iff, decide_eq_false_iff_not, Bool.and_eq_false_iff, beq_eq_false_iff_ne] at h' g'
    have e : a = b := by omega
    subst e
    have h2 : Spec.ltCps r t = false := by
      rcases h'.2 with z | z
      · exact absurd rfl z
      · exact z
    have g2 : Spec.ltCps t r = false := by
      rcases g'.2 with z | z
      · exact absurd rfl z
      · exact z
    rw [ltC_tri h2 g2]
def lts (x y : Str) : Bool := Spec.ltCps x.cps.toList y.cps.toList
theorem lts_irr (x : Str) : lts x x = false := ltC_irr _
theorem lts_trans {x y z : Str} (h : lts x y = true) (g : lts y z = true) : lts x z = true := ltC_trans h g
theorem lts_tri {x y : Str} (h : lts x y = false) (g : lts y x = false) : x = y := by
  have e := ltC_tri h g
  obtain ⟨a⟩ := x
  obtain ⟨b⟩ := y
  have e' : a.toList = b.toList := e
  rw [Array.toList_inj.mp e']
/-- strictly rising -/
def SP (l : List Str) : Prop := l.Pairwise fun a b => lts a b = true
def insS (x : Str) : List Str → List Str
  | [] => [x]
  | y :: r => if lts x y = true then x :: y :: r else if lts y x = true then y :: insS x r else y :: r
def ss : List Str → List Str
  | [] => []
  | x :: r => insS x (ss r)
theorem mem_insS {x z : Str} : ∀ {l : List Str}, z ∈ insS x l ↔ z = x ∨ z ∈ l
  | [] => by unfold insS; simp
  | y :: r => by
    unfold insS
    split
    · simp
    · rename_i h1
      split
      · rw [List.mem_cons, List.mem_cons, mem_insS (l := r)]
        constructor
        · rintro (h | h | h) <;> simp [h]
        · rintro (h | h | h) <;> simp [h]
      · rename_i h2
        have e : x = y := lts_tri (by simpa using h1) (by simpa using h2)
        subst e
        simp
theorem mem_ss {z : Str} : ∀ {l : List Str}, z ∈ ss l ↔ z ∈ l
  | [] => by unfold ss; exact Iff.rfl
  | x :: r => by unfold ss; rw [mem_insS, mem_ss (l := r), List.mem_cons]
theorem sp_insS {x : Str} : ∀ {l : List Str}, SP l → SP (insS x l)
  | [], _ => by unfold insS; exact List.pairwise_singleton _ _
  | y :: r, h => by
    unfold insS
    obtain ⟨h1, h2⟩ := List.pairwise_cons.mp h
    split
    · rename_i hx
      refine List.pairwise_cons.mpr ⟨fun z hz => ?_, h⟩
      rcases List.mem_cons.mp hz with e | hz
      · rw [e]; exact hx
      · exact lts_trans hx (h1 z hz)
    · split
      · rename_i _ hy
        refine List.pairwise_cons.mpr ⟨fun z hz => ?_, sp_insS h2⟩
        rcases mem_insS.mp hz with e | hz
        · rw [e]; exact hy
        · exact h1 z hz
      · exact h
theorem sp_ss : ∀ l : List Str, SP (ss l)
  | [] => by unfold ss; exact List.Pairwise.nil
  | x :: r => by unfold ss; exact sp_insS (sp_ss r)
theorem sp_uniq : ∀ {a b : List Str}, SP a → SP b → (∀ z, z ∈ a ↔ z ∈ b) → a = b
  | [], [], _, _, _ => rfl
  | [], y :: b, _, _, h => by cases (h y).2 (List.mem_cons_self ..)
  | x :: a, [], _, _, h => by cases (h x).1 (List.mem_cons_self ..)
  | x :: a, y :: b, ha, hb, h => by
    obtain ⟨a1, a2⟩ := List.pairwise_cons.mp ha
    obtain ⟨b1, b2⟩ := List.pairwise_cons.mp hb
    have e : x = y := by
      rcases List.mem_cons.mp ((h x).1 (List.mem_cons_self ..)) with e | hx
      · exact e
      · rcases List.mem_cons.mp ((h y).2 (List.mem_cons_self ..)) with e | hy
        · exact e.symm
        · have := lts_trans (a1 y hy) (b1 x hx)
          rw [lts_irr] at this
          cases this
    subst e
    rw [sp_uniq a2 b2 fun z => ?_]
    constructor
    · intro hz
      rcases List.mem_cons.mp ((h z).1 (List.mem_cons_of_mem _ hz)) with e | hz'
      · subst e
        have := a1 z hz
        rw [lts_irr] at this
        cases this
      · exact hz'
    · intro hz
      rcases List.mem_cons.mp ((h z).2 (List.mem_cons_of_mem _ hz)) with e | hz'
      · subst e
        have := b1 z hz
        rw [lts_irr] at this
        cases this
      · exact hz'
theorem rising_pair : ∀ {x : Str} {l : List Str}, risingS x l = true → (x :: l).Pairwise fun a b => lts b a = false
  | _, [], _ => List.pairwise_singleton _ _
  | x, y :: l, h => by
    have h' : (!Spec.ltCps y.cps.toList x.cps.toList && risingS y l) = true := h
    rw [Bool.and_eq_true] at h'
    have hyx : lts y x = false := by simpa [lts] using h'.1
    have ih := rising_pair h'.2
    obtain ⟨i1, i2⟩ := List.pairwise_cons.mp ih
    refine List.pairwise_cons.mpr ⟨fun z hz => ?_, ih⟩
    rcases List.mem_cons.mp hz with e | hz
    · rw [e]; exact hyx
    · cases c : lts z x with
      | false => rfl
      | true =>
        -- z < x and not z < y gives y <= z < x
        exfalso
        have hzy := i1 z hz
        cases c2 : lts y z with
        | true =>
          rw [lts_trans c2 c] at hyx
          cases hyx
        | false =>
          have e := lts_tri hzy c2
          subst e
          rw [c] at hyx
          cases hyx
theorem sorted_pair {l : List Str} (h : sortedS l = true) : l.Pairwise fun a b => lts b a = false := by
  cases l with
  | nil => exact List.Pairwise.nil
  | cons x r => exact rising_pair h
theorem sorted_sp {l : List Str} (h : sortedS l = true) (nd : l.Nodup) : SP l := by
  have h1 := sorted_pair h
  unfold SP
  induction l with
  | nil => exact List.Pairwise.nil
  | cons x r ih =>
    obtain ⟨a1, a2⟩ := List.pairwise_cons.mp h1
    obtain ⟨n1, n2⟩ := List.nodup_cons.mp nd
    refine List.pairwise_cons.mpr ⟨fun z hz => ?_, ih ?_ n2 a2⟩
    · cases c : lts x z with
      | true => rfl
      | false => exact absurd (lts_tri c (a1 z hz)) fun e => n1 (by rw [e]; exact hz)
    · cases r with
      | nil => rfl
      | cons y r =>
        have h' : (!Spec.ltCps y.cps.toList x.cps.toList && risingS y r) = true := h
        exact (Bool.and_eq_true_iff.mp h').2
theorem ss_of {ys xs : List Str} (h : sortedS ys = true) (nd : ys.Nodup) (hm : ∀ z, z ∈ ys ↔ z ∈ xs) : ys = ss xs := sp_uniq (sorted_sp h nd) (sp_ss xs) fun z => (hm z).trans mem_ss.symm
theorem ss_perm {ms ns : List Str} (hp : ms.Perm ns) (h : sortedS ms = true) (nd : ns.Nodup) : ms = ss ns := ss_of h (hp.nodup_iff.mpr nd) fun z => hp.mem_iff
theorem ss_sp {l : List Str} (h : SP l) : ss l = l := sp_uniq (sp_ss l) h fun _ => mem_ss
theorem ss_ss (l : List Str) : ss (ss l) = ss l := ss_sp (sp_ss l)
theorem ss_ext {a b : List Str} (h : ∀ z, z ∈ a ↔ z ∈ b) : ss a = ss b := sp_uniq (sp_ss a) (sp_ss b) fun z => mem_ss.trans ((h z).trans mem_ss.symm)
theorem len_insS (x : Str) : ∀ l : List Str, (insS x l).length ≤ l.length + 1
  | [] => Nat.le_refl _
  | y :: r => by
    unfold insS
    split
    · simp
    · split
      · have := len_insS x r
        simp; omega
      · simp
theorem len_ss : ∀ l : List Str, (ss l).length ≤ l.length
  | [] => Nat.le_refl _
  | x :: r => by
    unfold ss
    have h1 := len_insS x (ss r)
    have h2 := len_ss r
    simp; omega
theorem sp_filter {l : List Str} {p : Str → Bool} (h : SP l) : SP (l.filter p) := h.filter p
/-! ### finishers for texts and truths in a row -/
theorem toPyL_strs : ∀ xs : List Str, toPyL (xs.map D.str) = some (xs.map PyData.str)
  | [] => by unfold toPyL; rfl
  | x :: xs => by
    rw [List.map_cons]
    unfold toPyL
    rw [toPyL_strs xs]
    unfold toPy
    rfl
theorem toPyL_bls : ∀ xs : List Bool, toPyL (xs.map D.bl) = some (xs.map PyData.bool)
  | [] => by unfold toPyL; rfl
  | x :: xs => by
    rw [List.map_cons]
    unfold toPyL
    rw [toPyL_bls xs]
    unfold toPy
    rfl
end DL
end
section
set_option Elab.async false
set_option linter.all false
set_option maxRecDepth 100000
namespace DL
open PySem L2 PyProof.Rows
/-! ### finishers for rows of texts, of truths -/
def NmL (xs : List Str) : Prop := ∀ x ∈ xs, PyData.strOk x = true ∧ x.cps.size ≤ 50
theorem layS : ∀ {xs : List Str}, NmL xs → PyData.canLayAll0 (xs.map PyData.str) = true
  | [], _ => by simp [PyData.canLayAll0]
  | x :: r, h => by
    simp only [List.map_cons, PyData.canLayAll0, PyData.canLay0, (h x (List.mem_cons_self ..)).1, layS (xs := r) fun z hz => h z (List.mem_cons_of_mem _ hz), Bool.and_self]
theorem layB : ∀ xs : List Bool, PyData.canLayAll0 (xs.map PyData.bool) = true
  | [] => by simp [PyData.canLayAll0]
  | x :: r => by simp only [List.map_cons, PyData.canLayAll0, PyData.canLay0, layB r, Bool.and_self]
theorem depS : ∀ xs : List Str, PyData.depthAll (xs.map PyData.str) = 0
  | [] => by simp [PyData.depthAll]
  | x :: r => by simp only [List.map_cons, PyData.depthAll, PyData.depth, depS r, Nat.max_self]
theorem depB : ∀ xs : List Bool, PyData.depthAll (xs.map PyData.bool) = 0
  | [] => by simp [PyData.depthAll]
  | x :: r => by simp only [List.map_cons, PyData.depthAll, PyData.depth, depB r, Nat.max_self]
theorem eqvS : ∀ xs ys : List Str, PyData.eqvAll (xs.map PyData.str) (ys.map PyData.str) = decide (xs = ys)
  | [], [] => by simp [PyData.eqvAll]
  | [], _ :: _ => by simp [PyData.eqvAll]
  | _ :: _, [] => by simp [PyData.eqvAll]
  | x :: r, y :: q => by
    simp only [List.map_cons, PyData.eqvAll, PyData.eqv, eqvS r q]
    by_cases h : x = y <;> simp [h]
theorem eqvB : ∀ xs ys : List Bool, PyData.eqvAll (xs.map PyData.bool) (ys.map PyData.bool) = decide (xs = ys)
  | [], [] => by simp [PyData.eqvAll]
  | [], _ :: _ => by simp [PyData.eqvAll]
  | _ :: _, [] => by simp [PyData.eqvAll]
  | x :: r, y :: q => by
    simp only [List.map_cons, PyData.eqvAll, PyData.eqv, eqvB r q]
    by_cases h : x = y <;> simp [h]
theorem shTS {xs : List Str} (h : NmL xs) : SeqAt.shaped (.tuple (xs.map PyData.str)) = true := by
  show (PyData.canLay0 (.tuple (xs.map PyData.str)) && decide (PyData.depth (.tuple (xs.map PyData.str)) ≤ 64)) = true
  simp only [PyData.canLay0, PyData.depth, layS h, depS]
  decide
theorem shLS {xs : List Str} (h : NmL xs) : SeqAt.shaped (.list (xs.map PyData.str)) = true := by
  show (PyData.canLay0 (.list (xs.map PyData.str)) && decide (PyData.depth (.list (xs.map PyData.str)) ≤ 64)) = true
  simp only [PyData.canLay0, PyData.depth, layS h, depS]
  decide
theorem shLB (xs : List Bool) : SeqAt.shaped (.list (xs.map PyData.bool)) = true := by
  show (PyData.canLay0 (.list (xs.map PyData.bool)) && decide (PyData.depth (.list (xs.map PyData.bool)) ≤ 64)) = true
  simp only [PyData.canLay0, PyData.depth, layB, depB]
  decide
theorem toPy_tS (xs : List Str) : toPy (.tup (xs.map D.str)) = some (.tuple (xs.map PyData.str)) := by unfold toPy; rw [toPyL_strs]; rfl
theorem toPy_lS (xs : List Str) : toPy (.lst (xs.map D.str)) = some (.list (xs.map PyData.str)) := by unfold toPy; rw [toPyL_strs]; rfl
theorem toPy_lB (xs : List Bool) : toPy (.lst (xs.map D.bl)) = some (.list (xs.map PyData.bool)) := by unfold toPy; rw [toPyL_bls]; rfl
section
variable {M : Store} {k : DK} {xs ys : List Str} {bs cs : List Bool} {d : D} {x : Str}
theorem eq_tS (hx : NmL xs) (hy : NmL ys) (h : k (.bl (decide (xs = ys))) M) : EqA false (.tup (xs.map D.str)) (.tup (ys.map D.str)) M k := .inr ⟨_, _, toPy_tS xs, toPy_tS ys, shTS hx, shTS hy, by
  have e : PyData.eqv (.tuple (xs.map PyData.str)) (.tuple (ys.map PyData.str)) = decide (xs = ys) := by simp only [PyData.eqv]; exact eqvS xs ys
  rw [e]; exact h⟩
theorem eq_lB (h : k (.bl (decide (bs = cs))) M) : EqA false (.lst (bs.map D.bl)) (.lst (cs.map D.bl)) M k := .inr ⟨_, _, toPy_lB bs, toPy_lB cs, shLB bs, shLB cs, by
  have e : PyData.eqv (.list (bs.map PyData.bool)) (.list (cs.map PyData.bool)) = decide (bs = cs) := by simp only [PyData.eqv]; exact eqvB bs cs
  rw [e]; exact h⟩
theorem inV_strs : ∀ xs : List Str, inV (.str x) (xs.map V.str) = decide (x ∈ xs)
  | [] => by simp [inV]
  | y :: xs => by
    have ih := inV_strs xs
    unfold inV at ih ⊢
    rw [List.map_cons, List.any_cons, ih]
    show (y == x || decide (x ∈ xs)) = _
    by_cases h : y = x
    · simp [h]
    · have h' : ¬ x = y := fun z => h z.symm
      simp [h, h']
theorem in_S (hd : seqD M d = some (xs.map D.str)) (h : k (.bl (decide (x ∈ xs))) M) : InP false (.str x) d M k := ⟨.str x, _, _, rfl, hd, flatL_strs xs, by
  rw [inV_strs]; exact h⟩
theorem notin_S (hd : seqD M d = some (xs.map D.str)) (h : k (.bl (!decide (x ∈ xs))) M) : InP true (.str x) d M k := ⟨.str x, _, _, rfl, hd, flatL_strs xs, by
  rw [inV_strs]; exact h⟩
theorem seqD_mup {q : Addr} {m : MO} {ds : List D} (hq : M q = none) (h : seqD M d = some ds) : seqD (mup M q m) d = some ds := by
  cases d with
  | cell a =>
    by_cases e : a = q
    · subst e
      simp only [seqD, hq] at h
      cases h
    · simp only [seqD, mup_ne e] at h ⊢
      exact h
  | _ => exact h
end
/-- texts out of a written row -/
def unS : List D → Option (List Str)
  | [] => some []
  | .str x :: r => (unS r).map (x :: ·)
  | _ => none
theorem strL : ∀ {ds : List D} {xs : List Str}, unS ds = some xs → some ds = some (xs.map D.str)
  | [], _, h => by cases h; rfl
  | .str x :: r, xs, h => by
    obtain ⟨ys, h1, h2⟩ := Option.map_eq_some_iff.mp (show (unS r).map (x :: ·) = some xs from h)
    subst h2
    rw [List.map_cons, ← Option.some.inj (strL h1)]
  | .non :: _, _, h => by cases h
  | .bl _ :: _, _, h => by cases h
  | .int _ :: _, _, h => by cases h
  | .ty _ :: _, _, h => by cases h
  | .tup _ :: _, _, h => by cases h
  | .lst _ :: _, _, h => by cases h
  | .frl _ :: _, _, h => by cases h
  | .dct _ _ :: _, _, h => by cases h
  | .ins _ _ _ :: _, _, h => by cases h
  | .cell _ :: _, _, h => by cases h
/-! ### equality of data, by computing -/
mutual
def eqD : D → D → Bool
  | .non, .non => true
  | .bl a, .bl b => a == b
  | .int a, .int b => decide (a = b)
  | .str a, .str b => decide (a = b)
  | .tup a, .tup b => eqDL a b
  | .lst a, .lst b => eqDL a b
  | _, _ => false
def eqDL : List D → List D → Bool
  | [], [] => true
  | a :: r, b :: t => eqD a b && eqDL r t
  | _, _ => false
end
mutual
theorem eqD_ok : ∀ {a b : D}, eqD a b = true → a = b
  | .non, b, h => by cases b <;> simp [eqD] at h <;> first | rfl | cases h
  | .bl _, b, h => by cases b <;> simp [eqD] at h <;> first | (rw [h]) | cases h
  | .int _, b, h => by cases b <;> simp [eqD] at h <;> first | (rw [h]) | cases h
  | .str _, b, h => by cases b <;> simp [eqD] at h <;> first | (rw [h]) | cases h
  | .tup x, b, h => by
    cases b <;> simp [eqD] at h
    rw [eqDL_ok h]
  | .lst x, b, h => by
    cases b <;> simp [eqD] at h
    rw [eqDL_ok h]
  | .ty _, b, h => by cases b <;> simp [eqD] at h
  | .frl _, b, h => by cases b <;> simp [eqD] at h
  | .dct _ _, b, h => by cases b <;> simp [eqD] at h
  | .ins _ _ _, b, h => by cases b <;> simp [eqD] at h
  | .cell _, b, h => by cases b <;> simp [eqD] at h
theorem eqDL_ok : ∀ {a b : List D}, eqDL a b = true → a = b
  | [], b, h => by cases b <;> simp [eqDL] at h; rfl
  | x :: r, b, h => by
    cases b with
    | nil => simp [eqDL] at h
    | cons y t =>
      simp only [eqDL, Bool.and_eq_true] at h
      rw [eqD_ok h.1, eqDL_ok h.2]
end
/-! ### comprehensions whose parts are plain -/
section
variable {X : Cx} {tg iter elt : Expr} {ifs : List Expr} {scope : Scope} {vs : List Nat} {Δ : DS} {M : Store} {ka : AK} {α : Type}
theorem lc_plain (xs : List α) (enc : α → D) (p : α → Bool) (f : α → D) {ds : List D} (he : ds = xs.map enc) (hlen : xs.length ≤ sizeLine)
    (hstep : ∀ x ∈ xs, ∃ Δ1 sl, (∀ j ∈ sl, j ∈ vs) ∧ (∀ s H C cl fp, GdD (Blk X scope s H C cl fp) tg (enc x) (wipeD Δ vs) Δ1 sl) ∧ (∀ s H C cl fp, TsD (Blk X scope s H C cl fp) ifs Δ1 M fun c M' => c = p x ∧ M' = M) ∧ (p x = true → ∀ s H C cl fp, EvD (Blk X scope s H C cl fp) elt Δ1 M fun d M' => d = f x ∧ M' = M))
    (hk : ka ((xs.filter p).map f) M) : LcQ X scope elt tg ifs vs Δ ka ds M := by
  subst he
  refine ⟨fun i acc M' => M' = M ∧ acc = ((xs.take i).filter p).map f, ⟨rfl, by simp⟩, ?_, ?_⟩
  · rintro i d acc M' hd ⟨rfl, rfl⟩
    rw [List.getElem?_map] at hd
    obtain ⟨x, hx, rfl⟩ := Option.map_eq_some_iff.mp hd
    have hi : i < xs.length := (List.getElem?_eq_some_iff.mp hx).1
    obtain ⟨Δ1, sl, h1, h2, h3, h4⟩ := hstep x (List.mem_of_getElem? hx)
    have ht : xs.take (i + 1) = xs.take i ++ [x] := by rw [List.take_add_one, hx]; rfl
    refine ⟨?_, Δ1, sl, h1, h2, _, h3, ?_⟩
    · rw [List.length_map]
      have := List.length_filter_le p (xs.take i)
      rw [List.length_take] at this
      omega
    · rintro c M2 ⟨rfl, rfl⟩
      cases hp : p x with
      | true =>
        refine (if_pos rfl).mpr ⟨_, h4 hp, ?_⟩
        rintro r M3 ⟨rfl, rfl⟩
        exact ⟨rfl, by rw [ht, List.filter_append, List.map_append]; simp [hp]⟩
      | false =>
        refine (if_neg Bool.false_ne_true).mpr ⟨rfl, by rw [ht, List.filter_append, List.map_append]; simp [hp]⟩
  · rintro acc M' ⟨rfl, rfl⟩
    rw [List.length_map, List.take_length]
    exact hk
end
end DL
end
section
set_option Elab.async false
set_option linter.all false
set_option maxRecDepth 100000
namespace DL
open PySem L2 PyProof.Rows
section
variable {P : Program} {w : World} {K : PySem.W.Frag} {mg : Str → Option Value} {base : Heap}
abbrev FnD (K : PySem.W.Frag) (x qual : Str) (st : Stmt) (dvs : List V) (f : Addr) (fd : FuncData) : Prop := FunD K x qual (defArgs st) (defBody st) (defScope st) dvs [] f fd
theorem ok_dD {x qual : Str} {st : Stmt} {f : Addr} {fd : FuncData} {N ps : List Str} {n : Nat} {sp : SpD} {dvs : List V} (Fn : FnD K x qual st dvs f fd) (S : FnScope N ps (defScope st)) (len : ∀ ds M k, sp ds M k → ds.length = ps.length)
    (hbody : ∀ (cdv : Value) (A : Around) (outer : List Env) (s : Shared) (H : Hp) (E : XK) (ds : List D) (M : Store) (k : DK), Room n (A.deeper (PyProof.Rows.envOfC qual (defScope st) s.heap.objs.size f cdv)) → sp ds M k →
      SsD (XOf P w K mg base N qual st f cdv A outer s H E) (defBody st) (startD N ds) M { nx := fun _ M' => k .non M', rt := k }) : FnOk P w K mg base CX0 (n + 1) f fd ps (spOf K sp) := by
  refine Fn.ok S (fun vs H Q E ⟨ds, F, M, k, il, ok, h, post⟩ => by rw [← il.length]; exact len ds M k h) fun cdv A outer s H vs Q E hr ⟨ds, F, M, k, il, ok, h, post⟩ => ?_
  refine ⟨_, PSs.nox pss_sem, hbody cdv A outer s H E ds M k hr h F H (L2.start N vs) _ (start_is il) ok ⟨fun Δ' M' F' H' σ' q st' ok' _ => post .non M' F' H' .non q st' ok' (is_non.2 rfl), post, fun _ _ _ _ _ q => q.elim, fun _ _ _ _ _ q => q.elim⟩⟩
/-- keywords without defaults -/
theorem kbn_of {x qual : Str} {st : Stmt} {f : Addr} {fd : FuncData} {ps : List Str} (Fn : FnD K x qual st [] f fd) (n : Nat) (ks : List Str) (g : {α : Type} → List α → List α → List α)
    (hrel : ∀ {vs zs : List V} {us ws : List Value}, Vals vs us → Vals zs ws → Vals (g vs zs) (g us ws))
    (h : ∀ (kV doc pm : Value) (an : Option Addr) (cdv ct : Value) (us ws : List Value), us.length = n → ws.length = ks.length → bindArgs (PySem.W.fnOf x qual (defArgs st) (defBody st) (defScope st) .none kV doc pm an cdv ct) ⟨us, ks.zip ws⟩ = pure (ps.zip (g us ws))) : KBn K fd ps n ks (fun us ws => g us ws) (fun vs zs => g vs zs) := by
  obtain ⟨oc, od, dV, kV, doc, pm, an, cdv, ct, osl, rfl, lk, hcd, hD, hK⟩ := Fn.ex
  rcases hD with ⟨_, rfl⟩ | ⟨e, _⟩
  · exact ⟨fun s us ws X l1 l2 => .of_eq (h kV doc pm an cdv ct us ws l1 l2), fun r1 r2 => hrel r1 r2⟩
  · exact absurd rfl e
end
section
variable {X : Cx} {Δ : DS} {M : Store} {k : DK} {pos : Pos} {x : Str}
theorem ev_gS {z : Str} (hm : ∃ t, X.mg x = some (.str z t)) (hg : Gl X x) (h : k (.str z) M) (hd : (x == ("__debug__" : Str)) = false := by decide) : EvD X (.Name x pos) Δ M k := by
  obtain ⟨t, hm⟩ := hm
  exact ev_g (v := .str z) ⟨hm, ⟨t, rfl⟩, fun F => is_str.2 rfl⟩ hg h hd
theorem ev_gI {z : Int} (hm : ∃ t, X.mg x = some (.int z t)) (hg : Gl X x) (h : k (.int z) M) (hd : (x == ("__debug__" : Str)) = false := by decide) : EvD X (.Name x pos) Δ M k := by
  obtain ⟨t, hm⟩ := hm
  exact ev_g (v := .int z) ⟨hm, ⟨t, rfl⟩, fun F => is_int.2 rfl⟩ hg h hd
theorem ev_gC {C : Addr} (hm : X.mg x = some (.ref C)) (hg : Gl X x) (h : k (.cell C) M) (hd : (x == ("__debug__" : Str)) = false := by decide) : EvD X (.Name x pos) Δ M k :=
  ev_g (v := .ref C) ⟨hm, rfl, fun F => is_cell.2 rfl⟩ hg h hd
end
theorem put2 {f g : Str} (h : noF [f] g = true) (a b : D) : putN (putN [] f) g = [f, g] ∧ putD (putN [] f) (putD [] [] f a) g b = [a, b] := by
  have e1 : putN [] f = [f] := rfl
  have e2 : putD [] [] f a = [a] := rfl
  rw [e1, e2]
  unfold putN putD
  rw [if_pos h, if_pos h]
  exact ⟨rfl, rfl⟩
theorem put2N {f g : Str} (h : noF [f] g = true) : putN (putN [] f) g = [f, g] := (put2 h .non .non).1
theorem put2D {f g : Str} (h : noF [f] g = true) {a b : D} : putD (putN [] f) (putD [] [] f a) g b = [a, b] := (put2 h a b).2
theorem nm_sum : ∀ {ns : List Str}, NmL ns → (ns.map (·.length)).sum ≤ ns.length * 50
  | [], _ => by simp
  | x :: r, h => by
    have h1 := (h x (List.mem_cons_self ..)).2
    have h2 := nm_sum (ns := r) fun z hz => h z (List.mem_cons_of_mem _ hz)
    have h3 : x.length = x.cps.size := rfl
    rw [List.map_cons, List.sum_cons, List.length_cons]
    omega
theorem jsz {ns : List Str} {z : Str} (h : NmL ns) (hl : ns.length ≤ 1000) (hz : z.length ≤ 50) : (ns.map (·.length)).sum + ns.length * z.length ≤ 16777216 := by
  have h1 := nm_sum h
  have h2 : ns.length * z.length ≤ ns.length * 50 := Nat.mul_le_mul_left _ hz
  omega
theorem jsz2 {ns : List Str} {z : Str} (h : NmL ns) (hl : ns.length ≤ 1000) (hz : z.length ≤ 50) : (Txt.join z ns).length ≤ 100000 := by
  have h1 := nm_sum h
  have h2 : ns.length * z.length ≤ ns.length * 50 := Nat.mul_le_mul_left _ hz
  have h3 := StrLaws.join_length_le z ns
  have h4 : (Txt.join z ns).length ≤ (ns.map (·.length)).sum + ns.length * z.length := by rw [TL.join_eq]; exact h3
  omega
/-- what stands stays, but for u -/
def Keep (u : Addr) (M M' : Store) : Prop := ∀ q m, q ≠ u → M q = some m → M' q = some m
theorem Keep.refl {u : Addr} {M : Store} : Keep u M M := fun _ _ _ h => h
theorem Keep.trans {u : Addr} {M M1 M2 : Store} (a : Keep u M M1) (b : Keep u M1 M2) : Keep u M M2 := fun q m n h => b q m n (a q m n h)
theorem Keep.mup {u : Addr} {M : Store} {m : MO} : Keep u M (mup M u m) := fun q m' n h => by rw [mup_ne n]; exact h
theorem Keep.new {u q : Addr} {M M' : Store} {m : MO} (a : Keep u M M') (h : M q = none) : Keep u M (DL.mup M' q m) := fun r m' n e => by
  have z : r ≠ q := fun z => by rw [z, h] at e; cases e
  rw [mup_ne z]; exact a r m' n e
/-! ### new instances, frozen at once -/
def NewF (C : Addr) (sp : SpD) (k : DK) (args : Addr → List D) (M : Store) : Prop := ∀ q, M q = none → sp (args q) (mup M q (.ins C [] [])) fun d M2 => d = .non ∧ ∃ fs ds, M2 q = some (.ins C fs ds) ∧ k (.ins C fs ds) (mdel M2 q)
section
variable {X : Cx} {e : Expr} {es : List Expr} {Δ : DS} {M : Store} {k : DK} {p pos : Pos} {x : Str} {C : Addr} {n : Nat} {sp : SpD} {dv : List D} {kws : List Keyword} {kn : List Str} {gD : List D → List D → List D}
/-- a contract that may only ask for more -/
def SpMono (sp : SpD) : Prop := ∀ ds M (k k' : DK), (∀ d M', k d M' → k' d M') → sp ds M k → sp ds M k'
theorem newF_I (mo : SpMono sp) {args : Addr → List D} (h : NewF C sp k args M) : NewI C sp (fun d M1 => ∃ q C fs ds, d = .cell q ∧ M1 q = some (.ins C fs ds) ∧ k (.ins C fs ds) (mdel M1 q)) args M := fun q hq =>
  mo _ _ _ _ (fun d M' ⟨e, fs, ds, h1, h2⟩ => ⟨e, q, C, fs, ds, rfl, h1, h2⟩) (h q hq)
theorem ev_makeF (mo : SpMono sp) (mk : MakD X.prog X.w X.K X.mg X.base x C n dv sp) (hr : Room (n + 1) X.A) (hg : Gl X x) (h : EvA X (e :: es) Δ M fun ds M1 => NewF C sp k (fun q => .cell q :: (ds ++ dv)) M1) (hdb : (x == ("__debug__" : Str)) = false := by decide)
    (he : starEach (e :: es) X.env = (false, eval e X.env) :: starEach es X.env := by rfl) (hpl : (backTo pos (starEach es X.env)).any (·.1) = false := by rfl) : EvD X (.Call (.Name x p) (e :: es) [] pos) Δ M k :=
  ev_frzI (ev_make mk hr hg (fun F H σ Q hS ok post => h F H σ Q hS ok fun ds M' F' H' vs q st ok' il => post ds M' F' H' vs (newF_I mo q) st ok' il) hdb he hpl)
theorem ev_makeF0 (mo : SpMono sp) (mk : MakD X.prog X.w X.K X.mg X.base x C n dv sp) (hr : Room (n + 1) X.A) (hg : Gl X x) (h : NewF C sp k (fun q => .cell q :: dv) M) (hdb : (x == ("__debug__" : Str)) = false := by decide) : EvD X (.Call (.Name x p) [] [] pos) Δ M k :=
  ev_frzI (ev_make0 mk hr hg (newF_I mo h) hdb)
theorem ev_makeFK0 (mo : SpMono sp) (mk : MakK X.prog X.w X.K X.mg X.base x C n 0 kn gD sp) (hr : Room (n + 1) X.A) (hg : Gl X x) (h : EvK X kws Δ M fun ds M1 => ds.length = kn.length ∧ NewF C sp k (fun q => gD [.cell q] ds) M1)
    (hall : (backToKw pos (keywordEach kws X.env)).all (·.1.isSome) = true := by rfl) (hks : (backToKw pos (keywordEach kws X.env)).filterMap (·.1) = kn := by rfl) (hdb : (x == ("__debug__" : Str)) = false := by decide)
    (hpl : ((backTo pos (starEach [] X.env)).any (·.1) || (backToKw pos (keywordEach kws X.env)).any (·.1.isNone)) = false := by rfl) : EvD X (.Call (.Name x p) [] kws pos) Δ M k :=
  ev_frzI (ev_makeK0 mk hr hg (fun F H σ Q hS ok post => h F H σ Q hS ok fun ds M' F' H' vs ⟨l, q⟩ st ok' il => post ds M' F' H' vs ⟨l, newF_I mo q⟩ st ok' il) hall hks hdb hpl)
end
/-! ### tests of the head -/
section
open PySem.W He He5
variable {K : Frag}
def tKit (t u : Frag → Value) (b : Bool) (K : Frag) : Bool := decide (kitOne K (t K) (u K) = some b)
theorem tKit_ok {t u : Frag → Value} {b : Bool} (c : tKit t u b K = true) : kitOne K (t K) (u K) = some b := of_decide_eq_true c
def tTy (x : PySem.Str) (K : Frag) : Bool := tFa (.cls x) K && (decide (findIn K (.ref (ga K x)) "__class__" = some (some (.builtin "object.__class__"))) && (decide (specialIn K (.builtin "object.__class__") "__get__" = some (some (.builtin "getset_descriptor.__get__"))) && (decide (takesIn K (.builtin "object.__class__") = some true) && decide (mroIn K (ga K x) (.type "object") = some true))))
theorem tTy_ok {x : PySem.Str} (c : tTy x K = true) : TyC K (ga K x) := by
  unfold tTy at c
  obtain ⟨c1, c⟩ := ba c
  obtain ⟨c2, c⟩ := ba c
  obtain ⟨c3, c⟩ := ba c
  obtain ⟨c4, c5⟩ := ba c
  exact ⟨cls_ok c1, of_decide_eq_true c2, of_decide_eq_true c3, of_decide_eq_true c4, of_decide_eq_true c5⟩
def tNe (x : PySem.Str) (K : Frag) : Bool := decide (findIn K (.ref (ga K x)) "__ne__" = some (some (.builtin "object.__ne__")))
theorem tNe_ok {x : PySem.Str} (c : tNe x K = true) : findIn K (.ref (ga K x)) "__ne__" = some (some (.builtin "object.__ne__")) := of_decide_eq_true c
def tNF (x : PySem.Str) (t : Frag → Value) (K : Frag) : Bool := notFirst K (ga K x) (t K)
/-- a default that is a tuple of the written part without items -/
def tTup0 (a : Frag → Addr) (K : Frag) : Bool := match K.lookup (a K) with
  | some ⟨.type c, _, .seq its _, _⟩ => decide (c = "tuple") && its.isEmpty
  | _ => false
theorem tTup0_ok {a : Frag → Addr} (c : tTup0 a K = true) (F : Hp) : Is K F (.tup []) (.ref (a K)) := by
  unfold tTup0 at c
  cases q : K.lookup (a K) with
  | none => rw [q] at c; cases c
  | some o =>
    obtain ⟨oc, od, dt, osl⟩ := o
    rw [q] at c
    cases oc with
    | type t =>
      cases dt with
      | seq its n =>
        obtain ⟨h1, h2⟩ := ba (show (decide (t = "tuple") && its.isEmpty) = true from c)
        have e : its = #[] := by simpa using h2
        subst e
        exact is_tup.2 ⟨a K, [], rfl, .inr ⟨_, #[], n, q, congrArg Value.type (of_decide_eq_true h1), rfl, by decide, .nil⟩, IsL.nil⟩
      | _ => cases c
    | _ => cases dt <;> cases c
end
end DL
end
section
set_option Elab.async false
set_option linter.all false
set_option maxRecDepth 100000
namespace DL
open PySem L2 PyProof.Rows
/-- what stands stays -/
def Keep0 (M M' : Store) : Prop := ∀ q m, M q = some m → M' q = some m
theorem Keep0.refl {M : Store} : Keep0 M M := fun _ _ h => h
theorem Keep0.trans {M M1 M2 : Store} (a : Keep0 M M1) (b : Keep0 M1 M2) : Keep0 M M2 := fun q m h => b q m (a q m h)
theorem Keep0.new {q : Addr} {M M' : Store} {m : MO} (a : Keep0 M M') (h : M q = none) : Keep0 M (mup M' q m) := fun r m' e => by
  have z : r ≠ q := fun z => by rw [z, h] at e; cases e
  rw [mup_ne z]; exact a r m' e
theorem Keep0.del {q : Addr} {M M' : Store} (a : Keep0 M M') (h : M q = none) : Keep0 M (mdel M' q) := fun r m' e => by
  have z : r ≠ q := fun z => by rw [z, h] at e; cases e
  rw [mdel_ne z]; exact a r m' e
theorem Keep0.none {q : Addr} {M M' : Store} (a : Keep0 M M') (h : M' q = none) : M q = none := by
  cases e : M q with
  | none => rfl
  | some m => rw [a q m e] at h; cases h
theorem Keep.del {u q : Addr} {M M' : Store} (a : Keep u M M') (h : M q = none) : Keep u M (mdel M' q) := fun r m' n e => by
  have z : r ≠ q := fun z => by rw [z, h] at e; cases e
  rw [mdel_ne z]; exact a r m' n e
theorem Keep.none {u q : Addr} {M M' : Store} (a : Keep u M M') (hn : q ≠ u) (h : M' q = none) : M q = none := by
  cases e : M q with
  | none => rfl
  | some m => rw [a q m hn e] at h; cases h
theorem Keep.of0 {u : Addr} {M M' : Store} (a : Keep0 M M') : Keep u M M' := fun q m _ e => a q m e
theorem Urn.keep0 {M M' : Store} {u : Addr} {n : Nat} (h : Urn M u n) (k : Keep0 M M') : Urn M' u n := by
  obtain ⟨a, b, c, h1, h2⟩ := h
  exact ⟨a, b, c, k _ _ h1, h2⟩
theorem Urn.some {M : Store} {u : Addr} {n : Nat} (h : Urn M u n) : M u ≠ none := by
  obtain ⟨a, b, c, h1, h2⟩ := h
  rw [h1]; simp
/-- a draw: any number below low -/
def spTake : SpD := fun ds M k => ∃ u low n, ds = [.cell u, .int low] ∧ 0 < low ∧ low.natAbs.log2 < 9000 ∧ Urn M u (n + 1) ∧ ∀ d M', 0 ≤ d → d < low → Keep u M M' → Urn M' u n → k (.int d) M'
/-! ### x or y of lists -/
section
variable {X : Cx} {a b : Expr} {rest : List Expr} {Δ : DS} {M : Store} {k : DK} {pos : Pos}
theorem perm_map {α β : Type} {f : α → β} {l l' : List β} (p : l.Perm l') : ∀ xs : List α, l' = xs.map f → ∃ ts : List α, l = ts.map f ∧ ts.Perm xs := by
  induction p with
  | nil => exact fun xs e => ⟨[], rfl, by cases xs with | nil => exact .nil | cons _ _ => cases e⟩
  | cons x p ih =>
    intro xs e
    cases xs with
    | nil => cases e
    | cons y ys =>
      rw [List.map_cons] at e
      injection e with e1 e2
      obtain ⟨ts, h1, h2⟩ := ih ys e2
      exact ⟨y :: ts, by rw [h1, e1]; rfl, h2.cons y⟩
  | swap x y l =>
    intro xs e
    match xs, e with
    | [], e => cases e
    | [_], e => cases e
    | a :: b :: r, e =>
      rw [List.map_cons, List.map_cons] at e
      injection e with e1 e2
      injection e2 with e2 e3
      exact ⟨b :: a :: r, by rw [e1, e2, e3]; rfl, .swap a b r⟩
  | trans p q ih1 ih2 =>
    intro xs e
    obtain ⟨ts, h1, h2⟩ := ih2 xs e
    obtain ⟨us, h3, h4⟩ := ih1 ts h1
    exact ⟨us, h3, h4.trans h2⟩
end
end DL
end
section
set_option Elab.async false
set_option linter.all false
set_option maxRecDepth 100000
namespace DL
open PySem L2 PyProof.Rows
/-! ### rows by places -/
theorem atI_nat {α : Type} {xs : List α} {j : Nat} {x : α} (h : xs[j]? = some x) : atI xs (j : Nat) = some x := by
  have hj := (List.getElem?_eq_some_iff.mp h).1
  unfold atI ixN
  rw [if_pos (by omega), if_pos (by omega), Int.toNat_natCast]
  exact h
theorem ixN_pos {n : Nat} {z : Int} (h0 : 0 ≤ z) (h1 : z < n) : ixN n z = some z.toNat := by
  unfold ixN
  rw [if_pos h0, if_pos h1]
theorem at_ints_cell {M : Store} {q : Addr} {cs : List Int} {z : Int} (hM : M q = some (.lst (cs.map D.int))) (h0 : 0 ≤ z) (h1 : z < cs.length) : ∃ c, atD M (.cell q) z = some (.int c) := by
  have hz : z.toNat < cs.length := by omega
  refine ⟨cs[z.toNat], at_cell hM ?_⟩
  unfold atI
  rw [ixN_pos h0 (by rw [List.length_map]; exact h1)]
  show (cs.map D.int)[z.toNat]? = _
  rw [List.getElem?_map, List.getElem?_eq_getElem hz]
  rfl
def cutA {α : Type} (xs : List α) (lo hi : Option Int) : List α := (xs.drop (HT.sIx xs.length 0 lo)).take (HT.sIx xs.length xs.length hi - HT.sIx xs.length 0 lo)
theorem cutD_map {α : Type} (f : α → D) (xs : List α) (lo hi : Option Int) : cutD (xs.map f) lo hi = (cutA xs lo hi).map f := by
  unfold cutD cutA
  rw [List.length_map, List.map_take, List.map_drop]
theorem cutA_len {α : Type} (xs : List α) (lo hi : Option Int) : (cutA xs lo hi).length ≤ xs.length := by
  unfold cutA
  rw [List.length_take, List.length_drop]
  omega
theorem cutA_to {α : Type} (xs : List α) (t : Nat) : cutA xs none (some (t : Int)) = xs.take t := by
  unfold cutA
  rw [HT.sIx_none, HT.sIx_nat, List.drop_zero, Nat.sub_zero]
  by_cases h : t ≤ xs.length
  · rw [Nat.min_eq_left h]
  · rw [Nat.min_eq_right (by omega), List.take_of_length_le (Nat.le_refl _), List.take_of_length_le (by omega)]
theorem cutA_from_nonempty {α : Type} {xs : List α} {t : Nat} {hi : Option Int} {i : Nat} {x : α} (h : (cutA xs (some (t : Int)) hi)[i]? = some x) : t < xs.length := by
  have h1 := (List.getElem?_eq_some_iff.mp h).1
  unfold cutA at h1
  rw [List.length_take, List.length_drop, HT.sIx_nat] at h1
  omega
theorem cutA_dropLast {α : Type} (xs : List α) : cutA xs none (some (-1)) = xs.dropLast := by
  unfold cutA
  rw [HT.sIx_none, List.drop_zero, Nat.sub_zero, List.dropLast_eq_take]
  congr 1
  show (if (-1 : Int) < 0 then ((-1 : Int) + (xs.length : Int)).toNat else min (-1 : Int).toNat xs.length) = _
  rw [if_pos (by decide)]
  omega
theorem enum_map {α : Type} {f : α → D} {vs : List α} {i : Nat} {d : D} (h : (enumD (vs.map f))[i]? = some d) : ∃ v, vs[i]? = some v ∧ d = .tup [.int (i : Nat), f v] := by
  cases e : vs[i]? with
  | none =>
    have : (enumD (vs.map f))[i]? = none := by
      rw [List.getElem?_eq_none]
      rw [enumD_len, List.length_map]
      exact List.getElem?_eq_none_iff.mp e
    rw [this] at h
    cases h
  | some v =>
    have h2 := enumD_get (ds := vs.map f) (i := i) (d := f v) (by rw [List.getElem?_map, e]; rfl)
    rw [h2] at h
    exact ⟨v, rfl, (Option.some.inj h).symm⟩
theorem zip_map {α : Type} (f g : α → D) (xs : List α) : zipD (xs.map f) (xs.map g) = xs.map fun x => .tup [f x, g x] := by
  unfold zipD
  induction xs with
  | nil => rfl
  | cons x xs ih => rw [List.map_cons, List.map_cons, List.zip_cons_cons, List.map_cons, ih]; rfl
theorem zip_self (xs : List D) : zipD xs xs = xs.map fun x => .tup [x, x] := by
  have := zip_map (fun x => x) (fun x => x) xs
  rw [List.map_id'] at this
  exact this
/-- plain data: n deep -/
def Pl : Nat → D → Prop
  | _, .non => True
  | _, .bl _ => True
  | _, .int _ => True
  | _, .str _ => True
  | n + 1, .tup ds => ds.length ≤ sizeLine ∧ ∀ d ∈ ds, Pl n d
  | n + 1, .lst ds => ds.length ≤ sizeLine ∧ ∀ d ∈ ds, Pl n d
  | _, _ => False
def spSame (n : Nat) : SpD := fun ds M k => ∃ x y, ds = [x, y] ∧ x = y ∧ Pl n x ∧ k (.bl true) M
end DL
end
section
set_option Elab.async false
set_option linter.all false
set_option maxRecDepth 100000
namespace DL
open PySem L2 PyProof.Rows
theorem rng_get {lo : Int} {n i : Nat} {d : D} (h : (rngD lo n)[i]? = some d) : i < n ∧ d = .int (lo + (i : Nat)) := by
  unfold rngD at h
  rw [List.getElem?_map] at h
  obtain ⟨j, h1, h2⟩ := Option.map_eq_some_iff.mp h
  have h3 := List.getElem?_eq_some_iff.mp h1
  obtain ⟨h4, h5⟩ := h3
  rw [List.length_range] at h4
  rw [List.getElem_range] at h5
  subst h5
  exact ⟨h4, h2.symm⟩
theorem rng_len {lo : Int} {n : Nat} : (rngD lo n).length = n := by unfold rngD; rw [List.length_map, List.length_range]
theorem lg {z : Int} (h0 : 0 < z) (h : z < 2 ^ 64) : z.natAbs.log2 < 9000 := by
  have h1 : z.natAbs < 2 ^ 64 := by omega
  have h2 : z.natAbs ≠ 0 := by omega
  have h3 : z.natAbs.log2 < 64 := (Nat.log2_lt h2).mpr h1
  omega
theorem seqIx_pos {n : Nat} {z : Int} (h0 : 0 ≤ z) (h1 : z < n) : seqIndex? z n = some z.toNat := (ixN_seq (ixN_pos h0 h1)).1
theorem erase_perm {α : Type} : ∀ {l : List α} {i : Nat} (h : i < l.length), (l[i] :: l.eraseIdx i).Perm l
  | x :: l, 0, _ => .refl _
  | x :: l, i + 1, h => by
    have h' : i < l.length := by simpa using h
    have e : (x :: l)[i + 1] = l[i] := rfl
    rw [e, List.eraseIdx_cons_succ]
    exact (List.Perm.swap x l[i] _).trans ((erase_perm h').cons x)
theorem mix_perm {fs rs ps : List D} {i : Nat} (h : (fs ++ rs).Perm ps) (hi : i < rs.length) : ((fs ++ [rs[i]]) ++ rs.eraseIdx i).Perm ps := by
  rw [List.append_assoc]
  exact ((erase_perm hi).append_left fs).trans h
/-- what mixed does -/
def spMixed : SpD := fun ds M k => ∃ u n pool ps, ds = [.cell u, pool] ∧ (pool = .lst ps ∨ ∃ z, pool = .str z ∧ ps = signs z) ∧ ps.length ≤ 100 ∧ Urn M u (n + ps.length) ∧ ∀ (ys : List D) M', ys.Perm ps → Keep u M M' → Urn M' u n → k (.lst ys) M'
end DL
end
section
set_option Elab.async false
set_option linter.all false
set_option maxRecDepth 100000
/-! DL: dicts: comprehensions, keys -/
namespace DL
open PySem L2
theorem semSs_lock {X : Cx} {sts : List Stmt} {Q : Ends} {σ : L2.St} {H : Hp} {d : Addr} {u : HO} (h : H d = some u) (mu : Mut (some u)) (hh : ∀ od, SemSs X sts Q σ (upd H d (.frz od u))) : SemSs X sts Q σ H := fun pins s I => by
  obtain ⟨od, I1⟩ := I.lock h mu
  exact hh od pins s I1
theorem sem_lockP {X : Cx} {e : Expr} {σ : L2.St} {H : Hp} {Q : VK} (h : Sem X e σ H fun v H' => Q v H' ∨ ∃ d u, H' d = some u ∧ Mut (some u) ∧ ∀ od, Q v (upd H' d (.frz od u))) : Sem X e σ H Q := fun pins s I =>
  thn (h pins s I) fun v s1 ⟨x, H1, I1, r, q⟩ => by
    rcases q with q | ⟨d, u, hd, mu, q⟩
    · exact ⟨x, H1, I1, r, q⟩
    · obtain ⟨od, I2⟩ := I1.lock hd mu
      exact ⟨x, _, I2, r, q od⟩
def dputD (ks : List Key) (ds : List D) (k : Key) (r : D) : List Key × List D :=
  if (ks.any fun c => decide (c = k)) = true then (ks, (ks.zip ds).map fun p => if p.1 = k then r else p.2) else (ks ++ [k], ds ++ [r])
section
variable {K : PySem.W.Frag} {F : Hp}
theorem zip_any {α : Type} (k : Key) : ∀ {ks : List Key} {vs : List α}, ks.length = vs.length → ((ks.zip vs).any fun kv => decide (kv.1 = k)) = ks.any fun c => decide (c = k)
  | [], [], _ => rfl
  | _ :: ks, _ :: vs, l => by
    have ih := zip_any k (ks := ks) (vs := vs) (by simpa using l)
    rw [List.zip_cons_cons, List.any_cons, List.any_cons, ih]
  | [], _ :: _, l => by simp at l
  | _ :: _, [], l => by simp at l
theorem zip_put (k : Key) (v : V) : ∀ {ks : List Key} {vs : List V}, ks.length = vs.length → (ks.zip vs).map (fun kv => if kv.1 = k then (kv.1, v) else kv) = ks.zip ((ks.zip vs).map fun p => if p.1 = k then v else p.2)
  | [], [], _ => rfl
  | c :: ks, u :: vs, l => by
    have ih := zip_put k v (ks := ks) (vs := vs) (by simpa using l)
    rw [List.zip_cons_cons, List.map_cons, List.map_cons, List.zip_cons_cons, ih]
    congr 1
    by_cases h : c = k
    · simp [h]
    · simp [h]
  | [], _ :: _, l => by simp at l
  | _ :: _, [], l => by simp at l
theorem isL_put (k : Key) {r : D} {v : V} (i : Is K F r v) : ∀ {ks : List Key} {ds : List D} {vs : List V}, ks.length = ds.length → IsL K F ds vs → IsL K F ((ks.zip ds).map fun p => if p.1 = k then r else p.2) ((ks.zip vs).map fun p => if p.1 = k then v else p.2)
  | [], [], _, _, il => by rw [isL_nil.1 il]; exact IsL.nil
  | c :: ks, d :: ds, _, l, il => by
    obtain ⟨u, us, rfl, h1, h2⟩ := isL_cons.1 il
    have ih := isL_put k i (ks := ks) (ds := ds) (vs := us) (by simpa using l) h2
    rw [List.zip_cons_cons, List.map_cons, List.zip_cons_cons, List.map_cons]
    refine IsL.cons ?_ ih
    by_cases h : c = k
    · simp only [h, if_true]; exact i
    · simp only [h, if_false]; exact h1
  | [], _ :: _, _, l, _ => by simp at l
  | _ :: _, [], _, l, _ => by simp at l
theorem put_is {ks : List Key} {ds : List D} {vs : List V} {k : Key} {r : D} {v : V} (l : ks.length = ds.length) (il : IsL K F ds vs) (i : Is K F r v) :
    ∃ vs', putK (ks.zip vs) k v = (dputD ks ds k r).1.zip vs' ∧ (dputD ks ds k r).1.length = (dputD ks ds k r).2.length ∧ IsL K F (dputD ks ds k r).2 vs' := by
  have lv : ks.length = vs.length := by rw [l, il.length]
  unfold putK dputD
  rw [zip_any k lv]
  split
  · refine ⟨_, zip_put k v lv, ?_, isL_put k i l il⟩
    show ks.length = _
    rw [List.length_map, List.length_zip]; omega
  · refine ⟨vs ++ [v], ?_, by simp [l], il.app (IsL.cons i IsL.nil)⟩
    rw [List.zip_append lv]; rfl
theorem dputD_len {ks : List Key} {ds : List D} {k : Key} {r : D} (l : ks.length = ds.length) : (dputD ks ds k r).2.length ≤ ds.length + 1 := by
  unfold dputD
  split
  · show (List.map _ _).length ≤ _
    rw [List.length_map, List.length_zip]; omega
  · simp
end
section
variable {X : Cx} {Δ : DS} {M : Store} {tg e : Expr} {k : DK} {pos : Pos}
/-- what a dict comprehension asks, of the items -/
def DcQ (X : Cx) (scope : Scope) (kx vx tg : Expr) (ifs : List Expr) (vs : List Nat) (Δ : DS) (k : DK) : AK := fun ds M1 => ∃ I : Nat → List Key → List D → Store → Prop, I 0 [] [] M1 ∧
    (∀ i d ck cd M', ds[i]? = some d → I i ck cd M' → ck.length < sizeLine ∧ ∃ Δ1 sl, (∀ j ∈ sl, j ∈ vs) ∧ (∀ s H C cl fp, GdD (Blk X scope s H C cl fp) tg d (wipeD Δ vs) Δ1 sl) ∧
      ∃ kb : BK, (∀ s H C cl fp, TsD (Blk X scope s H C cl fp) ifs Δ1 M' kb) ∧
        ∀ c M2, kb c M2 → if c = true then ∃ ke : DK, (∀ s H C cl fp, EvD (Blk X scope s H C cl fp) kx Δ1 M2 ke) ∧ ∀ r M3, ke r M3 → ∃ q, keyOf r = some q ∧ ∃ kf : DK, (∀ s H C cl fp, EvD (Blk X scope s H C cl fp) vx Δ1 M3 kf) ∧ ∀ r2 M4, kf r2 M4 → I (i + 1) (dputD ck cd q r2).1 (dputD ck cd q r2).2 M4 else I (i + 1) ck cd M2) ∧
    (∀ ck cd M', I ds.length ck cd M' → k (.dct ck cd) M')
theorem ev_dc {scope : Scope} {own : List (Str × Nat)} {kx vx iter : Expr} {ifs : List Expr} (hc : X.calm = true) (hN : X.N.Nodup) (ok : BlkOk X.N X.env.scope scope own) (hl : ifs.length ≤ 1) (h : ItD X tg iter Δ M (DcQ X scope kx vx tg ifs (own.map (·.2)) Δ k))
    (hs : ∀ x, foldedSetIterable iter X.env x = pure x := by intro _; rfl) : EvD X (.DictComp kx vx [⟨tg, iter, ifs, 0⟩] scope pos) Δ M k := fun F H σ Q hS okk post => by
  generalize hvs : own.map (·.2) = vs at h
  refine sem_lockP (sem_of (pe_dc hc hN pi_sem ok (fun s H C cl fp => pgB s H C cl fp) (fun s H C cl fp => ptsB s H C cl fp hl) (fun s H C cl fp => peB s H C cl fp) (fun s H C cl fp => peB s H C cl fp) hs) ?_)
  rw [hvs]
  refine h F H σ _ hS okk fun ds M1 F1 H1 J ⟨I, h0, hstep, hend⟩ st ok1 rep => ?_
  intro q hq
  have hq0 : H q = none := by
    cases z : H q with
    | none => rfl
    | some u => exact absurd hq (st.there q (by rw [z]; simp))
  refine ⟨fun i m H' => ∃ M' F' ck cd us, m = ds.length - i ∧ i ≤ ds.length ∧ Stp F1 M1 H1 F' M' H' ∧ Ok X.K F' M' H' ∧ F' q = none ∧ M' q = none ∧ H' q = some (.dK (ck.zip us)) ∧ ck.length = cd.length ∧ IsL X.K F' cd us ∧ I i ck cd M',
    ⟨ds.length, M1, F1, [], [], [], rfl, Nat.zero_le _, ?_, ?_, (ok1.fresh hq).1, (ok1.fresh hq).2, upd_same, rfl, IsL.nil, h0⟩, ?_⟩
  · refine ⟨Same.refl _, fun a u e => .inl e, fun a u e _ => ?_, fun a m _ => m, fun a n => ?_⟩
    · rw [upd_ne (ne_of_none e hq)]; exact e
    · by_cases z : a = q
      · subst z; exact absurd hq n
      · rw [upd_ne z]; exact n
  · refine ⟨fun a u e => ?_, fun a m e => ?_⟩
    · have z : a ≠ q := fun z => by rw [z, (ok1.fresh hq).1] at e; cases e
      rw [upd_ne z]; exact ok1.sub a u e
    · have z : a ≠ q := fun z => by rw [z, (ok1.fresh hq).2] at e; cases e
      obtain ⟨g1, u, g2, g3⟩ := ok1.mem a m e
      exact ⟨g1, u, by rw [upd_ne z]; exact g2, g3⟩
  · rintro i m H' ⟨M', F', ck, cd, us, rfl, hi, st', ok', fF, fM, hL, lk, il, hI⟩
    by_cases hlt : i < ds.length
    · refine .inr ⟨rep.go i F' M' H' st' ok' hlt, fun H2 => ∃ M2 F2 ck cd us, Stp F1 M1 H1 F2 M2 H2 ∧ Ok X.K F2 M2 H2 ∧ F2 q = none ∧ M2 q = none ∧ H2 q = some (.dK (ck.zip us)) ∧ ck.length = cd.length ∧ IsL X.K F2 cd us ∧ I (i + 1) ck cd M2,
        fun H2 ⟨M2, F2, ck, cd, us, a1, a2, a3, a4, a5, a6, a7, a8⟩ => ⟨ds.length - (i + 1), by omega, M2, F2, ck, cd, us, rfl, hlt, a1, a2, a3, a4, a5, a6, a7, a8⟩, fun v H2 y => ?_⟩
      obtain ⟨F2, d, hd, st2, ok2, iv⟩ := rep.yld i F' M' H' v H2 st' ok' hlt y
      obtain ⟨hlen, Δ1, sl, hsl, hg, kb, ht, hb⟩ := hstep i d ck cd M' hd hI
      have hS2 : IsS X.K F2 (wipeD Δ vs) (wipe σ vs) := (hS.mono ((st.trans st').trans st2).ext).wipe vs
      have stay : ∀ {F3 M3 H3}, Stp F' M' H' F3 M3 H3 → F3 q = none ∧ M3 q = none ∧ H3 q = some (.dK (ck.zip us)) := fun {F3 M3 H3} s3 => by
        refine ⟨?_, s3.dom q fM (by rw [hL]; simp), s3.keep q _ hL fM⟩
        cases z : F3 q with
        | none => rfl
        | some u =>
          rcases s3.new q u z with w | w | w
          · rw [fF] at w; cases w
          · rw [hL] at w; cases w
          · exact absurd fM w
      intro s0 H0 C cl fp
      refine hg s0 H0 C cl fp F2 M' H2 _ v _ hS2 ok2 iv fun σ2 hSσ hw => ⟨?_, ?_⟩
      · rw [hw vs hsl]
        have ww : ∀ l : List Nat, (∀ j ∈ l, j ∈ vs) → wipe (wipe σ l) vs = wipe σ vs := fun l => by
          induction l with
          | nil => intro _; rfl
          | cons j l ih =>
            intro hl
            show wipe ((wipe σ l).set j none) vs = _
            rw [wipe_set (hl j (by simp)), ih fun j hj => hl j (List.mem_cons_of_mem _ hj)]
        exact ww vs fun j hj => hj
      · have after : ∀ c M3 F3 H3, kb c M3 → Stp F2 M' H2 F3 M3 H3 → Ok X.K F3 M3 H3 → (if c = true then tBlkE X scope kx σ2 H3 fun y H4 => tBlkE X scope vx σ2 H4 fun z H5 => ∃ kvs k, y = kV k ∧ H5 q = some (.dK kvs) ∧ kvs.length < sizeLine ∧ (∃ M2 F2 ck cd us, Stp F1 M1 H1 F2 M2 (upd H5 q (.dK (putK kvs k z))) ∧ Ok X.K F2 M2 (upd H5 q (.dK (putK kvs k z))) ∧ F2 q = none ∧ M2 q = none ∧ (upd H5 q (.dK (putK kvs k z))) q = some (.dK (ck.zip us)) ∧ ck.length = cd.length ∧ IsL X.K F2 cd us ∧ I (i + 1) ck cd M2)
            else ∃ M2 F2 ck cd us, Stp F1 M1 H1 F2 M2 H3 ∧ Ok X.K F2 M2 H3 ∧ F2 q = none ∧ M2 q = none ∧ H3 q = some (.dK (ck.zip us)) ∧ ck.length = cd.length ∧ IsL X.K F2 cd us ∧ I (i + 1) ck cd M2) := fun c M3 F3 H3 kc s3 ok3 => by
          have hbc := hb c M3 kc
          have s23 := st2.trans s3
          cases c with
          | true =>
            rw [if_pos rfl] at hbc ⊢
            obtain ⟨ke, hev, hke⟩ := hbc
            intro s1 H9 C9 cl9 fp9
            refine hev s1 H9 C9 cl9 fp9 F3 H3 σ2 _ (hSσ.mono s3.ext) ok3 fun r M4 F4 H4 u kr s4 ok4 ir => ?_
            obtain ⟨c, hkey, kf, hev2, hkf⟩ := hke r M4 kr
            intro s1 H9 C9 cl9 fp9
            refine hev2 s1 H9 C9 cl9 fp9 F4 H4 σ2 _ ((hSσ.mono s3.ext).mono s4.ext) ok4 fun r2 M5 F5 H5 u2 kr2 s5 ok5 ir2 => ?_
            have s25 := (s23.trans s4).trans s5
            obtain ⟨b1, b2, b3⟩ := stay s25
            have l1 := (il.mono s25.ext)
            obtain ⟨us', e1, e2, e3⟩ := put_is (k := c) lk l1 ir2
            refine ⟨_, c, key_is hkey ir, b3, ?_, M5, F5, (dputD ck cd c r2).1, (dputD ck cd c r2).2, us', ?_, ?_, b1, b2, ?_, e2, e3, hkf r2 M5 kr2⟩
            · rw [List.length_zip, ← il.length, lk]
              rw [lk] at hlen
              omega
            · have s14 := st'.trans s25
              refine ⟨s14.ext, s14.new, fun a w e m => ?_, s14.dom, fun a n => ?_⟩
              · rw [upd_ne (ne_of_none e hq)]; exact s14.keep a w e m
              · by_cases z : a = q
                · subst z; exact absurd hq n
                · rw [upd_ne z]; exact s14.there a n
            · refine ⟨fun a w e => ?_, fun a m e => ?_⟩
              · have z : a ≠ q := fun z => by rw [z, b1] at e; cases e
                rw [upd_ne z]; exact ok5.sub a w e
              · have z : a ≠ q := fun z => by rw [z, b2] at e; cases e
                obtain ⟨g1, w, g2, g3⟩ := ok5.mem a m e
                exact ⟨g1, w, by rw [upd_ne z]; exact g2, g3⟩
            · rw [upd_same, e1]
          | false =>
            rw [if_neg Bool.false_ne_true] at hbc ⊢
            obtain ⟨b1, b2, b3⟩ := stay s23
            exact ⟨M3, F3, ck, cd, us, st'.trans s23, ok3, b1, b2, b3, lk, il.mono s23.ext, hbc⟩
        match ifs, ht with
        | [], ht => exact after true M' F2 H2 (ht s0 H0 C cl fp) Stp.refl ok2
        | [c], ht =>
          intro s1 H9 C9 cl9 fp9
          exact ht s1 H9 C9 cl9 fp9 F2 H2 σ2 _ hSσ ok2 fun c M3 F3 H3 kc s3 ok3 => after c M3 F3 H3 kc s3 ok3
        | c :: c2 :: r, ht => exact (ht s0 H0 C cl fp).elim
    · have e : i = ds.length := by omega
      subst e
      refine .inl ⟨rep.stop F' M' H' st' ok', .inr ⟨q, _, hL, trivial, fun od => ?_⟩⟩
      have s1 := st.trans st'
      refine post _ M' (upd F' q (.frz od (.dK (ck.zip us)))) _ _ (hend ck cd M' hI) ?_ ?_ (is_dct.2 ⟨q, us, od, rfl, upd_same, lk, il.mono (same_new fF)⟩)
      · refine ⟨s1.ext.trans (same_new fF), fun a w e => ?_, fun a w e n => ?_, s1.dom, fun a n => ?_⟩
        · by_cases z : a = q
          · subst z; exact .inr (.inl hq0)
          · rw [upd_ne z] at e; exact s1.new a w e
        · rw [upd_ne (ne_of_none e hq0)]; exact s1.keep a w e n
        · by_cases z : a = q
          · rw [z, upd_same]; simp
          · rw [upd_ne z]; exact s1.there a n
      · refine ⟨fun a w e => ?_, fun a m e => ?_⟩
        · by_cases z : a = q
          · subst z; rw [upd_same] at e ⊢; exact .inl e
          · rw [upd_ne z] at e ⊢; exact ok'.sub a w e
        · have z : a ≠ q := fun z => by rw [z, fM] at e; cases e
          obtain ⟨g1, w, g2, g3⟩ := ok'.mem a m e
          exact ⟨by rw [upd_ne z]; exact g1, w, by rw [upd_ne z]; exact g2, g3.mono (same_new fF)⟩
/-- the keys of a dict -/
def keyD : Key → D
  | .inl i => .int i
  | .inr x => .str x
theorem rep_keys {K : PySem.W.Frag} {F H : Hp} {q : Addr} {od : Obj} {ks : List Key} {vs : List V} (hq : F q = some (.frz od (.dK (ks.zip vs)))) (l : ks.length = vs.length) : ItRep K (Itk q od (ks.zip vs)) (ks.map keyD) F M H where
  go := fun i F' M' H' st ok hi => ⟨ok.frz (st.ext _ _ hq), by rw [List.length_map] at hi; rw [List.length_zip]; omega⟩
  yld := fun i F' M' H' v H2 st ok hi y => by
    rw [List.length_map] at hi
    obtain ⟨e, c, u, hc, rfl⟩ := y
    subst e
    have e1 : (ks.zip vs)[i]? = some (c, u) := hc
    have e2 : ks[i]? = some c := (List.getElem?_zip_eq_some.mp e1).1
    refine ⟨F', keyD c, by rw [List.getElem?_map, e2]; rfl, Stp.refl, ok, ?_⟩
    cases c with
    | inl j => exact is_int.2 rfl
    | inr j => exact is_str.2 rfl
  stop := fun F' M' H' st ok => ⟨ok.frz (st.ext _ _ hq), by rw [List.length_map, List.length_zip]; omega⟩
theorem it_keys {ka : AK} (h : EvD X e Δ M fun d M1 => ∃ ks ds, d = .dct ks ds ∧ ka (ks.map keyD) M1) : ItD X tg e Δ M ka := fun F H σ R hS ok post =>
  semI_of (pi_keys pe_sem) (h F H σ _ hS ok fun d M1 F1 H1 v ⟨ks, ds, ed, hk⟩ st ok1 i => by
    subst ed
    obtain ⟨q, vs, od, e, hq, hl, il⟩ := is_dct.1 i
    subst e
    exact ⟨q, od, rfl, .inl ⟨_, ok1.frz hq, post _ M1 F1 H1 _ hk st ok1 (rep_keys hq (by rw [hl, il.length]))⟩⟩)
end
end DL
end
section
set_option Elab.async false
set_option linter.all false
set_option maxRecDepth 100000
/-! DL: enumerate over a tuple; count of a tuple -/
namespace DL
open PySem PySem.Spec PyProof.Rows L2
set_option maxHeartbeats 1000000 in
theorem meets_enumB1 {v : Value} {o : Obj} {HH : Heap → Prop} (B : Begins v o HH) :
    Meets (Builtin.«enumerate.__new__» ⟨[.type "enumerate", v], []⟩) (fun _ R s => HH s.heap ∧
      R (.ok (.ret (.ref (s.heap.push o).objs.size))) { s with heap := (s.heap.push o).push { cls := .type "enumerate", data := .fields #[.none, .bool false, .ref s.heap.objs.size, rawInt 0, .none, .none] } }) :=
  .of_wp fun prog w A R s hh => by
    obtain ⟨hp, g, d, tk, os⟩ := s; obtain ⟨hb, hh⟩ := hh
    have esub := sub_enumerate
    have qi : ∀ {A' : Around} {E : Value → Shared → Prop} {Q : Value → Shared → Prop}, Q (.ref hp.objs.size) ⟨hp.push o, g, d, tk, os⟩ → wpAny (model prog w) A' (pyIter v) Q E ⟨hp, g, d, tk, os⟩ :=
      fun q => B.iter prog w _ _ ⟨hp, g, d, tk, os⟩ _ hb q
    wp_walk using qi
    refine wpAny_stack_any fun sta => wpAny_pure ?_
    split
    · rename_i cc _ _ _ _ _
      cases (cc == Value.type "enumerate")
      · wp_walk using qi
        exact ⟨_, rfl, hh⟩
      · wp_walk using qi
        exact ⟨_, rfl, hh⟩
    · wp_walk using qi
      exact ⟨_, rfl, hh⟩
section
variable {prog : Program} {w : World} {A : Around} {E : Value → Shared → Prop} {s : Shared}
theorem call_enumB1 {v : Value} {o : Obj} {HH : Heap → Prop} {Q : Value → Shared → Prop} (B : Begins v o HH) (hb : HH s.heap)
    (hq : ∀ h', IsEnum h' (s.heap.objs.size + 1) s.heap.objs.size 0 .none → h'.get? s.heap.objs.size = some o → h'.objs.size = s.heap.objs.size + 2 →
      (∀ b c, s.heap.get? b = some c → h'.get? b = some c) → Q (.ref (s.heap.objs.size + 1)) { s with heap := h' }) :
    wpAny (model prog w) A (call (.type "enumerate") [v]) Q E s := by
  refine callType_new F.called_enumerate (by decide) (F.typeCall_enumerate_1 _) (F.newCall_enumerate_1 _) (fun obj => F.args_object_init_2 obj _) F.entry_enumerate_new (meets_enumB1 B) ⟨hb, ?_⟩
  have zz : (s.heap.push o).objs.size = s.heap.objs.size + 1 := Heap.size_push ..
  show _ ∧ _
  rw [zz]
  have ee : IsEnum ((s.heap.push o).push { cls := .type "enumerate", data := .fields #[.none, .bool false, .ref s.heap.objs.size, rawInt 0, .none, .none] }) (s.heap.objs.size + 1) s.heap.objs.size 0 .none := by
    have th := Heap.get?_push_size (s.heap.push o) (o := { cls := .type "enumerate", data := .fields #[.none, .bool false, .ref s.heap.objs.size, rawInt 0, .none, .none] }) rfl
    rw [zz] at th; exact th
  exact ⟨⟨_, ee, rfl⟩, hq _ ee (Heap.get?_push_of_some _ (Heap.get?_push_size _ B.free)) (by rw [Heap.size_push, zz]) fun b c x => Heap.get?_push_of_some _ (Heap.get?_push_of_some _ x)⟩
end
/-- the tuple at a, its items with their numbers in new pairs -/
def IteT (K : PySem.W.Frag) (a : Addr) : It :=
  ⟨fun i H => ∃ (xs : List V) (x : V), SqT K H a xs ∧ xs[i]? = some x,
    fun i H v H' => ∃ T x, v = .ref T ∧ H T = none ∧ H' = upd H T (.tup [.int (i : Nat), x]) ∧ ∀ xs, SqT K H a xs → xs[i]? = some x,
    fun i H => ∃ xs : List V, SqT K H a xs ∧ xs.length = i⟩
theorem turn_enumT {P : Program} {w : World} {K : PySem.W.Frag} {elts : List Expr} {kk : Nat} {tpos : Pos} (a e it : Addr) :
    Turn P w K (.Tuple elts kk tpos) (IteT K a) [e, it] e (fun i h => (∃ old, IsEnum h e it i old) ∧ h.IsTupleIter it a i ∧ e ≠ it ∧ a ≠ it ∧ a ≠ e) where
  mem := by simp
  obj := fun i h sta b hb => by
    obtain ⟨⟨old, en⟩, ⟨ob, eo, _, ed⟩, _⟩ := sta
    have zz : b = e ∨ b = it := by simpa using hb
    rcases zz with zz | zz
    · rw [zz]; exact ⟨_, en, fun v q => nomatch q⟩
    · rw [zz]; exact ⟨ob, eo, fun v q => by rw [ed] at q; cases q⟩
  keep := fun i h h' sta kp => by
    obtain ⟨⟨old, en⟩, hi, ne⟩ := sta
    exact ⟨⟨old, kp e (by simp) _ en⟩, hi.at fun ob q => kp it (by simp) ob q, ne⟩
  item := by
    intro X eP ew eK hc i pins s σ H E I hf sta hg
    subst eP ew eK
    obtain ⟨⟨old, en⟩, hit, ne, na, nb⟩ := sta
    obtain ⟨xs, x, sq, hx⟩ := hg
    obtain ⟨its, rv, pt, _⟩ := I.tuple sq
    obtain ⟨u, hu, ru⟩ := rv.get hx
    have lu : i < its.toArray.size := by
      obtain ⟨z, _⟩ := List.getElem?_eq_some_iff.mp hu
      simpa using z
    have el : e < s.heap.objs.size := Heap.lt_size en
    have il : it < s.heap.objs.size := by obtain ⟨_, q, _⟩ := hit; exact Heap.lt_size q
    refine wpAny_pyNext_enum_itemD (Draws.tuple (A := X.A.in1) (by exact I.ok.hd hc) it a na its.toArray) en ⟨hit, pt⟩ lu ne (by simp [ne, Ne.symm nb]) fun y h' tk hy ho st' hT hsz hk => ?_
    have ey : y = u := by
      have h1 : its.toArray[i]? = some u := by simpa using hu
      rw [h1] at hy; cases hy; rfl
    subst ey
    refine ⟨_, rfl, wpAny_letOwnedTupleGo_enum (s := { s with heap := h', toks := tk + 1 }) ho fun h'' en' sb => ?_⟩
    have hT2 : h''.get? s.heap.objs.size = some { cls := .type "tuple", data := .seq #[.int i tk, y] } := (sb.2 _ (Nat.ne_of_gt el)).trans hT
    have nw : ObjOk X.prog X.w (upd H s.heap.objs.size (.tup [.int (i : Nat), x])) h'' s.heap.objs.size (.tup [.int (i : Nat), x]) :=
      ⟨by show 2 ≤ sizeLine; decide, [.int i tk, y], .cons ⟨_, rfl⟩ (.cons ru .nil), ⟨_, hT2, rfl, _, rfl⟩⟩
    have I1 : Inv X pins σ (upd H s.heap.objs.size (.tup [.int (i : Nat), x])) { s with heap := h'', toks := tk + 1 } :=
      I.turnedNew (ch := [e, it]) (fun b c hb q => (sb.2 b (fun z => hb (by simp [z]))).trans (hk b c (fun z => hb (by simp [z])) (fun z => hb (by simp [z])) q)) hf (Nat.le_refl _) nw
    refine ⟨.ref s.heap.objs.size, _, I1, rfl, ⟨_, x, rfl, I.hok.fresh (Nat.le_refl _), rfl, fun ys hy => by rw [I.tuple_inj hy sq]; exact hx⟩, ⟨⟨y, ?_⟩, st'.1.at fun c q => (sb.2 it (Ne.symm ne)).trans q, ne, na, nb⟩, fun b hb => ?_⟩
    · have e1 : ((i + 1 : Nat) : Int) = (i : Int) + 1 := by omega
      rw [e1]; exact en'
    · have lt : b < s.heap.objs.size := by
        have zz : b = e ∨ b = it := by simpa using hb
        rcases zz with zz | zz
        · rw [zz]; exact el
        · rw [zz]; exact il
      rw [upd_ne (Nat.ne_of_lt lt)]
      exact (hf b hb).1
  done := by
    intro X eP ew eK hc i pins s σ H E I hf sta hg
    subst eP ew eK
    obtain ⟨⟨old, en⟩, hit, ne, na, nb⟩ := sta
    obtain ⟨xs, sq, hx⟩ := hg
    obtain ⟨its, rv, pt, _⟩ := I.tuple sq
    obtain ⟨f0, f1, f2, f3, f4, f5⟩ := hf it (by simp)
    have ln := rv.length
    have es : its.toArray.size = i := by simp; omega
    exact wpAny_pyNext_enum_endD (Draws.tuple (A := X.A.in1) (by exact I.ok.hd hc) it a na its.toArray) en (by rw [es]; exact ⟨hit, pt⟩) fun h' eb => ⟨rfl, I.turned (t' := s.toks) (fun b o hb q => eb b o hb q) f0 f1 f3 f4 f5⟩
  self := fun A i s Q E sta hh => let ⟨⟨_, en⟩, _⟩ := sta; wpAny_pyIter_enum en hh
def iEnumA (K : PySem.W.Frag) (ta : TA) : TI := fun σ H R => ta σ H fun vs H1 => ∃ a xs, vs = [.ref a] ∧ ((SqL K H1 a xs ∧ R (Ite K a) H1) ∨ (SqT K H1 a xs ∧ R (IteT K a) H1))
theorem pi_enumA {X : Cx} {e : Expr} {ta : TA} {p pos tpos : Pos} {elts : List Expr} {kk : Nat} (hg : Gl X "enumerate") (hm : X.mg "enumerate" = none) (ha : PA X [e] ta) (hs : starEach [e] X.env = [(false, eval e X.env)] := by rfl) :
    PI X (.Tuple elts kk tpos) (.Call (.Name "enumerate" p) [e] [] pos) (iEnumA X.K ta) := by
  refine ⟨fun pins s σ H R I hh => Call_ (ld_blt I hg hm boot_enumerate (PyProof.Rows.callWith_type1 (thn (ha.run pos pins s σ H _ I hh) fun us s1 ⟨vs, H1, I1, r1, q1⟩ => ?_) hs rfl))⟩
  obtain ⟨a, xs, ex, q1⟩ := q1
  subst ex
  cases r1 with
  | cons r rr =>
    cases rr
    cases r
    have fpk : ∀ b ∈ [s1.heap.objs.size + 1, s1.heap.objs.size], FpOk X pins H1 b := fun b hb => by
      have zz : b = s1.heap.objs.size + 1 ∨ b = s1.heap.objs.size := by simpa using hb
      have le : s1.heap.objs.size ≤ b := by omega
      exact I1.fpOk le (I1.hok.fresh le)
    rcases q1 with ⟨sq, q⟩ | ⟨sq, q⟩
    · obtain ⟨its, rv, p', _⟩ := I1.list sq
      refine call_enumerate_list p'.isList fun h' en hit hsz hk => wpAny_pyIter_enum en ?_
      exact ⟨s1.heap.objs.size + 1, [s1.heap.objs.size + 1, s1.heap.objs.size], _, _, H1, rfl, I1.kept (t' := s1.toks) hk, turn_enum a (s1.heap.objs.size + 1) s1.heap.objs.size, ⟨⟨.none, en⟩, hit, Nat.succ_ne_self _⟩, fpk, q⟩
    · obtain ⟨its, rv, p', _⟩ := I1.tuple sq
      have la : a < s1.heap.objs.size := by obtain ⟨_, z, _⟩ := p'; exact Heap.lt_size z
      refine call_enumB1 (begins_tuple a its.toArray) p' fun h' en hit hsz hk => wpAny_pyIter_enum en ?_
      exact ⟨s1.heap.objs.size + 1, [s1.heap.objs.size + 1, s1.heap.objs.size], _, _, H1, rfl, I1.kept (t' := s1.toks) hk, turn_enumT a (s1.heap.objs.size + 1) s1.heap.objs.size, ⟨⟨.none, en⟩, ⟨_, hit, rfl, rfl⟩, Nat.succ_ne_self _, Nat.ne_of_lt la, Nat.ne_of_lt (Nat.lt_succ_of_lt la)⟩, fpk, q⟩
section
variable {X : Cx} {Δ : DS} {M : Store} {e : Expr} {elts : List Expr} {kk : Nat} {tpos p pos : Pos} {ka : AK}
theorem rep_enumT {K : PySem.W.Frag} {F H : Hp} {q : Addr} {vs : List V} {ds : List D} (hq : SqU K F q vs) (il : IsL K F ds vs) : ItRep K (IteT K q) (enumD ds) F M H where
  go := fun i F' M' H' st ok hi => ⟨vs, vs[i]'(by rw [← il.length, ← enumD_len]; exact hi), ok.sqT (sqT_mono st.ext hq), List.getElem?_eq_getElem _⟩
  yld := fun i F' M' H' v H2 st ok hi y => by
    obtain ⟨T, u, rfl, hT, rfl, y⟩ := y
    obtain ⟨d, h1, h2⟩ := (il.mono st.ext).get' (y vs (ok.sqT (sqT_mono st.ext hq)))
    have n := pair_new ok (is_int.2 rfl : Is K F' (.int (i : Nat)) _) h2 hT
    exact ⟨_, _, enumD_get h1, n.1, n.2.1, n.2.2⟩
  stop := fun F' M' H' st ok => ⟨vs, ok.sqT (sqT_mono st.ext hq), by rw [enumD_len, il.length]⟩
def seqAny : D → Option (List D)
  | .lst ds => some ds | .frl ds => some ds | .tup ds => some ds
  | _ => none
theorem it_enumA (hg : Gl X "enumerate") (hm : X.mg "enumerate" = none) (h : EvD X e Δ M fun d M1 => ∃ ds, seqAny d = some ds ∧ ka (enumD ds) M1) (hs : starEach [e] X.env = [(false, eval e X.env)] := by rfl) : ItD X (.Tuple elts kk tpos) (.Call (.Name "enumerate" p) [e] [] pos) Δ M ka := fun F H σ R hS ok post =>
  semI_of (pi_enumA hg hm (pa_cons pe_sem pa_nil hs) hs) (h F H σ _ hS ok fun d M1 F1 H1 v ⟨ds, ed, hk⟩ st ok1 i => by
    unfold seqAny at ed
    split at ed
    · cases ed
      obtain ⟨q, vs, e, hq, il⟩ := is_lst.1 i
      subst e
      exact ⟨q, vs, rfl, .inl ⟨SqL.of (ok1.lst hq), post _ M1 F1 H1 _ hk st ok1 (rep_enum (SqL.of hq) il)⟩⟩
    · cases ed
      obtain ⟨q, vs, e, hq, il⟩ := is_frl.1 i
      subst e
      exact ⟨q, vs, rfl, .inl ⟨ok1.sqL hq, post _ M1 F1 H1 _ hk st ok1 (rep_enum hq il)⟩⟩
    · cases ed
      obtain ⟨q, vs, e, hq, il⟩ := is_tup.1 i
      subst e
      exact ⟨q, vs, rfl, .inr ⟨ok1.sqT hq, post _ M1 F1 H1 _ hk st ok1 (rep_enumT hq il)⟩⟩
    · cases ed)
end
end DL
end
section
set_option Elab.async false
set_option linter.all false
set_option maxRecDepth 100000
/-! DL: t[:-1].count(x) of texts -/
namespace DL
open PySem PySem.Spec PyProof.Rows L2
theorem countStrOf (k : Str) : ∀ {us : List Value} {zs : List Str}, StrsAre us zs → us.countP (PyProof.Rows.isStrOf k) = zs.count k
  | _, _, .nil => rfl
  | _, _, .cons n t h => by
    have ih := countStrOf k h
    rw [List.countP_cons, List.count_cons, ih]
    rfl
theorem strsDrop : ∀ {us : List Value} {zs : List Str}, StrsAre us zs → StrsAre us.dropLast zs.dropLast
  | _, _, .nil => .nil
  | _, _, .cons n t .nil => .nil
  | _, _, .cons n t (.cons n2 t2 h) => .cons n t (strsDrop (.cons n2 t2 h))
theorem cutDrop {α : Type} (l : List α) (h : l ≠ []) : (l.drop (HT.sIx l.length 0 none)).take (HT.sIx l.length l.length (some (-1)) - HT.sIx l.length 0 none) = l.dropLast ∧ HT.sIx l.length l.length (some (-1)) ≠ l.length := by
  have hl : 0 < l.length := List.length_pos_iff.mpr h
  have e1 : HT.sIx l.length 0 none = 0 := by simp [HT.sIx]
  have e2 : HT.sIx l.length l.length (some (-1)) = l.length - 1 := by
    simp [HT.sIx]
    omega
  rw [e1, e2, List.drop_zero, Nat.sub_zero, List.dropLast_eq_take]
  exact ⟨rfl, by omega⟩
def tCutCnt (K : PySem.W.Frag) (ta te : TE) : TE := fun σ H Q => ta σ H fun x H1 => ∃ q zs, x = .ref q ∧ SqT K H1 q (zs.map V.str) ∧ zs ≠ [] ∧ te σ H1 fun y H2 => ∃ z, [y] = [V.str z] ∧ Q (.int (zs.dropLast.count z : Nat)) H2
section
variable {X : Cx}
theorem pe_cutCnt {a e : Expr} {ta te : TE} {j : Nat} {p1 p2 p3 sp apos cpos : Pos} (hA : PE X a ta) (hE : PE X e te)
    (hfew : ((backTo cpos (starEach [e] X.env)).all (fun x => !x.1) && (backToKw cpos (keywordEach [] X.env)).all (fun x => x.1.isSome) && decide ([e].length + ([] : List Keyword).length + (if ([] : List Keyword).isEmpty then 0 else 1) < 30)) = true := by rfl)
    (hline : (apos.endLine == cpos.line) = true := by rfl) (hs : starEach [e] X.env = [(false, eval e X.env)] := by rfl)
    (hbase : attributeBase (.Subscript a (.Slice none (some (.UnaryOp .USub (.Constant (.int 1) j p1) p2)) none p3) sp) "count" X.env (eval (.Subscript a (.Slice none (some (.UnaryOp .USub (.Constant (.int 1) j p1) p2)) none p3) sp) X.env) = eval (.Subscript a (.Slice none (some (.UnaryOp .USub (.Constant (.int 1) j p1) p2)) none p3) sp) X.env := by rfl) :
    PE X (.Call (.Attribute (.Subscript a (.Slice none (some (.UnaryOp .USub (.Constant (.int 1) j p1) p2)) none p3) sp) "count" apos) [e] [] cpos) (tCutCnt X.K ta te) := by
  refine ⟨fun pins s σ H Q I hh => ?_⟩
  refine wpAny_Call_method_late hbase hfew hline rfl (Subscript_ (thn (hA.run pins s σ H _ I hh) fun v s1 ⟨x, H1, I1, r1, qq, zs, ex, sq, hz, hte⟩ => ?_))
  subst ex
  cases r1
  have hst : PO X (some (.UnaryOp .USub (.Constant (.int 1) j p1) p2)) (tPart (tUn (rU fun i => .int (-i)) (tC (.int 1)))) := po_some (pe_un un_neg pe_int)
  refine wpAny_Slice (thn (po_none.run pins s1 σ H1 (fun o H2 => o = none ∧ H2 = H1) I1 ⟨rfl, rfl⟩) fun vl s2 ⟨lo, H2, I2, pl, el, e2⟩ => ?_)
  subst el e2
  refine thn (hst.run pins s2 σ H2 (fun o H4 => o = some (-1) ∧ H4 = H2) I2 ⟨1, rfl, -1, rfl, rfl, rfl⟩) fun vu s3 ⟨o, H4, I4, ps, eo, e4⟩ => ?_
  subst eo e4
  rw [evalPart_none]
  refine wpAny_pure ?_
  have I5 : Inv X pins σ H4 { s3 with heap := s3.heap.push { cls := .type "slice", data := .fields #[vl, vu, .none] } } := I4.kept (t' := s3.toks) fun b ob q => Heap.get?_push_of_some _ q
  generalize hs5 : ({ s3 with heap := s3.heap.push { cls := .type "slice", data := .fields #[vl, vu, .none] } } : Shared) = s5 at I5
  have hsl : s5.heap.IsSliceOf s3.heap.objs.size vl vu .none := by subst hs5; exact Heap.IsSliceOf.new ..
  obtain ⟨its, rv, ht, hlz⟩ := I5.tuple sq
  have ss := rv.strs
  have hlen : its.length = zs.length := by have := rv.length; rw [List.length_map] at this; exact this.symm
  have hne : its ≠ [] := fun z => hz (List.length_eq_zero_iff.mp (by rw [← hlen, z]; rfl))
  obtain ⟨cut, ncut⟩ := cutDrop its hne
  show wpAny (model X.prog X.w) X.A (subscriptTail a (.Slice none (some (.UnaryOp .USub (.Constant (.int 1) j p1) p2)) none p3) (.ref qq) (.ref s3.heap.objs.size)) _ X.xe s5
  refine tail_any (ops := [.ref s3.heap.objs.size, .ref qq]) ht.typeIs (PyProof.Rows.slot_tuple_getitem.lookup) ?_ (by with_unfolding_all rfl)
  refine HT.getItem_tuple_cut ht hsl pl ps (fun z => ncut (by have := z.2; rw [List.size_toArray] at this; exact this)) ?_ (by rw [List.size_toArray, hlen]; rw [List.length_map] at hlz; exact hlz)
  have cut2 : List.take (HT.sIx its.toArray.size its.toArray.size (some (-1)) - HT.sIx its.toArray.size 0 none) (List.drop (HT.sIx its.toArray.size 0 none) its.toArray.toList) = its.dropLast := cut
  rw [cut2]
  -- the fresh tuple, pinned while x is found
  have fp5 : ∀ b ∈ [s5.heap.objs.size], FpOk X pins H4 b := fun b hb => by
    have e : b = s5.heap.objs.size := by simpa using hb
    subst e
    exact I5.fpOk (Nat.le_refl _) (I5.hok.fresh (Nat.le_refl _))
  have hT : (s5.heap.push { cls := .type "tuple", data := .seq its.dropLast.toArray }).get? s5.heap.objs.size = some { cls := .type "tuple", data := .seq its.dropLast.toArray } := Heap.get?_push_size _ rfl
  have I6 : Inv X pins σ H4 { s5 with heap := s5.heap.push { cls := .type "tuple", data := .seq its.dropLast.toArray } } := I5.kept (t' := s5.toks) fun b ob q => Heap.get?_push_of_some _ q
  have I7 := I6.pinned fp5 fun b hb => by
    have e : b = s5.heap.objs.size := by simpa using hb
    subst e
    exact ⟨_, hT, fun v q => nomatch q⟩
  refine ⟨"tuple", "tuple.count", F.plainAttrs_tuple, F.slot_tuple_count, F.type_tuple_count, ⟨_, hT, rfl⟩, fun b eb => by cases eb; exact ⟨_, hT, rfl⟩, ?_⟩
  have pa : PA X [e] _ := pa_cons hE pa_nil hs
  have hAr := pa.run cpos _ _ σ H4 (fun vs H2 => ∃ z, vs = [.str z] ∧ Q (.int (zs.dropLast.count z : Nat)) H2) I7 hte
  rw [hs] at hAr ⊢
  refine Calls.callWith_builtin rfl (Calls.evalArgs_plain ?_)
  refine thn hAr fun us s8 ⟨vs, H8, I8, r8, z, ev, q8⟩ => ?_
  subst ev
  obtain ⟨u, rfl, ru⟩ := r8.one
  obtain ⟨t, rfl⟩ := ru
  have hT8 : s8.heap.get? s5.heap.objs.size = some { cls := .type "tuple", data := .seq its.dropLast.toArray } := (I8.pin (_, _) (List.mem_append_right _ (List.mem_append_right _ (mem_pinsAt (List.mem_singleton.mpr rfl) hT)))).1
  have sd := strsDrop ss
  refine call_meets F.slot_tuple_count ⟨_, hT8, rfl⟩ F.entry_tuple_count (F.args_tuple_count_2 _ _) (SeqAt.tuple_countAt _ _ _ _ _ (.str z t) (PyProof.Rows.isStrOf z)) ⟨hT8, fun y hy => (PyProof.Rows.eq_isStrOf z t sd y (by simpa using hy)).at _ _, ?_⟩
  refine ⟨.int (zs.dropLast.count z : Nat), H8, (I8.unpinned (pins := pins)).tok _, ⟨s8.toks, ?_⟩, q8⟩
  rw [List.toList_toArray, countStrOf z sd]
variable {Δ : DS} {M : Store} {k : DK}
def strL1 : List D → Option (List Str)
  | [] => some []
  | .str x :: ds => (strL1 ds).map fun xs => x :: xs
  | _ :: _ => none
theorem strL1_is {K : PySem.W.Frag} {F : Hp} : ∀ {ds : List D} {zs : List Str} {vs : List V}, strL1 ds = some zs → IsL K F ds vs → vs = zs.map V.str
  | [], zs, vs, e, i => by cases e; exact isL_nil.1 i
  | .str x :: ds, zs, vs, e, i => by
    obtain ⟨ys, h1, h2⟩ := Option.map_eq_some_iff.mp e
    subst h2
    obtain ⟨v, r, rfl, h3, h4⟩ := isL_cons.1 i
    rw [is_str.1 h3, strL1_is h1 h4]
    rfl
def cntO : D → D → Option D
  | .tup ds, .str z => (strL1 ds).bind fun zs => if zs.isEmpty then none else some (.int (zs.dropLast.count z : Nat))
  | _, _ => none
theorem ev_cutCnt {a e : Expr} {j : Nat} {p1 p2 p3 sp apos cpos : Pos} (h1 : EvD X a Δ M fun d1 M1 => (∃ ds zs, d1 = .tup ds ∧ strL1 ds = some zs ∧ zs ≠ []) ∧ EvD X e Δ M1 fun d2 M2 => ∃ r, cntO d1 d2 = some r ∧ k r M2)
    (hfew : ((backTo cpos (starEach [e] X.env)).all (fun x => !x.1) && (backToKw cpos (keywordEach [] X.env)).all (fun x => x.1.isSome) && decide ([e].length + ([] : List Keyword).length + (if ([] : List Keyword).isEmpty then 0 else 1) < 30)) = true := by rfl)
    (hline : (apos.endLine == cpos.line) = true := by rfl) (hs : starEach [e] X.env = [(false, eval e X.env)] := by rfl)
    (hbase : attributeBase (.Subscript a (.Slice none (some (.UnaryOp .USub (.Constant (.int 1) j p1) p2)) none p3) sp) "count" X.env (eval (.Subscript a (.Slice none (some (.UnaryOp .USub (.Constant (.int 1) j p1) p2)) none p3) sp) X.env) = eval (.Subscript a (.Slice none (some (.UnaryOp .USub (.Constant (.int 1) j p1) p2)) none p3) sp) X.env := by rfl) :
    EvD X (.Call (.Attribute (.Subscript a (.Slice none (some (.UnaryOp .USub (.Constant (.int 1) j p1) p2)) none p3) sp) "count" apos) [e] [] cpos) Δ M k := fun F H σ Q hS ok post =>
  sem_of (pe_cutCnt pe_sem pe_sem hfew hline hs hbase) (h1 F H σ _ hS ok fun d1 M1 F1 H1 x ⟨⟨ds, zs, ed, ez, en⟩, h2⟩ st ok1 i => by
    subst ed
    obtain ⟨q, vs, e, hq, il⟩ := is_tup.1 i
    subst e
    have hv := strL1_is ez il
    subst hv
    refine ⟨q, zs, rfl, ok1.sqT hq, en, h2 F1 H1 σ _ (hS.mono st.ext) ok1 fun d2 M2 F2 H2 y ⟨r, hr, hk⟩ st2 ok2 i2 => ?_⟩
    unfold cntO at hr
    split at hr
    · rename_i ds2 z heq heq2
      cases heq
      rw [ez] at hr
      have hr2 : (if zs.isEmpty then none else some (D.int (zs.dropLast.count z : Nat))) = some r := hr
      rw [if_neg (by simpa using en)] at hr2
      cases hr2
      exact ⟨z, by rw [is_str.1 i2], post _ M2 F2 H2 _ hk (st.trans st2) ok2 (is_int.2 rfl)⟩
    · cases hr)
end
end DL
end
section
set_option Elab.async false
set_option linter.all false
set_option maxRecDepth 100000
/-! DL: x * n of a text -/
namespace DL
open PySem PySem.Spec PyProof.Rows L2
def strRep (z : Str) (n : Int) : Str := if n < 1 then Str.empty else if (n == 1 || z.length == 0) = true then z else ⟨(List.replicate n.toNat z.cps).foldl (· ++ ·) #[]⟩
theorem foldl_size (c : Array Nat) : ∀ (m : Nat) (a : Array Nat), ((List.replicate m c).foldl (· ++ ·) a).size = a.size + m * c.size
  | 0, a => by simp
  | m + 1, a => by
    rw [List.replicate_succ, List.foldl_cons, foldl_size c m, Array.size_append, Nat.succ_mul]
    omega
def rRepS : R2 := fun x y H Q => ∃ z k, x = .str z ∧ y = .int k ∧ k ≤ 1000 ∧ -1000 ≤ k ∧ z.length ≤ 1000 ∧ Q (.str (strRep z k)) H
section
variable {X : Cx}
theorem op_repS : OpR X (binaryOp .Mult) rRepS := by
  intro pins s σ H x y v u Q I rx ry h
  obtain ⟨z, k, rfl, rfl, h1, h0, h2, q⟩ := h
  obtain ⟨t, rfl⟩ := rx
  obtain ⟨t2, rfl⟩ := ry
  have hlim : z.length * k.toNat ≤ 1000 * 1000 := Nat.mul_le_mul h2 (by omega)
  have lz : z.length = z.cps.size := rfl
  refine PySem.P.mul_str ?_ ?_ ?_ ?_
  · have a1 : ¬ k < -(2 ^ 63) := by omega
    have a2 : ¬ k ≥ 2 ^ 63 := by omega
    rw [decide_eq_false a1, decide_eq_false a2]; rfl
  · intro a1 _ a2
    have : 1000 ≤ (2 ^ 63 - 1) / k := (Int.le_ediv_iff_mul_le (by omega)).mpr (by omega)
    omega
  · intro a1 _
    show decide _ = false
    rw [decide_eq_false_iff_not]
    have : sizeLine ≥ 1000000 := by rw [sizeLine_eq]; decide
    omega
  · unfold strRep at q
    by_cases c1 : k < 1
    · rw [if_pos c1] at q ⊢
      exact ⟨by decide, .str _, H, I.tok _, ⟨_, rfl⟩, q⟩
    · rw [if_neg c1] at q ⊢
      by_cases c2 : (k == 1 || z.length == 0) = true
      · rw [if_pos c2] at q ⊢
        exact ⟨.str _, H, I, ⟨_, rfl⟩, q⟩
      · rw [if_neg c2] at q ⊢
        refine ⟨?_, .str _, H, I.tok _, ⟨_, rfl⟩, q⟩
        show Array.size _ ≤ _
        rw [foldl_size, Array.size_empty, Nat.zero_add, Nat.mul_comm, ← lz]
        have : sizeLine ≥ 1000000 := by rw [sizeLine_eq]; decide
        omega
variable {a b : Expr} {Δ : DS} {M : Store} {k : DK} {pos : Pos}
def smulO : D → D → Option D
  | .str z, .int j => if z.length ≤ 1000 ∧ j ≤ 1000 ∧ -1000 ≤ j then some (.str (strRep z j)) else none
  | _, _ => none
theorem ev_smul (h : EvD X a Δ M fun d1 M1 => EvD X b Δ M1 fun d2 M2 => ∃ r, smulO d1 d2 = some r ∧ k r M2) : EvD X (.BinOp a .Mult b pos) Δ M k :=
  ev_op2 op_repS (h.mono fun _ _ q => q.mono fun d1 M1 ⟨r, h1, h2⟩ => fun F H x y Q ok i1 i2 post => by
    unfold smulO at h1
    split at h1
    · split at h1
      · rename_i c
        cases h1
        exact ⟨_, _, is_str.1 i1, is_int.1 i2, c.2.1, c.2.2, c.1, post.here ok h2 (is_str.2 rfl)⟩
      · cases h1
    · cases h1)
end
end DL
end
section
set_option Elab.async false
set_option linter.all false
set_option maxRecDepth 100000
/-! DP: programs of our own over data; draws are free -/
namespace DL
open PySem L2
inductive Pg (α : Type) where
  | ret (a : α) | fail | draw (low : Int) (f : Int → Pg α)
def Pg.bind {α β : Type} : Pg α → (α → Pg β) → Pg β
  | .ret a, f => f a
  | .fail, _ => .fail
  | .draw low g, f => .draw low fun d => (g d).bind f
def ofO {α : Type} : Option α → Pg α
  | some a => .ret a
  | none => .fail
/-- with n draws to go: it ends, and k of the end -/
def wpB {α : Type} (b : Bool) : Nat → Pg α → (α → Nat → Prop) → Prop
  | n, .ret a, k => k a n
  | _, .fail, _ => False
  | n, .draw low f, k => b = true ∧ 0 < low ∧ low < 2 ^ 64 ∧ ∃ m, n = m + 1 ∧ ∀ d, 0 ≤ d → d < low → wpB b m (f d) k
section
variable {α β : Type} {b : Bool}
theorem wpB.mono : ∀ {p : Pg α} {n : Nat} {k k' : α → Nat → Prop}, wpB b n p k → (∀ a m, k a m → k' a m) → wpB b n p k'
  | .ret a, n, k, k', h, hk => hk a n h
  | .fail, _, _, _, h, _ => h.elim
  | .draw low f, n, k, k', h, hk => by
    obtain ⟨h1, h2, h3, m, e, h4⟩ := h
    exact ⟨h1, h2, h3, m, e, fun d d0 d1 => wpB.mono (h4 d d0 d1) hk⟩
theorem wpB_bind : ∀ {p : Pg α} {f : α → Pg β} {n : Nat} {k : β → Nat → Prop}, wpB b n (p.bind f) k ↔ wpB b n p fun a m => wpB b m (f a) k
  | .ret a, f, n, k => Iff.rfl
  | .fail, f, n, k => Iff.rfl
  | .draw low g, f, n, k => by
    constructor
    · rintro ⟨h1, h2, h3, m, e, h4⟩
      exact ⟨h1, h2, h3, m, e, fun d d0 d1 => wpB_bind.1 (h4 d d0 d1)⟩
    · rintro ⟨h1, h2, h3, m, e, h4⟩
      exact ⟨h1, h2, h3, m, e, fun d d0 d1 => wpB_bind.2 (h4 d d0 d1)⟩
theorem wpB_ofO {o : Option α} {n : Nat} {k : α → Nat → Prop} (h : wpB b n (ofO o) k) : ∃ a, o = some a ∧ k a n := by
  cases o with
  | none => exact h.elim
  | some a => exact ⟨a, rfl, h⟩
end
/-! ### names of classes and of the urn -/
mutual
def rn (ρ : Nat → Addr) : D → D
  | .non => .non | .bl b => .bl b | .int i => .int i | .str x => .str x | .ty n => .ty n
  | .tup ds => .tup (rnL ρ ds) | .lst ds => .lst (rnL ρ ds) | .frl ds => .frl (rnL ρ ds)
  | .dct ks ds => .dct ks (rnL ρ ds) | .ins C fs ds => .ins (ρ C) fs (rnL ρ ds) | .cell a => .cell (ρ a)
def rnL (ρ : Nat → Addr) : List D → List D
  | [] => []
  | d :: ds => rn ρ d :: rnL ρ ds
end
section
variable {ρ : Nat → Addr}
theorem rnL_map : ∀ ds : List D, rnL ρ ds = ds.map (rn ρ)
  | [] => by unfold rnL; rfl
  | d :: ds => by unfold rnL; rw [rnL_map ds]; rfl
theorem rnL_len (ds : List D) : (rnL ρ ds).length = ds.length := by rw [rnL_map, List.length_map]
theorem rnL_app (ds es : List D) : rnL ρ (ds ++ es) = rnL ρ ds ++ rnL ρ es := by rw [rnL_map, rnL_map, rnL_map, List.map_append]
theorem rnL_get (ds : List D) (i : Nat) : (rnL ρ ds)[i]? = ds[i]?.map (rn ρ) := by rw [rnL_map, List.getElem?_map]
theorem rn_tup (ds : List D) : rn ρ (.tup ds) = .tup (rnL ρ ds) := by simp only [rn]
theorem rn_lst (ds : List D) : rn ρ (.lst ds) = .lst (rnL ρ ds) := by simp only [rn]
theorem rn_frl (ds : List D) : rn ρ (.frl ds) = .frl (rnL ρ ds) := by simp only [rn]
theorem rn_dct (ks : List Key) (ds : List D) : rn ρ (.dct ks ds) = .dct ks (rnL ρ ds) := by simp only [rn]
theorem rn_ins (C : Addr) (fs : List Str) (ds : List D) : rn ρ (.ins C fs ds) = .ins (ρ C) fs (rnL ρ ds) := by simp only [rn]
theorem rn_cell (a : Addr) : rn ρ (.cell a) = .cell (ρ a) := by simp only [rn]
theorem rn_int (i : Int) : rn ρ (.int i) = .int i := by simp only [rn]
theorem rn_bl (i : Bool) : rn ρ (.bl i) = .bl i := by simp only [rn]
theorem rn_str (i : Str) : rn ρ (.str i) = .str i := by simp only [rn]
theorem rn_non : rn ρ .non = .non := by simp only [rn]
theorem rn_ty (n : String) : rn ρ (.ty n) = .ty n := by simp only [rn]
end
def rnM (ρ : Nat → Addr) : MO → MO
  | .lst ds => .lst (rnL ρ ds) | .ins C fs ds => .ins (ρ C) fs (rnL ρ ds) | .dct ks ds => .dct ks (rnL ρ ds)
/-- 0: the urn; then the classes -/
def rho (γ : Nat → Addr) (u : Addr × Addr) : Nat → Addr
  | 0 => u.1
  | i + 1 => γ i
/-! ### slots -/
inductive Sl where
  | e | v (d : D) | o (m : MO) | w (d : D)
def UrnB (b : Bool) (M : Store) (u : Addr) (n : Nat) : Prop := b = true → Urn M u n
def KeepB (b : Bool) (u : Addr) (M M' : Store) : Prop := ∀ q m, (b = true → q ≠ u) → M q = some m → M' q = some m
theorem KeepB.refl {b : Bool} {u : Addr} {M : Store} : KeepB b u M M := fun _ _ _ h => h
theorem KeepB.trans {b : Bool} {u : Addr} {M M1 M2 : Store} (a : KeepB b u M M1) (c : KeepB b u M1 M2) : KeepB b u M M2 := fun q m n h => c q m n (a q m n h)
structure Aft (b : Bool) (u : Addr × Addr) (M M' : Store) (n : Nat) : Prop where
  keep : KeepB b u.1 M M'
  urn : UrnB b M' u.1 n
/-- a view: an owned list is read -/
def Vw (ρ : Nat → Addr) (b : Bool) (M : Store) (d dr : D) : Prop := dr = rn ρ d ∨ ∃ q ds, dr = .cell q ∧ d = .lst ds ∧ M q = some (.lst (rnL ρ ds)) ∧ (b = true → q ≠ ρ 0)
theorem Vw.keep {ρ : Nat → Addr} {b : Bool} {M M' : Store} {d dr : D} (h : Vw ρ b M d dr) (k : KeepB b (ρ 0) M M') : Vw ρ b M' d dr := by
  rcases h with h | ⟨q, ds, h1, h2, h3, h4⟩
  · exact .inl h
  · exact .inr ⟨q, ds, h1, h2, k q _ h4 h3, h4⟩
structure Rel (ρ : Nat → Addr) (an : Addr) (b : Bool) (M0 : Store) (Δ : List Sl) (Δr : DS) (M : Store) : Prop where
  len : Δ.length = Δr.length
  v : ∀ (i : Nat) (d : D), Δ[i]? = some (Sl.v d) → Δr[i]? = some (some (rn ρ d))
  o : ∀ (i : Nat) (m : MO), Δ[i]? = some (Sl.o m) → ∃ q, Δr[i]? = some (some (D.cell q)) ∧ M q = some (rnM ρ m) ∧ M0 q = none ∧ (b = true → q ≠ ρ 0) ∧ (∀ C fs ds, m = .ins C fs ds → q = an)
  inj : ∀ (i j : Nat) (m m' : MO) (q : Addr), i ≠ j → Δ[i]? = some (Sl.o m) → Δ[j]? = some (Sl.o m') → Δr[i]? = some (some (D.cell q)) → Δr[j]? ≠ some (some (D.cell q))
  w : ∀ (i : Nat) (d : D), Δ[i]? = some (Sl.w d) → ∃ dr, Δr[i]? = some (some dr) ∧ Vw ρ b M0 d dr
structure SI (γ : Nat → Addr) (b : Bool) (u : Addr × Addr) (M0 : Store) (Δ : List Sl) (Δr : DS) (M : Store) (n : Nat) : Prop where
  rel : Rel (rho γ u) u.2 b M0 Δ Δr M
  urn : UrnB b M u.1 n
  k0 : KeepB b u.1 M0 M
section
variable {γ : Nat → Addr} {b : Bool} {u : Addr × Addr} {M0 M M' M2 : Store} {Δ : List Sl} {Δr : DS} {n n' : Nat}
theorem Aft.refl (h : UrnB b M u.1 n) : Aft b u M M n := ⟨KeepB.refl, h⟩
theorem Aft.trans {n1 n2 : Nat} (a : Aft b u M M' n1) (c : Aft b u M' M2 n2) : Aft b u M M2 n2 := ⟨a.keep.trans c.keep, c.urn⟩
theorem Rel.keep {ρ : Nat → Addr} (r : Rel ρ an b M0 Δ Δr M) (k : KeepB b (ρ 0) M M') : Rel ρ an b M0 Δ Δr M' := ⟨r.len, r.v, fun i m h => by
  obtain ⟨q, h1, h2, h3, h4, h5⟩ := r.o i m h
  exact ⟨q, h1, k q _ h4 h2, h3, h4, h5⟩, r.inj, r.w⟩
theorem SI.aft (s : SI γ b u M0 Δ Δr M n) (a : Aft b u M M' n') : SI γ b u M0 Δ Δr M' n' := ⟨s.rel.keep a.keep, a.urn, s.k0.trans a.keep⟩
theorem SI.here (s : SI γ b u M0 Δ Δr M n) : Aft b u M M n := Aft.refl s.urn
end
/-! ### judgements -/
abbrev SE := List Sl → Pg D
abbrev SB := List Sl → Pg Bool
abbrev SA := List Sl → Pg (List D)
structure IE (γ : Nat → Addr) (X : Cx) (e : Expr) (s : SE) : Prop where
  go : ∀ b u M0 Δ Δr M n (k : DK), SI γ b u M0 Δ Δr M n → wpB b n (s Δ) (fun d n' => ∀ M', Aft b u M M' n' → k (rn (rho γ u) d) M') → EvD X e Δr M k
structure IV (γ : Nat → Addr) (X : Cx) (e : Expr) (s : SE) : Prop where
  go : ∀ b u M0 Δ Δr M n (k : DK), SI γ b u M0 Δ Δr M n → wpB b n (s Δ) (fun d n' => ∀ M' dr, Aft b u M M' n' → Vw (rho γ u) b M' d dr → k dr M') → EvD X e Δr M k
structure IT (γ : Nat → Addr) (X : Cx) (e : Expr) (s : SB) : Prop where
  go : ∀ b u M0 Δ Δr M n (k : BK), SI γ b u M0 Δ Δr M n → wpB b n (s Δ) (fun d n' => ∀ M', Aft b u M M' n' → k d M') → TeD X e Δr M k
structure IA (γ : Nat → Addr) (X : Cx) (es : List Expr) (s : SA) : Prop where
  go : ∀ b u M0 Δ Δr M n (k : AK), SI γ b u M0 Δ Δr M n → wpB b n (s Δ) (fun d n' => ∀ M', Aft b u M M' n' → k (rnL (rho γ u) d) M') → EvA X es Δr M k
/-- a fresh list -/
structure IL (γ : Nat → Addr) (X : Cx) (e : Expr) (s : SA) : Prop where
  go : ∀ b u M0 Δ Δr M n (k : AK), SI γ b u M0 Δ Δr M n → wpB b n (s Δ) (fun d n' => ∀ M', Aft b u M M' n' → k (rnL (rho γ u) d) M') → EvL X e Δr M k
structure II (γ : Nat → Addr) (X : Cx) (tg e : Expr) (s : SA) : Prop where
  go : ∀ b u M0 Δ Δr M n (k : AK), SI γ b u M0 Δ Δr M n → wpB b n (s Δ) (fun d n' => ∀ M', Aft b u M M' n' → k (rnL (rho γ u) d) M') → ItD X tg e Δr M k
section
variable {γ : Nat → Addr} {X : Cx} {a e e2 : Expr} {es : List Expr} {pos p : Pos} {x : Str}
theorem IE.iv {s : SE} (h : IE γ X e s) : IV γ X e s := .mk fun b u M0 Δ Δr M n k S w => h.go b u M0 Δ Δr M n k S (w.mono fun d m q M' A => q M' _ A (.inl rfl))
/-! ### leaves -/
def cVar (i : Nat) : SE := fun Δ => match Δ[i]? with
  | some (.v d) => .ret d
  | _ => .fail
def cVw (i : Nat) : SE := fun Δ => match Δ[i]? with
  | some (.v d) => .ret d
  | some (.o (.lst ds)) => .ret (.lst ds)
  | some (.w d) => .ret d
  | _ => .fail
def cC (d : D) : SE := fun _ => .ret d
theorem i_var {i : Nat} (hN : X.N[i]? = some x) (hv : Vis X.env.scope x) (hd : (x == ("__debug__" : Str)) = false) (hcd : (x == ("__classdict__" : Str)) = false) : IE γ X (.Name x pos) (cVar i) := .mk fun b u M0 Δ Δr M n k S w => by
  unfold cVar at w
  split at w
  · rename_i d hd'
    exact ev_var hN hv hd hcd (S.rel.v i d hd') (w M S.here)
  · exact w.elim
theorem iv_var {i : Nat} (hN : X.N[i]? = some x) (hv : Vis X.env.scope x) (hd : (x == ("__debug__" : Str)) = false) (hcd : (x == ("__classdict__" : Str)) = false) : IV γ X (.Name x pos) (cVw i) := .mk fun b u M0 Δ Δr M n k S w => by
  unfold cVw at w
  split at w
  · rename_i d hd'
    exact ev_var hN hv hd hcd (S.rel.v i d hd') (w M _ S.here (.inl rfl))
  · rename_i ds hd'
    obtain ⟨q, h1, h2, h3, h4, _⟩ := S.rel.o i _ hd'
    exact ev_var hN hv hd hcd h1 (w M _ S.here (.inr ⟨q, ds, rfl, rfl, h2, h4⟩))
  · rename_i d hd'
    obtain ⟨dr, h1, h2⟩ := S.rel.w i d hd'
    exact ev_var hN hv hd hcd h1 (w M _ S.here (h2.keep S.k0))
  · exact w.elim
theorem i_int {i : Int} {j : Nat} : IE γ X (.Constant (.int i) j pos) (cC (.int i)) := .mk fun b u M0 Δ Δr M n k S w => by
  have w := w M S.here
  rw [rn_int] at w
  exact ev_int w
theorem i_bl {i : Bool} {j : Nat} : IE γ X (.Constant (.bool i) j pos) (cC (.bl i)) := .mk fun b u M0 Δ Δr M n k S w => by
  have w := w M S.here
  rw [rn_bl] at w
  exact ev_bl w
theorem i_str {i : Str} {j : Nat} : IE γ X (.Constant (.str i) j pos) (cC (.str i)) := .mk fun b u M0 Δ Δr M n k S w => by
  have w := w M S.here
  rw [rn_str] at w
  exact ev_str w
theorem i_non {j : Nat} : IE γ X (.Constant .none j pos) (cC .non) := .mk fun b u M0 Δ Δr M n k S w => by
  have w := w M S.here
  rw [rn_non] at w
  exact ev_non w
theorem i_gS {z : Str} (hm : ∃ t, X.mg x = some (.str z t)) (hg : Gl X x) (hd : (x == ("__debug__" : Str)) = false := by decide) : IE γ X (.Name x pos) (cC (.str z)) := .mk fun b u M0 Δ Δr M n k S w => by
  have w := w M S.here
  rw [rn_str] at w
  exact ev_gS hm hg w hd
theorem i_gI {z : Int} (hm : ∃ t, X.mg x = some (.int z t)) (hg : Gl X x) (hd : (x == ("__debug__" : Str)) = false := by decide) : IE γ X (.Name x pos) (cC (.int z)) := .mk fun b u M0 Δ Δr M n k S w => by
  have w := w M S.here
  rw [rn_int] at w
  exact ev_gI hm hg w hd
theorem i_gC {c : Nat} (hm : X.mg x = some (.ref (γ c))) (hg : Gl X x) (hd : (x == ("__debug__" : Str)) = false := by decide) : IE γ X (.Name x pos) (cC (.cell (c + 1))) := .mk fun b u M0 Δ Δr M n k S w => by
  have w := w M S.here
  rw [rn_cell] at w
  exact ev_gC hm hg w hd
theorem i_ty {T : String} (hg : Gl X x) (hm : X.mg x = none) (hv : bootBuiltins x = some (.type T)) (hn : x ≠ "__name__") (hdb : (x == ("__debug__" : Str)) = false) : IE γ X (.Name x pos) (cC (.ty T)) := .mk fun b u M0 Δ Δr M n k S w => by
  have w := w M S.here
  rw [rn_ty] at w
  exact ev_tyn hg hm hv hn hdb w
/-! ### one, two operands -/
def c1 (g : D → Option D) (a : SE) : SE := fun Δ => (a Δ).bind fun x => ofO (g x)
def c2 (g : D → D → Option D) (a c : SE) : SE := fun Δ => (a Δ).bind fun x => (c Δ).bind fun y => ofO (g x y)
/-- g is what PP asks -/
def Ok2 (PP : D → D → Store → DK → Prop) (g : D → D → Option D) : Prop := ∀ (ρ : Nat → Addr) x y d M (k : DK), g x y = some d → k (rn ρ d) M → PP (rn ρ x) (rn ρ y) M k
def Ok1 (PP : D → Store → DK → Prop) (g : D → Option D) : Prop := ∀ (ρ : Nat → Addr) x d M (k : DK), g x = some d → k (rn ρ d) M → PP (rn ρ x) M k
/-- the first operand may be a view -/
def OkV1 (PP : D → Store → DK → Prop) (g : D → Option D) : Prop := ∀ (ρ : Nat → Addr) b x xr d M (k : DK), g x = some d → Vw ρ b M x xr → k (rn ρ d) M → PP xr M k
def OkV2 (PP : D → D → Store → DK → Prop) (g : D → D → Option D) : Prop := ∀ (ρ : Nat → Addr) b x xr y d M (k : DK), g x y = some d → Vw ρ b M x xr → k (rn ρ d) M → PP xr (rn ρ y) M k
def OkW2 (PP : D → D → Store → DK → Prop) (g : D → D → Option D) : Prop := ∀ (ρ : Nat → Addr) b x y yr d M (k : DK), g x y = some d → Vw ρ b M y yr → k (rn ρ d) M → PP (rn ρ x) yr M k
theorem OkV1.ok {PP : D → Store → DK → Prop} {g : D → Option D} (h : OkV1 PP g) : Ok1 PP g := fun ρ x d M k e q => h ρ false x _ d M k e (.inl rfl) q
variable {c : Expr}
theorem i_two {e : Expr} {PP : D → D → Store → DK → Prop} {g : D → D → Option D} {s t : SE} (hev : ∀ Δr M k, (EvD X a Δr M fun d1 M1 => EvD X c Δr M1 fun d2 M2 => PP d1 d2 M2 k) → EvD X e Δr M k) (ok : Ok2 PP g) (ha : IE γ X a s) (hc : IE γ X c t) : IE γ X e (c2 g s t) := .mk fun b u M0 Δ Δr M n k S w => by
  refine hev Δr M k (ha.go b u M0 Δ Δr M n _ S ((wpB_bind.1 w).mono fun x n1 w1 M1 A1 => hc.go b u M0 Δ Δr M1 n1 _ (S.aft A1) ((wpB_bind.1 w1).mono fun y n2 w2 M2 A2 => ?_)))
  obtain ⟨d, h1, h2⟩ := wpB_ofO w2
  exact ok _ x y d M2 k h1 (h2 M2 (A1.trans A2))
theorem i_twoV {e : Expr} {PP : D → D → Store → DK → Prop} {g : D → D → Option D} {s t : SE} (hev : ∀ Δr M k, (EvD X a Δr M fun d1 M1 => EvD X c Δr M1 fun d2 M2 => PP d1 d2 M2 k) → EvD X e Δr M k) (ok : OkV2 PP g) (ha : IV γ X a s) (hc : IE γ X c t) : IE γ X e (c2 g s t) := .mk fun b u M0 Δ Δr M n k S w => by
  refine hev Δr M k (ha.go b u M0 Δ Δr M n _ S ((wpB_bind.1 w).mono fun x n1 w1 M1 xr A1 V1 => hc.go b u M0 Δ Δr M1 n1 _ (S.aft A1) ((wpB_bind.1 w1).mono fun y n2 w2 M2 A2 => ?_)))
  obtain ⟨d, h1, h2⟩ := wpB_ofO w2
  exact ok _ b x xr y d M2 k h1 (V1.keep A2.keep) (h2 M2 (A1.trans A2))
theorem i_twoW {e : Expr} {PP : D → D → Store → DK → Prop} {g : D → D → Option D} {s t : SE} (hev : ∀ Δr M k, (EvD X a Δr M fun d1 M1 => EvD X c Δr M1 fun d2 M2 => PP d1 d2 M2 k) → EvD X e Δr M k) (ok : OkW2 PP g) (ha : IE γ X a s) (hc : IV γ X c t) : IE γ X e (c2 g s t) := .mk fun b u M0 Δ Δr M n k S w => by
  refine hev Δr M k (ha.go b u M0 Δ Δr M n _ S ((wpB_bind.1 w).mono fun x n1 w1 M1 A1 => hc.go b u M0 Δ Δr M1 n1 _ (S.aft A1) ((wpB_bind.1 w1).mono fun y n2 w2 M2 yr A2 V2 => ?_)))
  obtain ⟨d, h1, h2⟩ := wpB_ofO w2
  exact ok _ b x y yr d M2 k h1 V2 (h2 M2 (A1.trans A2))
theorem i_one {e : Expr} {PP : D → Store → DK → Prop} {g : D → Option D} {s : SE} (hev : ∀ Δr M k, (EvD X a Δr M fun d1 M1 => PP d1 M1 k) → EvD X e Δr M k) (ok : Ok1 PP g) (ha : IE γ X a s) : IE γ X e (c1 g s) := .mk fun b u M0 Δ Δr M n k S w => by
  refine hev Δr M k (ha.go b u M0 Δ Δr M n _ S ((wpB_bind.1 w).mono fun x n1 w1 M1 A1 => ?_))
  obtain ⟨d, h1, h2⟩ := wpB_ofO w1
  exact ok _ x d M1 k h1 (h2 M1 A1)
theorem i_oneV {e : Expr} {PP : D → Store → DK → Prop} {g : D → Option D} {s : SE} (hev : ∀ Δr M k, (EvD X a Δr M fun d1 M1 => PP d1 M1 k) → EvD X e Δr M k) (ok : OkV1 PP g) (ha : IV γ X a s) : IE γ X e (c1 g s) := .mk fun b u M0 Δ Δr M n k S w => by
  refine hev Δr M k (ha.go b u M0 Δ Δr M n _ S ((wpB_bind.1 w).mono fun x n1 w1 M1 xr A1 V1 => ?_))
  obtain ⟨d, h1, h2⟩ := wpB_ofO w1
  exact ok _ b x xr d M1 k h1 V1 (h2 M1 A1)
end
end DL
end
section
set_option Elab.async false
set_option linter.all false
set_option maxRecDepth 100000
namespace DL
open PySem L2
/-! ### what the operators make -/
@[reducible] def lim : Nat := 16777216
theorem lim_eq : sizeLine = lim := PySem.sizeLine_eq
/-- a number that is not too great: said so that nothing is unrolled -/
def nsm (k : Nat) (j : Int) : Bool := Nat.ble j.natAbs k
theorem nsm_is {k : Nat} {j : Int} (h : nsm k j = true) : -(k : Int) ≤ j ∧ j ≤ k := by
  have h := Nat.le_of_ble_eq_true h
  omega
def addO : D → D → Option D
  | .int i, .int j => some (.int (i + j))
  | .str x, .str y => if x.length + y.length ≤ lim then some (.str (x ++ y)) else none
  | .lst x, .lst y => if x.length + y.length ≤ lim then some (.lst (x ++ y)) else none
  | .tup x, .tup y => if x.length + y.length ≤ lim then some (.tup (x ++ y)) else none
  | _, _ => none
theorem add_ok : Ok2 AddP addO := fun ρ x y d M k e h => by
  unfold addO at e
  split at e
  · cases e; rw [rn_int] at *; exact h
  · split at e
    · rename_i l; cases e; rw [rn_str] at *; exact ⟨by rw [lim_eq]; exact l, h⟩
    · cases e
  · split at e
    · rename_i l; cases e; rw [rn_lst, rnL_app] at *; exact ⟨by rw [lim_eq, rnL_len, rnL_len]; exact l, h⟩
    · cases e
  · split at e
    · rename_i l; cases e; rw [rn_tup, rnL_app] at *; exact ⟨by rw [lim_eq, rnL_len, rnL_len]; exact l, h⟩
    · cases e
  · cases e
def subO : D → D → Option D
  | .int i, .int j => some (.int (i - j))
  | _, _ => none
theorem sub_ok : Ok2 (NumP fun i j => .int (i - j)) subO := fun ρ x y d M k e h => by
  unfold subO at e
  split at e
  · cases e; rw [rn_int] at *; exact h
  · cases e
theorem rnL_rep {ρ : Nat → Addr} (xs : List D) : ∀ n : Nat, rnL ρ (List.replicate n xs).flatten = (List.replicate n (rnL ρ xs)).flatten
  | 0 => by simp [rnL_map]
  | n + 1 => by rw [List.replicate_succ, List.replicate_succ, List.flatten_cons, List.flatten_cons, rnL_app, rnL_rep xs n]
def mulO : D → D → Option D
  | .int i, .int j => if nsm 18446744073709551615 j = true ∨ i.natAbs.log2 + j.natAbs.log2 < 1000000 then some (.int (i * j)) else none
  | .lst x, .int j => if nsm 9223372036854775807 j = true ∧ x.length * j.toNat ≤ lim then some (.lst (List.replicate j.toNat x).flatten) else none
  | _, _ => none
theorem mul_ok : Ok2 MulP mulO := fun ρ x y d M k e h => by
  unfold mulO at e
  split at e
  · split at e
    · rename_i l; cases e; rw [rn_int] at *; exact ⟨l.elim (fun l => CMul.ok (.inr (by have := nsm_is l; constructor <;> omega))) CMulW.ok, h⟩
    · cases e
  · split at e
    · rename_i l; cases e
      rw [rn_lst, rnL_rep] at h
      rw [rn_lst, rn_int]
      have := nsm_is l.1
      exact ⟨⟨by omega, by omega, by rw [lim_eq, rnL_len]; exact l.2⟩, h⟩
    · cases e
  · cases e
def modO : D → D → Option D
  | .int i, .int j => if 0 < j then some (.int (i % j)) else none
  | _, _ => none
theorem mod_ok : Ok2 (IntP (fun _ j => 0 < j) fun i j => .int (i % j)) modO := fun ρ x y d M k e h => by
  unfold modO at e
  split at e
  · split at e
    · rename_i l; cases e; rw [rn_int] at *; exact ⟨l, h⟩
    · cases e
  · cases e
def fdivO : D → D → Option D
  | .int i, .int j => if 0 < j ∧ j.natAbs.log2 < 9000 then some (.int (i / j)) else none
  | _, _ => none
theorem fdiv_ok : Ok2 (IntP CDivW fun i j => .int (i / j)) fdivO := fun ρ x y d M k e h => by
  unfold fdivO at e
  split at e
  · split at e
    · rename_i l; cases e; rw [rn_int] at *; exact ⟨l, h⟩
    · cases e
  · cases e
def powO : D → D → Option D
  | .int i, .int j => if 0 ≤ j ∧ j ≤ 1000000 ∧ i.natAbs < 2 ^ 64 then some (.int (i ^ j.toNat)) else none
  | _, _ => none
theorem pow_ok : Ok2 (IntP CPow fun i j => .int (i ^ j.toNat)) powO := fun ρ x y d M k e h => by
  unfold powO at e
  split at e
  · split at e
    · rename_i l; cases e; rw [rn_int] at *; exact ⟨l, h⟩
    · cases e
  · cases e
def negO : D → Option D
  | .int i => some (.int (-i))
  | _ => none
theorem neg_ok : Ok1 NegP negO := fun ρ x d M k e h => by
  unfold negO at e
  split at e
  · cases e; rw [rn_int] at *; exact h
  · cases e
/-! comparisons -/
def coO (op : CmpOp) : D → D → Option D
  | .int i, .int j => match op with
    | .Lt => some (.bl (decide (i < j))) | .LtE => some (.bl (decide (i ≤ j))) | .Gt => some (.bl (decide (j < i))) | .GtE => some (.bl (decide (j ≤ i)))
    | _ => none
  | .str i, .str j => match op with
    | .Lt => some (.bl (decide (i.cps.toList < j.cps.toList))) | .LtE => some (.bl (!decide (j.cps.toList < i.cps.toList))) | .Gt => some (.bl (decide (j.cps.toList < i.cps.toList))) | .GtE => some (.bl (!decide (i.cps.toList < j.cps.toList)))
    | _ => none
  | _, _ => none
theorem co_ok {op : CmpOp} : Ok2 (CoP op) (coO op) := fun ρ x y d M k e h => by
  unfold coO at e
  split at e
  · rw [rn_int, rn_int]
    split at e <;> first | (cases e; rw [rn_bl] at h; exact h) | cases e
  · rw [rn_str, rn_str]
    split at e <;> first | (cases e; rw [rn_bl] at h; exact h) | cases e
  · cases e
/-! == -/
mutual
theorem toPy_rn {ρ : Nat → Addr} : ∀ {d : D} {p : PyData}, toPy d = some p → toPy (rn ρ d) = some p
  | .non, p, h => by rw [rn_non]; exact h
  | .bl _, p, h => by rw [rn_bl]; exact h
  | .int _, p, h => by rw [rn_int]; exact h
  | .str _, p, h => by rw [rn_str]; exact h
  | .ty _, p, h => by rw [rn_ty]; exact h
  | .tup ds, p, h => by
    rw [rn_tup]
    unfold toPy at h ⊢
    obtain ⟨ps, h1, h2⟩ := Option.map_eq_some_iff.mp h
    rw [toPyL_rn h1]
    exact congrArg some h2
  | .lst ds, p, h => by
    rw [rn_lst]
    unfold toPy at h ⊢
    obtain ⟨ps, h1, h2⟩ := Option.map_eq_some_iff.mp h
    rw [toPyL_rn h1]
    exact congrArg some h2
  | .frl ds, p, h => by
    rw [rn_frl]
    unfold toPy at h ⊢
    obtain ⟨ps, h1, h2⟩ := Option.map_eq_some_iff.mp h
    rw [toPyL_rn h1]
    exact congrArg some h2
  | .dct _ _, p, h => by unfold toPy at h; cases h
  | .ins _ _ _, p, h => by unfold toPy at h; cases h
  | .cell _, p, h => by unfold toPy at h; cases h
theorem toPyL_rn {ρ : Nat → Addr} : ∀ {ds : List D} {ps : List PyData}, toPyL ds = some ps → toPyL (rnL ρ ds) = some ps
  | [], _, h => by unfold rnL; exact h
  | d :: ds, _, h => by
    unfold rnL
    unfold toPyL at h ⊢
    obtain ⟨p, h1, h2⟩ := Option.bind_eq_some_iff.mp h
    obtain ⟨qs, h3, h4⟩ := Option.map_eq_some_iff.mp h2
    rw [toPy_rn h1, toPyL_rn h3]
    exact congrArg some h4
end
theorem sc_rn {ρ : Nat → Addr} {d : D} {v : V} (h : sc d = some v) : rn ρ d = d := by
  unfold sc at h
  split at h
  · exact rn_non
  · exact rn_bl _
  · exact rn_int _
  · exact rn_str _
  · cases h
def eqQ (neg : Bool) (x y : D) : Option D := match toPy x, toPy y with
  | some p, some q => if SeqAt.shaped p = true ∧ SeqAt.shaped q = true then some (.bl (if neg then !PyData.eqv p q else PyData.eqv p q)) else none
  | _, _ => none
def eqO (neg : Bool) (x y : D) : Option D := match x, y with
  | .int i, .int j => some (.bl (if neg then !decide (i = j) else decide (i = j)))
  | .str i, .str j => some (.bl (if neg then !decide (i = j) else decide (i = j)))
  | .bl i, .bl j => some (.bl (if neg then !decide (i = j) else decide (i = j)))
  | .non, .non => some (.bl (!neg))
  | .non, .int _ => some (.bl neg) | .int _, .non => some (.bl neg)
  | .non, .bl _ => some (.bl neg) | .bl _, .non => some (.bl neg)
  | .non, .str _ => some (.bl neg) | .str _, .non => some (.bl neg)
  | .int _, .str _ => some (.bl neg) | .str _, .int _ => some (.bl neg)
  | .bl _, .str _ => some (.bl neg) | .str _, .bl _ => some (.bl neg)
  | x, y => eqQ neg x y
theorem eqS_of {neg : Bool} {x y : V} {d1 d2 : D} {M : Store} {k : DK} (h1 : sc d1 = some x) (h2 : sc d2 = some y) (s : scal x y = true) {c : Bool} (hc : decide (x = y) = c) (h : k (.bl (if neg then !c else c)) M) : EqA neg d1 d2 M k := .inl ⟨x, y, h1, h2, s, by rw [hc]; exact h⟩
theorem eq_ok {neg : Bool} : Ok2 (EqA neg) (eqO neg) := fun ρ x y d M k e h => by
  unfold eqO at e
  split at e
  · cases e; rw [rn_int, rn_int]; rw [rn_bl] at h
    refine eqS_of rfl rfl rfl (c := decide _) (decide_eq_decide.mpr ⟨fun z => by cases z; rfl, fun z => by rw [z]⟩) h
  · cases e; rw [rn_str, rn_str]; rw [rn_bl] at h
    refine eqS_of rfl rfl rfl (c := decide _) (decide_eq_decide.mpr ⟨fun z => by cases z; rfl, fun z => by rw [z]⟩) h
  · cases e; rw [rn_bl, rn_bl]; rw [rn_bl] at h
    refine eqS_of rfl rfl rfl (c := decide _) (decide_eq_decide.mpr ⟨fun z => by cases z; rfl, fun z => by rw [z]⟩) h
  · cases e; rw [rn_non]; rw [rn_bl] at h
    refine eqS_of rfl rfl rfl (c := true) rfl (by cases neg <;> exact h)
  all_goals first
    | (cases e; simp only [rn_non, rn_int, rn_bl, rn_str] at h ⊢
       exact eqS_of rfl rfl rfl (c := false) (decide_eq_false fun z => by cases z) (by cases neg <;> exact h))
    | (unfold eqQ at e
       split at e
       · rename_i p q hp hq
         split at e
         · rename_i hs
           cases e
           rw [rn_bl] at h
           exact .inr ⟨p, q, toPy_rn hp, toPy_rn hq, hs.1, hs.2, h⟩
         · cases e
       · cases e)
/-! in -/
def seqV : D → Option (List D)
  | .tup ds => some ds | .lst ds => some ds | .frl ds => some ds
  | _ => none
theorem vw_seq {ρ : Nat → Addr} {b : Bool} {M : Store} {d dr : D} {ds : List D} (h : seqV d = some ds) (v : Vw ρ b M d dr) : seqD M dr = some (rnL ρ ds) := by
  rcases v with rfl | ⟨q, es, rfl, rfl, h2, _⟩
  · unfold seqV at h
    split at h
    · cases h; rw [rn_tup]; rfl
    · cases h; rw [rn_lst]; rfl
    · cases h; rw [rn_frl]; rfl
    · cases h
  · cases h; exact seq_cell h2
def inL (x : D) : List D → Option Bool
  | [] => some false
  | y :: r => (sc y).bind fun v => (inL x r).bind fun c => (sc x).map fun u => eqV v u || c
theorem inL_flat {ρ : Nat → Addr} {x : D} {v : V} (hx : sc x = some v) : ∀ {ds : List D} {c : Bool}, inL x ds = some c → ∃ vs, flatL (rnL ρ ds) = some vs ∧ inV v vs = c
  | [], c, h => by
    cases h
    unfold rnL
    exact ⟨[], rfl, rfl⟩
  | y :: r, c, h => by
    unfold inL at h
    obtain ⟨w, h1, h2⟩ := Option.bind_eq_some_iff.mp h
    obtain ⟨c2, h3, h4⟩ := Option.bind_eq_some_iff.mp h2
    rw [hx] at h4
    cases h4
    obtain ⟨vs, h5, h6⟩ := inL_flat hx h3
    refine ⟨w :: vs, ?_, ?_⟩
    · unfold rnL flatL
      rw [sc_rn h1, h1, h5]
      rfl
    · unfold inV at h6 ⊢
      rw [List.any_cons, h6]
def inO (neg : Bool) (x y : D) : Option D := match seqV y with
  | some ds => (inL x ds).bind fun c => (sc x).map fun _ => .bl (if neg then !c else c)
  | none => match x, y with
    | .str z, .str w => if z.cps.size = 1 then some (.bl (if neg then !decide (z.cps.toList.headD 0 ∈ w.cps.toList) else decide (z.cps.toList.headD 0 ∈ w.cps.toList))) else none
    | _, _ => none
theorem in_ok {neg : Bool} : OkW2 (InA neg) (inO neg) := fun ρ b x y yr d M k e v h => by
  unfold inO at e
  split at e
  · rename_i ds hs
    obtain ⟨c, h1, h2⟩ := Option.bind_eq_some_iff.mp e
    obtain ⟨w, h3, h4⟩ := Option.map_eq_some_iff.mp h2
    subst h4
    rw [rn_bl] at h
    obtain ⟨vs, h5, h6⟩ := inL_flat (ρ := ρ) h3 h1
    rw [sc_rn h3]
    exact .inl ⟨w, _, vs, h3, vw_seq hs v, h5, by rw [h6]; exact h⟩
  · split at e
    · rename_i z w hn
      split at e
      · rename_i hz
        cases e
        rw [rn_bl] at h
        rcases v with rfl | ⟨q, es, _, e2, _⟩
        · rw [rn_str, rn_str]
          have : ∃ c, z = ⟨#[c]⟩ := by
            obtain ⟨⟨l⟩⟩ := z
            match l, hz with
            | [c], _ => exact ⟨c, rfl⟩
          obtain ⟨c, rfl⟩ := this
          exact .inr ⟨c, w, rfl, rfl, h⟩
        · cases e2
      · cases e
    · cases e
def nonO (neg : Bool) (x : D) : Option D := some (.bl (if neg then !isNon x else isNon x))
theorem isNon_rn {ρ : Nat → Addr} (x : D) : isNon (rn ρ x) = isNon x := by
  cases x with
  | non => rw [rn_non]
  | bl _ => rw [rn_bl]
  | int _ => rw [rn_int]
  | str _ => rw [rn_str]
  | ty _ => rw [rn_ty]
  | tup _ => rw [rn_tup]; rfl
  | lst _ => rw [rn_lst]; rfl
  | frl _ => rw [rn_frl]; rfl
  | dct _ _ => rw [rn_dct]; rfl
  | ins _ _ _ => rw [rn_ins]; rfl
  | cell _ => rw [rn_cell]; rfl
/-! items and slices -/
def ixO : D → D → Option D
  | .str z, .int i => if z.length ≤ lim then (atI z.cps.toList i).map fun c => .str ⟨#[c]⟩ else none
  | d, .int i => (seqV d).bind fun ds => atI ds i
  | _, _ => none
theorem atI_rn {ρ : Nat → Addr} {ds : List D} {i : Int} {r : D} (h : atI ds i = some r) : atI (rnL ρ ds) i = some (rn ρ r) := by
  unfold atI at h ⊢
  obtain ⟨j, h1, h2⟩ := Option.bind_eq_some_iff.mp h
  rw [rnL_len, h1]
  show (rnL ρ ds)[j]? = _
  rw [rnL_get, h2]
  rfl
theorem strOf_seq {d dr : D} {ρ : Nat → Addr} {b : Bool} {M : Store} {ds : List D} (h : seqV d = some ds) (v : Vw ρ b M d dr) : strOf dr = none := by
  rcases v with rfl | ⟨q, es, rfl, rfl, h2, _⟩
  · unfold seqV at h
    split at h
    · rw [rn_tup]; rfl
    · rw [rn_lst]; rfl
    · rw [rn_frl]; rfl
    · cases h
  · rfl
theorem ix_ok : OkV2 (fun d1 d2 M2 k => ∃ i r, d2 = .int i ∧ atD M2 d1 i = some r ∧ k r M2) ixO := fun ρ b x xr y d M k e v h => by
  unfold ixO at e
  split at e
  · split at e
    · rename_i l
      obtain ⟨c, h1, h2⟩ := Option.map_eq_some_iff.mp e
      subst h2
      rw [rn_str] at h
      rcases v with rfl | ⟨q, es, _, e2, _⟩
      · rw [rn_str, rn_int]
        refine ⟨_, _, rfl, ?_, h⟩
        unfold atD strOf
        dsimp only
        rw [if_pos (by rw [lim_eq]; exact l), h1]
        rfl
      · cases e2
    · cases e
  · rename_i i hn
    obtain ⟨ds, h1, h2⟩ := Option.bind_eq_some_iff.mp e
    rw [rn_int]
    refine ⟨i, _, rfl, ?_, h⟩
    unfold atD
    rw [strOf_seq h1 v]
    dsimp only
    rw [vw_seq h1 v]
    exact atI_rn h2
  · cases e
def slO (d : D) (lo hi : Option Int) : Option D := match d with
  | .str z => if z.length ≤ lim then some (.str (cutS z lo hi)) else none
  | .tup ds => some (.tup (cutD ds lo hi))
  | .lst ds => some (.lst (cutD ds lo hi))
  | .frl ds => some (.lst (cutD ds lo hi))
  | _ => none
theorem cut_rn {ρ : Nat → Addr} (ds : List D) (lo hi : Option Int) : rnL ρ (cutD ds lo hi) = cutD (rnL ρ ds) lo hi := by
  unfold cutD
  rw [rnL_map, rnL_map, List.map_take, List.map_drop, List.length_map]
theorem sl_ok {ρ : Nat → Addr} {b : Bool} {x xr d : D} {lo hi : Option Int} {M : Store} {k : DK} (e : slO x lo hi = some d) (v : Vw ρ b M x xr) (h : k (rn ρ d) M) : SlP xr lo hi M k := by
  rcases v with rfl | ⟨q, es, rfl, rfl, h2, _⟩
  · unfold slO at e
    split at e
    · split at e
      · rename_i l; cases e; rw [rn_str] at *; exact ⟨by rw [lim_eq]; exact l, h⟩
      · cases e
    · cases e; rw [rn_tup] at *; rw [cut_rn] at h; exact h
    · cases e; rw [rn_lst] at *; rw [cut_rn] at h; exact ⟨_, rfl, h⟩
    · cases e; rw [rn_lst, cut_rn] at h; rw [rn_frl]; exact ⟨_, rfl, h⟩
    · cases e
  · cases e
    rw [rn_lst, cut_rn] at h
    exact ⟨_, ls_cell h2, h⟩
def cSl0 (a : SE) : SE := c1 (fun x => slO x none none) a
def intOf : D → Option Int
  | .int i => some i
  | _ => none
theorem intOf_is {d : D} {i : Int} (h : intOf d = some i) : d = .int i := by
  unfold intOf at h
  split at h
  · cases h; rfl
  · cases h
def sl10 (x y : D) : Option D := (intOf y).bind fun i => slO x (some i) none
def sl01 (x y : D) : Option D := (intOf y).bind fun i => slO x none (some i)
def sl11 (x y z : D) : Option D := (intOf y).bind fun i => (intOf z).bind fun j => slO x (some i) (some j)
/-! len and numbers -/
def lenO : D → Option D
  | .str z => if z.length ≤ lim then some (.int z.length) else none
  | .dct ks _ => some (.int ks.length)
  | d => (seqV d).map fun ds => .int ds.length
def lenO' : D → Option D
  | .str z => if z.length ≤ lim then some (.int z.length) else none
  | d => (seqV d).map fun ds => .int ds.length
theorem len_ok : OkV1 (fun d M1 k => ∃ n : Nat, lenD M1 d = some n ∧ k (.int n) M1) lenO' := fun ρ b x xr d M k e v h => by
  unfold lenO' at e
  split at e
  · split at e
    · rename_i l
      cases e
      rw [rn_int] at h
      rcases v with rfl | ⟨q, es, _, e2, _⟩
      · rw [rn_str]
        exact ⟨_, by unfold lenD strOf; dsimp only; rw [if_pos (by rw [lim_eq]; exact l)], h⟩
      · cases e2
    · cases e
  · obtain ⟨ds, h1, h2⟩ := Option.map_eq_some_iff.mp e
    subst h2
    rw [rn_int] at h
    refine ⟨ds.length, ?_, h⟩
    unfold lenD
    rw [strOf_seq h1 v]
    dsimp only
    rw [vw_seq h1 v]
    show some (rnL ρ ds).length = _
    rw [rnL_len]
def absO : D → Option D
  | .int i => some (.int (if i < 0 then -i else i))
  | _ => none
theorem abs_ok : Ok1 (NumP1 fun i => .int (if i < 0 then -i else i)) absO := fun ρ x d M k e h => by
  unfold absO at e
  split at e
  · cases e; rw [rn_int] at *; exact h
  · cases e
def intO : D → Option D
  | .int i => some (.int i)
  | .bl c => some (.int (if c then 1 else 0))
  | _ => none
theorem int_ok : Ok1 IntC intO := fun ρ x d M k e h => by
  unfold intO at e
  split at e
  · cases e; rw [rn_int] at *; exact h
  · cases e; rw [rn_int] at h; rw [rn_bl]; exact h
  · cases e
def maxO : D → D → Option D
  | .int i, .int j => some (.int (if j > i then j else i))
  | _, _ => none
theorem max_ok : Ok2 (NumP fun i j => .int (if j > i then j else i)) maxO := fun ρ x y d M k e h => by
  unfold maxO at e
  split at e
  · cases e; rw [rn_int] at *; exact h
  · cases e
def minO : D → D → Option D
  | .int i, .int j => some (.int (if j < i then j else i))
  | _, _ => none
theorem min_ok : Ok2 (NumP fun i j => .int (if j < i then j else i)) minO := fun ρ x y d M k e h => by
  unfold minO at e
  split at e
  · cases e; rw [rn_int] at *; exact h
  · cases e
/-! rows of ints, of truths, of texts -/
def unI : List D → Option (List Int)
  | [] => some []
  | .int i :: r => (unI r).map (i :: ·)
  | _ => none
def unB : List D → Option (List Bool)
  | [] => some []
  | .bl i :: r => (unB r).map (i :: ·)
  | _ => none
theorem unI_eq : ∀ {ds : List D} {ns : List Int}, unI ds = some ns → ds = ns.map D.int
  | [], _, h => by cases h; rfl
  | d :: r, ns, h => by
    cases d with
    | int i =>
      obtain ⟨ms, h1, h2⟩ := Option.map_eq_some_iff.mp (show (unI r).map (i :: ·) = some ns from h)
      subst h2
      rw [unI_eq h1]; rfl
    | _ => cases h
theorem unB_eq : ∀ {ds : List D} {ns : List Bool}, unB ds = some ns → ds = ns.map D.bl
  | [], _, h => by cases h; rfl
  | d :: r, ns, h => by
    cases d with
    | bl i =>
      obtain ⟨ms, h1, h2⟩ := Option.map_eq_some_iff.mp (show (unB r).map (i :: ·) = some ns from h)
      subst h2
      rw [unB_eq h1]; rfl
    | _ => cases h
theorem unS_eq {ds : List D} {ns : List Str} (h : unS ds = some ns) : ds = ns.map D.str := Option.some.inj (strL h)
theorem rn_ints {ρ : Nat → Addr} (ns : List Int) : rnL ρ (ns.map D.int) = ns.map D.int := by
  rw [rnL_map, List.map_map]; exact List.map_congr_left fun i _ => rn_int i
theorem rn_bls {ρ : Nat → Addr} (ns : List Bool) : rnL ρ (ns.map D.bl) = ns.map D.bl := by
  rw [rnL_map, List.map_map]; exact List.map_congr_left fun i _ => rn_bl i
theorem rn_strs {ρ : Nat → Addr} (ns : List Str) : rnL ρ (ns.map D.str) = ns.map D.str := by
  rw [rnL_map, List.map_map]; exact List.map_congr_left fun i _ => rn_str i
def lsV : D → Option (List D)
  | .lst ds => some ds | .frl ds => some ds
  | _ => none
theorem vw_ls {ρ : Nat → Addr} {b : Bool} {M : Store} {d dr : D} {ds : List D} (h : lsV d = some ds) (v : Vw ρ b M d dr) : lsD M dr = some (rnL ρ ds) := by
  rcases v with rfl | ⟨q, es, rfl, rfl, h2, _⟩
  · unfold lsV at h
    split at h
    · cases h; rw [rn_lst]; rfl
    · cases h; rw [rn_frl]; rfl
    · cases h
  · cases h; exact ls_cell h2
def sumO (d : D) : Option D := (lsV d).bind fun ds => (unI ds).map fun ns => .int ns.sum
theorem sum_ok : OkV1 (fun d M1 k => ∃ ns : List Int, lsD M1 d = some (ns.map D.int) ∧ k (.int ns.sum) M1) sumO := fun ρ b x xr d M k e v h => by
  obtain ⟨ds, h1, h2⟩ := Option.bind_eq_some_iff.mp e
  obtain ⟨ns, h3, h4⟩ := Option.map_eq_some_iff.mp h2
  subst h4
  rw [rn_int] at h
  exact ⟨ns, by rw [vw_ls h1 v, unI_eq h3, rn_ints], h⟩
def allO (d : D) : Option D := (lsV d).bind fun ds => (unB ds).map fun ns => .bl (ns.all id)
theorem all_ok : OkV1 (fun d M1 k => ∃ ns : List Bool, lsD M1 d = some (ns.map D.bl) ∧ k (.bl (ns.all id)) M1) allO := fun ρ b x xr d M k e v h => by
  obtain ⟨ds, h1, h2⟩ := Option.bind_eq_some_iff.mp e
  obtain ⟨ns, h3, h4⟩ := Option.map_eq_some_iff.mp h2
  subst h4
  rw [rn_bl] at h
  exact ⟨ns, by rw [vw_ls h1 v, unB_eq h3, rn_bls], h⟩
def anyO (d : D) : Option D := (lsV d).bind fun ds => (unB ds).map fun ns => .bl (ns.any id)
theorem any_ok : OkV1 (fun d M1 k => ∃ ns : List Bool, lsD M1 d = some (ns.map D.bl) ∧ k (.bl (ns.any id)) M1) anyO := fun ρ b x xr d M k e v h => by
  obtain ⟨ds, h1, h2⟩ := Option.bind_eq_some_iff.mp e
  obtain ⟨ns, h3, h4⟩ := Option.map_eq_some_iff.mp h2
  subst h4
  rw [rn_bl] at h
  exact ⟨ns, by rw [vw_ls h1 v, unB_eq h3, rn_bls], h⟩
end DL
end
section
set_option Elab.async false
set_option linter.all false
set_option maxRecDepth 100000
namespace DL
open PySem L2
/-! ### any judgement that hands on a value -/
structure IJ (γ : Nat → Addr) (J : DS → Store → DK → Prop) (s : SE) : Prop where
  go : ∀ b u M0 Δ Δr M n (k : DK), SI γ b u M0 Δ Δr M n → wpB b n (s Δ) (fun d n' => ∀ M', Aft b u M M' n' → k (rn (rho γ u) d) M') → J Δr M k
section
variable {γ : Nat → Addr} {X : Cx} {a c e e2 : Expr} {es rest : List Expr} {pos p : Pos} {x : Str} {op : CmpOp} {J : DS → Store → DK → Prop} {s t : SE}
theorem j_two {PP : D → D → Store → DK → Prop} {g : D → D → Option D} (hev : ∀ Δr M k, (EvD X a Δr M fun d1 M1 => EvD X c Δr M1 fun d2 M2 => PP d1 d2 M2 k) → J Δr M k) (ok : Ok2 PP g) (ha : IE γ X a s) (hc : IE γ X c t) : IJ γ J (c2 g s t) := .mk fun b u M0 Δ Δr M n k S w => by
  refine hev Δr M k (ha.go b u M0 Δ Δr M n _ S ((wpB_bind.1 w).mono fun x n1 w1 M1 A1 => hc.go b u M0 Δ Δr M1 n1 _ (S.aft A1) ((wpB_bind.1 w1).mono fun y n2 w2 M2 A2 => ?_)))
  obtain ⟨d, h1, h2⟩ := wpB_ofO w2
  exact ok _ x y d M2 k h1 (h2 M2 (A1.trans A2))
theorem j_twoW {PP : D → D → Store → DK → Prop} {g : D → D → Option D} (hev : ∀ Δr M k, (EvD X a Δr M fun d1 M1 => EvD X c Δr M1 fun d2 M2 => PP d1 d2 M2 k) → J Δr M k) (ok : OkW2 PP g) (ha : IE γ X a s) (hc : IV γ X c t) : IJ γ J (c2 g s t) := .mk fun b u M0 Δ Δr M n k S w => by
  refine hev Δr M k (ha.go b u M0 Δ Δr M n _ S ((wpB_bind.1 w).mono fun x n1 w1 M1 A1 => hc.go b u M0 Δ Δr M1 n1 _ (S.aft A1) ((wpB_bind.1 w1).mono fun y n2 w2 M2 yr A2 V2 => ?_)))
  obtain ⟨d, h1, h2⟩ := wpB_ofO w2
  exact ok _ b x y yr d M2 k h1 V2 (h2 M2 (A1.trans A2))
abbrev IC (γ : Nat → Addr) (X : Cx) (op : CmpOp) (a c : Expr) (s : SE) : Prop := IJ γ (EvC X op a c) s
/-! operators -/
theorem i_add (ha : IE γ X a s) (hc : IE γ X c t) : IE γ X (.BinOp a .Add c pos) (c2 addO s t) := i_two (fun _ _ _ h => ev_add h) add_ok ha hc
theorem i_sub (ha : IE γ X a s) (hc : IE γ X c t) : IE γ X (.BinOp a .Sub c pos) (c2 subO s t) := i_two (fun _ _ _ h => ev_sub h) sub_ok ha hc
theorem i_mul (ha : IE γ X a s) (hc : IE γ X c t) : IE γ X (.BinOp a .Mult c pos) (c2 mulO s t) := i_two (fun _ _ _ h => ev_mul h) mul_ok ha hc
theorem i_mod (ha : IE γ X a s) (hc : IE γ X c t) : IE γ X (.BinOp a .Mod c pos) (c2 modO s t) := i_two (fun _ _ _ h => ev_mod h) mod_ok ha hc
theorem i_fdiv (ha : IE γ X a s) (hc : IE γ X c t) : IE γ X (.BinOp a .FloorDiv c pos) (c2 fdivO s t) := i_two (fun _ _ _ h => ev_fdiv h) fdiv_ok ha hc
theorem i_pow (ha : IE γ X a s) (hc : IE γ X c t) : IE γ X (.BinOp a .Pow c pos) (c2 powO s t) := i_two (fun _ _ _ h => ev_pow h) pow_ok ha hc
theorem i_neg (ha : IE γ X a s) : IE γ X (.UnaryOp .USub a pos) (c1 negO s) := i_one (fun _ _ _ h => ev_neg h) neg_ok ha
/-! comparisons -/
theorem k_co (ha : IE γ X a s) (hc : IE γ X c t) : IC γ X op a c (c2 (coO op) s t) := j_two (fun _ _ _ h => c_co h) co_ok ha hc
theorem k_eq (hu : X.A.units + 64 < cLine) (ha : IE γ X a s) (hc : IE γ X c t) : IC γ X .Eq a c (c2 (eqO false) s t) := j_two (fun _ _ _ h => c_eq hu h) eq_ok ha hc
theorem k_ne (hu : X.A.units + 64 < cLine) (ha : IE γ X a s) (hc : IE γ X c t) : IC γ X .NotEq a c (c2 (eqO true) s t) := j_two (fun _ _ _ h => c_ne hu h) eq_ok ha hc
theorem k_in (ha : IE γ X a s) (hc : IV γ X c t) : IC γ X .In a c (c2 (inO false) s t) := j_twoW (fun _ _ _ h => c_in h) in_ok ha hc
theorem k_notin (ha : IE γ X a s) (hc : IV γ X c t) : IC γ X .NotIn a c (c2 (inO true) s t) := j_twoW (fun _ _ _ h => c_notin h) in_ok ha hc
theorem k_is {j : Nat} (ha : IE γ X a s) : IC γ X .Is a (.Constant .none j p) (c1 (nonO false) s) := .mk fun b u M0 Δ Δr M n k S w => by
  refine c_isN (ha.go b u M0 Δ Δr M n _ S ((wpB_bind.1 w).mono fun x n1 w1 M1 A1 => ?_))
  have w2 := w1 M1 A1
  rw [rn_bl] at w2
  rw [isNon_rn]
  exact w2
theorem k_isnot {j : Nat} (ha : IE γ X a s) : IC γ X .IsNot a (.Constant .none j p) (c1 (nonO true) s) := .mk fun b u M0 Δ Δr M n k S w => by
  refine c_notN (ha.go b u M0 Δ Δr M n _ S ((wpB_bind.1 w).mono fun x n1 w1 M1 A1 => ?_))
  have w2 := w1 M1 A1
  rw [rn_bl] at w2
  rw [isNon_rn]
  exact w2
theorem i_cmp (hm : behindInMarks op c = false) (h : IC γ X op a c s) : IE γ X (.Compare a [op] [c] pos) s := .mk fun b u M0 Δ Δr M n k S w => ev_c1 hm (h.go b u M0 Δ Δr M n k S w)
def toB : D → Option Bool
  | .bl c => some c
  | _ => none
theorem toB_is {d : D} {c : Bool} (h : toB d = some c) : d = .bl c := by
  unfold toB at h
  split at h
  · cases h; rfl
  · cases h
def tB (s : SE) : SB := fun Δ => (s Δ).bind fun d => ofO (toB d)
theorem t_cmp (hm : behindInMarks op c = false) (h : IC γ X op a c s) : IT γ X (.Compare a [op] [c] pos) (tB s) := .mk fun b u M0 Δ Δr M n k S w => te_c1 hm (h.go b u M0 Δ Δr M n _ S ((wpB_bind.1 w).mono fun d n1 w1 M1 A1 => by
  obtain ⟨c, h1, h2⟩ := wpB_ofO w1
  rw [toB_is h1, rn_bl]
  exact ⟨c, rfl, h2 M1 A1⟩))
/-! a < b < c -/
def cCh (op op' : CmpOp) (a c d : SE) : SE := fun Δ => (a Δ).bind fun x => (c Δ).bind fun y => (ofO ((coO op x y).bind toB)).bind fun z => if z = true then (d Δ).bind fun w => ofO (coO op' y w) else .ret (.bl false)
theorem i_chain {g : Expr} {op' : CmpOp} {r : SE} (hm : lastMarks [op, op'] [c, g] = false) (ha : IE γ X a s) (hc : IE γ X c t) (hg : IE γ X g r) : IE γ X (.Compare a [op, op'] [c, g] pos) (cCh op op' s t r) := .mk fun b u M0 Δ Δr M n k S w => by
  refine ev_chain hm (ha.go b u M0 Δ Δr M n _ S ((wpB_bind.1 w).mono fun x n1 w1 M1 A1 => hc.go b u M0 Δ Δr M1 n1 _ (S.aft A1) ((wpB_bind.1 w1).mono fun y n2 w2 M2 A2 => ?_)))
  have A12 := A1.trans A2
  obtain ⟨z, h1, h2⟩ := wpB_ofO (wpB_bind.1 w2)
  obtain ⟨d0, h3, h4⟩ := Option.bind_eq_some_iff.mp h1
  have e0 := toB_is h4
  subst e0
  refine co_ok _ x y _ M2 _ h3 ?_
  rw [rn_bl]
  refine ⟨z, rfl, ?_⟩
  cases z with
  | true =>
    rw [if_pos rfl] at h2 ⊢
    refine hg.go b u M0 Δ Δr M2 n2 _ (S.aft A12) ((wpB_bind.1 h2).mono fun v n3 w3 M3 A3 => ?_)
    obtain ⟨d, h5, h6⟩ := wpB_ofO w3
    exact co_ok _ y v d M3 k h5 (h6 M3 (A12.trans A3))
  | false =>
    rw [if_neg Bool.false_ne_true] at h2 ⊢
    have h5 := h2 M2 A12
    rw [rn_bl] at h5
    exact h5
theorem t_chain {g : Expr} {op' : CmpOp} {r : SE} (hm : lastMarks [op, op'] [c, g] = false) (ha : IE γ X a s) (hc : IE γ X c t) (hg : IE γ X g r) : IT γ X (.Compare a [op, op'] [c, g] pos) (tB (cCh op op' s t r)) := .mk fun b u M0 Δ Δr M n k S w => by
  have w := wpB_bind.1 (wpB_bind.1 w)
  refine te_chain hm (ha.go b u M0 Δ Δr M n _ S (w.mono fun x n1 w1 M1 A1 => hc.go b u M0 Δ Δr M1 n1 _ (S.aft A1) ((wpB_bind.1 w1).mono fun y n2 w2 M2 A2 => ?_)))
  have A12 := A1.trans A2
  obtain ⟨z, h1, h2⟩ := wpB_ofO (wpB_bind.1 w2)
  obtain ⟨d0, h3, h4⟩ := Option.bind_eq_some_iff.mp h1
  have e0 := toB_is h4
  subst e0
  refine co_ok _ x y _ M2 _ h3 ?_
  rw [rn_bl]
  refine ⟨z, rfl, ?_⟩
  cases z with
  | true =>
    rw [if_pos rfl] at h2 ⊢
    refine hg.go b u M0 Δ Δr M2 n2 _ (S.aft A12) ((wpB_bind.1 h2).mono fun v n3 w3 M3 A3 => ?_)
    obtain ⟨d, h5, h6⟩ := wpB_ofO w3
    obtain ⟨c', h7, h8⟩ := wpB_ofO h6
    have e1 := toB_is h7
    subst e1
    refine co_ok _ y v _ M3 _ h5 ?_
    rw [rn_bl]
    exact ⟨c', rfl, h8 M3 (A12.trans A3)⟩
  | false =>
    rw [if_neg Bool.false_ne_true] at h2 ⊢
    exact h2 M2 A12
/-! truth -/
def truO : D → Option Bool
  | .non => some false | .bl b => some b | .int i => some (i != 0)
  | .tup ds => some (!ds.isEmpty) | .lst ds => some (!ds.isEmpty) | .frl ds => some (!ds.isEmpty)
  | _ => none
theorem rnL_emp {ρ : Nat → Addr} (ds : List D) : (rnL ρ ds).isEmpty = ds.isEmpty := by rw [rnL_map]; exact List.isEmpty_map
theorem tru_vw {ρ : Nat → Addr} {b : Bool} {M : Store} {d dr : D} {z : Bool} (h : truO d = some z) (v : Vw ρ b M d dr) : truD M dr = some z := by
  rcases v with rfl | ⟨q, es, rfl, rfl, h2, _⟩
  · unfold truO at h
    split at h <;> first | cases h | skip
    · rw [rn_non]; rfl
    · rw [rn_bl]; rfl
    · rw [rn_int]; rfl
    · rw [rn_tup]; show some _ = _; rw [rnL_emp]
    · rw [rn_lst]; show some _ = _; rw [rnL_emp]
    · rw [rn_frl]; show some _ = _; rw [rnL_emp]
  · cases h
    rw [tru_cell h2, rnL_emp]
def tT (s : SE) : SB := fun Δ => (s Δ).bind fun d => ofO (truO d)
theorem t_truth (he : ∀ whole, isTrue a X.env whole = (do let v ← whole; standAt a.pos; holding [v] (truthy v))) (h : IV γ X a s) : IT γ X a (tT s) := .mk fun b u M0 Δ Δr M n k S w => te_truth he (h.go b u M0 Δ Δr M n _ S ((wpB_bind.1 w).mono fun d n1 w1 M1 dr A1 V1 => by
  obtain ⟨c, h1, h2⟩ := wpB_ofO w1
  exact ⟨c, tru_vw h1 V1, h2 M1 A1⟩))
def tNot (s : SB) : SB := fun Δ => (s Δ).bind fun d => .ret (!d)
theorem t_not {s : SB} (h : IT γ X a s) : IT γ X (.UnaryOp .Not a pos) (tNot s) := .mk fun b u M0 Δ Δr M n k S w => te_not (h.go b u M0 Δ Δr M n _ S ((wpB_bind.1 w).mono fun d n1 w1 M1 A1 => w1 M1 A1))
def cNot (s : SE) : SE := fun Δ => (s Δ).bind fun d => (ofO (toB d)).bind fun c => .ret (.bl (!c))
theorem i_not (h : IE γ X a s) : IE γ X (.UnaryOp .Not a pos) (cNot s) := .mk fun b u M0 Δ Δr M n k S w => ev_not (h.go b u M0 Δ Δr M n _ S ((wpB_bind.1 w).mono fun d n1 w1 M1 A1 => by
  obtain ⟨c, h1, h2⟩ := wpB_ofO (wpB_bind.1 w1)
  have h3 := h2 M1 A1
  rw [toB_is h1, rn_bl]
  rw [rn_bl] at h3
  exact ⟨c, rfl, h3⟩))
/-! and, or -/
structure IW (γ : Nat → Addr) (X : Cx) (e : Expr) (s : SB) : Prop where
  go : ∀ b u M0 Δ Δr M n (k : BK), SI γ b u M0 Δ Δr M n → wpB b n (s Δ) (fun d n' => ∀ M', Aft b u M M' n' → k d M') → WeD X e Δr M k
def tAnd (s t : SB) : SB := fun Δ => (s Δ).bind fun c => if c = true then t Δ else .ret false
def tOr (s t : SB) : SB := fun Δ => (s Δ).bind fun c => if c = true then .ret true else t Δ
theorem t_w {s : SB} (h : IW γ X e s) : IT γ X e s := .mk fun b u M0 Δ Δr M n k S w => te_w (h.go b u M0 Δ Δr M n k S w)
theorem w_and1 {s : SB} (h : IT γ X a s) : IW γ X (.BoolOp .And [a] pos) s := .mk fun b u M0 Δ Δr M n k S w => we_and1 (h.go b u M0 Δ Δr M n k S w)
theorem w_or1 {s : SB} (h : IT γ X a s) : IW γ X (.BoolOp .Or [a] pos) s := .mk fun b u M0 Δ Δr M n k S w => we_or1 (h.go b u M0 Δ Δr M n k S w)
theorem w_and {s t : SB} (h : IT γ X a s) (h2 : IW γ X (.BoolOp .And (c :: rest) pos) t) : IW γ X (.BoolOp .And (a :: c :: rest) pos) (tAnd s t) := .mk fun b u M0 Δ Δr M n k S w => we_and (h.go b u M0 Δ Δr M n _ S ((wpB_bind.1 w).mono fun d n1 w1 M1 A1 => by
  cases d with
  | true => exact h2.go b u M0 Δ Δr M1 n1 k (S.aft A1) (w1.mono fun d n2 q M2 A2 => q M2 (A1.trans A2))
  | false => exact w1 M1 A1))
theorem w_or {s t : SB} (h : IT γ X a s) (h2 : IW γ X (.BoolOp .Or (c :: rest) pos) t) : IW γ X (.BoolOp .Or (a :: c :: rest) pos) (tOr s t) := .mk fun b u M0 Δ Δr M n k S w => we_or (h.go b u M0 Δ Δr M n _ S ((wpB_bind.1 w).mono fun d n1 w1 M1 A1 => by
  cases d with
  | false => exact h2.go b u M0 Δ Δr M1 n1 k (S.aft A1) (w1.mono fun d n2 q M2 A2 => q M2 (A1.trans A2))
  | true => exact w1 M1 A1))
def eAnd (s t : SE) : SE := fun Δ => (s Δ).bind fun d => (ofO (toB d)).bind fun c => if c = true then t Δ else .ret (.bl false)
theorem i_b1 {bop} (h : IE γ X a s) : IE γ X (.BoolOp bop [a] pos) s := .mk fun b u M0 Δ Δr M n k S w => ev_one (h.go b u M0 Δ Δr M n k S w)
theorem i_and (h : IE γ X a s) (h2 : IE γ X (.BoolOp .And (c :: rest) pos) t) : IE γ X (.BoolOp .And (a :: c :: rest) pos) (eAnd s t) := .mk fun b u M0 Δ Δr M n k S w => ev_and (h.go b u M0 Δ Δr M n _ S ((wpB_bind.1 w).mono fun d n1 w1 M1 A1 => by
  obtain ⟨z, h1, w2⟩ := wpB_ofO (wpB_bind.1 w1)
  rw [toB_is h1, rn_bl]
  refine ⟨z, rfl, ?_⟩
  cases z with
  | true => exact h2.go b u M0 Δ Δr M1 n1 k (S.aft A1) (w2.mono fun d n2 q M2 A2 => q M2 (A1.trans A2))
  | false =>
    have w3 := w2 M1 A1
    rw [rn_bl] at w3
    exact w3))
def eOr (s t : SE) : SE := fun Δ => (s Δ).bind fun d => (ofO (truO d)).bind fun c => if c = true then .ret d else t Δ
theorem i_or (h : IE γ X a s) (h2 : IE γ X (.BoolOp .Or (c :: rest) pos) t) : IE γ X (.BoolOp .Or (a :: c :: rest) pos) (eOr s t) := .mk fun b u M0 Δ Δr M n k S w => ev_orT (h.go b u M0 Δ Δr M n _ S ((wpB_bind.1 w).mono fun d n1 w1 M1 A1 => by
  obtain ⟨z, h1, w2⟩ := wpB_ofO (wpB_bind.1 w1)
  refine ⟨z, tru_vw (b := b) h1 (.inl rfl), ?_⟩
  cases z with
  | false => exact h2.go b u M0 Δ Δr M1 n1 k (S.aft A1) (w2.mono fun d n2 q M2 A2 => q M2 (A1.trans A2))
  | true => exact w2 M1 A1))
def cIf (t : SB) (s r : SE) : SE := fun Δ => (t Δ).bind fun c => if c = true then s Δ else r Δ
theorem i_if {g : Expr} {tb : SB} (h : IT γ X g tb) (ha : IE γ X a s) (hc : IE γ X c t) : IE γ X (.IfExp g a c pos) (cIf tb s t) := .mk fun b u M0 Δ Δr M n k S w => ev_if (h.go b u M0 Δ Δr M n _ S ((wpB_bind.1 w).mono fun d n1 w1 M1 A1 => by
  cases d with
  | true => exact ha.go b u M0 Δ Δr M1 n1 k (S.aft A1) (w1.mono fun d n2 q M2 A2 => q M2 (A1.trans A2))
  | false => exact hc.go b u M0 Δ Δr M1 n1 k (S.aft A1) (w1.mono fun d n2 q M2 A2 => q M2 (A1.trans A2))))
/-! ### rows -/
def aN : SA := fun _ => .ret []
def aC (s : SE) (t : SA) : SA := fun Δ => (s Δ).bind fun d => (t Δ).bind fun ds => .ret (d :: ds)
theorem a_nil : IA γ X [] aN := .mk fun b u M0 Δ Δr M n k S w => by
  have w := w M S.here
  unfold rnL at w
  exact ea_nil w
theorem a_cons {t : SA} (h : IE γ X e s) (ht : IA γ X es t) (hs : starEach (e :: es) X.env = (false, eval e X.env) :: starEach es X.env := by rfl) : IA γ X (e :: es) (aC s t) := .mk fun b u M0 Δ Δr M n k S w => ea_cons (h.go b u M0 Δ Δr M n _ S ((wpB_bind.1 w).mono fun d n1 w1 M1 A1 => ht.go b u M0 Δ Δr M1 n1 _ (S.aft A1) ((wpB_bind.1 w1).mono fun ds n2 w2 M2 A2 => by
  have w3 := w2 M2 (A1.trans A2)
  unfold rnL at w3
  exact w3))) hs
def cTup (s : SA) : SE := fun Δ => (s Δ).bind fun ds => if ds.length ≤ lim then .ret (.tup ds) else .fail
theorem i_tup {s : SA} {x1} (h : IA γ X es s) : IE γ X (.Tuple es x1 pos) (cTup s) := .mk fun b u M0 Δ Δr M n k S w => ev_tup (h.go b u M0 Δ Δr M n _ S ((wpB_bind.1 w).mono fun ds n1 w1 M1 A1 => by
  split at w1
  · rename_i l
    have w2 := w1 M1 A1
    rw [rn_tup] at w2
    exact ⟨by rw [lim_eq, rnL_len]; exact l, w2⟩
  · exact w1.elim))
def aL (s : SA) : SA := fun Δ => (s Δ).bind fun ds => if ds.length ≤ lim then .ret ds else .fail
theorem l_lst {s : SA} (h : IA γ X es s) : IL γ X (.List es pos) (aL s) := .mk fun b u M0 Δ Δr M n k S w => el_lst (h.go b u M0 Δ Δr M n _ S ((wpB_bind.1 w).mono fun ds n1 w1 M1 A1 => by
  split at w1
  · rename_i l
    exact ⟨by rw [lim_eq, rnL_len]; exact l, w1 M1 A1⟩
  · exact w1.elim))
def cL (s : SA) : SE := fun Δ => (s Δ).bind fun ds => .ret (.lst ds)
theorem IL.frz {s : SA} (h : IL γ X e s) : IE γ X e (cL s) := .mk fun b u M0 Δ Δr M n k S w => EvL.frz (h.go b u M0 Δ Δr M n _ S ((wpB_bind.1 w).mono fun ds n1 w1 M1 A1 => by
  have w2 := w1 M1 A1
  rw [rn_lst] at w2
  exact w2))
/-! items and slices -/
theorem i_ix (hs : PlainIx c) (ha : IV γ X a s) (hc : IE γ X c t) : IE γ X (.Subscript a c pos) (c2 ixO s t) := i_twoV (fun _ _ _ h => ev_ix hs h) ix_ok ha hc
theorem i_sl00 {p2 : Pos} (ha : IV γ X a s) : IE γ X (.Subscript a (.Slice none none none p2) pos) (cSl0 s) := i_oneV (fun _ _ _ h => ev_sl00 h) (fun ρ b x xr d M k e v h => sl_ok e v h) ha
theorem i_sl10 {p2 : Pos} (ha : IV γ X a s) (hc : IE γ X c t) : IE γ X (.Subscript a (.Slice (some c) none none p2) pos) (c2 sl10 s t) := i_twoV (fun _ _ _ h => ev_sl10 h) (fun ρ b x xr y d M k e v h => by
  obtain ⟨i, h1, h2⟩ := Option.bind_eq_some_iff.mp e
  rw [intOf_is h1, rn_int]
  exact ⟨i, rfl, sl_ok h2 v h⟩) ha hc
theorem i_sl01 {p2 : Pos} (ha : IV γ X a s) (hc : IE γ X c t) : IE γ X (.Subscript a (.Slice none (some c) none p2) pos) (c2 sl01 s t) := i_twoV (fun _ _ _ h => ev_sl01 h) (fun ρ b x xr y d M k e v h => by
  obtain ⟨i, h1, h2⟩ := Option.bind_eq_some_iff.mp e
  rw [intOf_is h1, rn_int]
  exact ⟨i, rfl, sl_ok h2 v h⟩) ha hc
def cSl (a c d : SE) : SE := fun Δ => (a Δ).bind fun x => (c Δ).bind fun y => (ofO (intOf y)).bind fun i => (d Δ).bind fun z => (ofO (intOf z)).bind fun j => ofO (slO x (some i) (some j))
theorem i_sl11 {g : Expr} {r : SE} {p2 : Pos} (ha : IV γ X a s) (hc : IE γ X c t) (hg : IE γ X g r) : IE γ X (.Subscript a (.Slice (some c) (some g) none p2) pos) (cSl s t r) := .mk fun b u M0 Δ Δr M n k S w => by
  refine ev_sl11 (ha.go b u M0 Δ Δr M n _ S ((wpB_bind.1 w).mono fun x n1 w1 M1 xr A1 V1 => hc.go b u M0 Δ Δr M1 n1 _ (S.aft A1) ((wpB_bind.1 w1).mono fun y n2 w2 M2 A2 => ?_)))
  obtain ⟨i, h1, w3⟩ := wpB_ofO (wpB_bind.1 w2)
  rw [intOf_is h1, rn_int]
  have A12 := A1.trans A2
  refine ⟨i, rfl, hg.go b u M0 Δ Δr M2 n2 _ (S.aft A12) ((wpB_bind.1 w3).mono fun z n3 w4 M3 A3 => ?_)⟩
  obtain ⟨j, h2, w5⟩ := wpB_ofO (wpB_bind.1 w4)
  obtain ⟨d, h3, h4⟩ := wpB_ofO w5
  rw [intOf_is h2, rn_int]
  exact ⟨j, rfl, sl_ok h3 ((V1.keep A2.keep).keep A3.keep) (h4 M3 (A12.trans A3))⟩
/-- x[::-1] -/
def revO : D → Option D
  | .tup ds => some (.tup ds.reverse)
  | _ => none
theorem i_revT {j : Nat} {p1 p2 p3 : Pos} (ha : IE γ X a s) : IE γ X (.Subscript a (.Slice none none (some (.UnaryOp .USub (.Constant (.int 1) j p1) p2)) p3) pos) (c1 revO s) := i_one (fun _ _ _ h => ev_revT h) (fun ρ x d M k e h => by
  unfold revO at e
  split at e
  · cases e
    rw [rn_tup, rnL_map, List.map_reverse] at h
    rw [rn_tup, rnL_map]
    exact ⟨_, rfl, h⟩
  · cases e) ha
def aRev (s : SE) : SA := fun Δ => (s Δ).bind fun d => (ofO (lsV d)).bind fun ds => .ret ds.reverse
theorem l_rev {j : Nat} {p1 p2 p3 : Pos} (ha : IV γ X a s) : IL γ X (.Subscript a (.Slice none none (some (.UnaryOp .USub (.Constant (.int 1) j p1) p2)) p3) pos) (aRev s) := .mk fun b u M0 Δ Δr M n k S w => el_rev (ha.go b u M0 Δ Δr M n _ S ((wpB_bind.1 w).mono fun d n1 w1 M1 dr A1 V1 => by
  obtain ⟨ds, h1, h2⟩ := wpB_ofO (wpB_bind.1 w1)
  have h3 := h2 M1 A1
  rw [rnL_map, List.map_reverse, ← rnL_map] at h3
  exact ⟨_, vw_ls h1 V1, h3⟩))
end
end DL
end
section
set_option Elab.async false
set_option linter.all false
set_option maxRecDepth 100000
namespace DL
open PySem L2 PyProof.Rows
/-! ### sorting -/
def insI (x : Int) : List Int → List Int
  | [] => [x]
  | y :: r => if x ≤ y then x :: y :: r else y :: insI x r
def sortI : List Int → List Int
  | [] => []
  | x :: r => insI x (sortI r)
theorem insI_perm (x : Int) : ∀ l : List Int, (insI x l).Perm (x :: l)
  | [] => .refl _
  | y :: r => by
    unfold insI
    split
    · exact .refl _
    · exact ((insI_perm x r).cons y).trans (.swap x y r)
theorem sortI_perm : ∀ l : List Int, (sortI l).Perm l
  | [] => .refl _
  | x :: r => (insI_perm x _).trans ((sortI_perm r).cons x)
theorem insI_pw (x : Int) : ∀ {l : List Int}, l.Pairwise (· ≤ ·) → (insI x l).Pairwise (· ≤ ·)
  | [], _ => List.pairwise_singleton _ _
  | y :: r, h => by
    unfold insI
    obtain ⟨h1, h2⟩ := List.pairwise_cons.mp h
    split
    · rename_i hxy
      refine List.pairwise_cons.mpr ⟨fun z hz => ?_, h⟩
      rcases List.mem_cons.mp hz with e | hz
      · rw [e]; exact hxy
      · exact Int.le_trans hxy (h1 z hz)
    · rename_i hxy
      refine List.pairwise_cons.mpr ⟨fun z hz => ?_, insI_pw x h2⟩
      rcases List.mem_cons.mp ((insI_perm x r).mem_iff.mp hz) with e | hz
      · rw [e]; omega
      · exact h1 z hz
theorem sortI_pw : ∀ l : List Int, (sortI l).Pairwise (· ≤ ·)
  | [] => List.Pairwise.nil
  | x :: r => insI_pw x (sortI_pw r)
theorem sortI_of {ms ns : List Int} (hp : ms.Perm ns) (hw : ms.Pairwise (· ≤ ·)) : ms = sortI ns :=
  List.Perm.eq_of_pairwise (fun a b _ _ h1 h2 => Int.le_antisymm h1 h2) hw (sortI_pw ns) (hp.trans (sortI_perm ns).symm)
/-- texts, with those that come again -/
def insT (x : Str) : List Str → List Str
  | [] => [x]
  | y :: r => if lts y x = true then y :: insT x r else x :: y :: r
def sortT : List Str → List Str
  | [] => []
  | x :: r => insT x (sortT r)
theorem insT_perm (x : Str) : ∀ l : List Str, (insT x l).Perm (x :: l)
  | [] => .refl _
  | y :: r => by
    unfold insT
    split
    · exact ((insT_perm x r).cons y).trans (.swap x y r)
    · exact .refl _
theorem sortT_perm : ∀ l : List Str, (sortT l).Perm l
  | [] => .refl _
  | x :: r => (insT_perm x _).trans ((sortT_perm r).cons x)
theorem nlt_trans {x y z : Str} (h : lts y x = false) (g : lts z y = false) : lts z x = false := by
  cases c : lts z x with
  | false => rfl
  | true =>
    cases c2 : lts y z with
    | true => rw [lts_trans c2 c] at h; cases h
    | false =>
      have e := lts_tri g c2
      subst e
      rw [c] at h
      cases h
theorem lt_asym {x y : Str} (h : lts x y = true) : lts y x = false := by
  cases c : lts y x with
  | false => rfl
  | true =>
    have := lts_trans h c
    rw [lts_irr] at this
    cases this
theorem insT_pw (x : Str) : ∀ {l : List Str}, l.Pairwise (fun a b => lts b a = false) → (insT x l).Pairwise fun a b => lts b a = false
  | [], _ => List.pairwise_singleton _ _
  | y :: r, h => by
    unfold insT
    obtain ⟨h1, h2⟩ := List.pairwise_cons.mp h
    split
    · rename_i hxy
      refine List.pairwise_cons.mpr ⟨fun z hz => ?_, insT_pw x h2⟩
      rcases List.mem_cons.mp ((insT_perm x r).mem_iff.mp hz) with e | hz
      · rw [e]; exact lt_asym hxy
      · exact h1 z hz
    · rename_i hxy
      have hxy' : lts y x = false := by simpa using hxy
      refine List.pairwise_cons.mpr ⟨fun z hz => ?_, h⟩
      rcases List.mem_cons.mp hz with e | hz
      · rw [e]; exact hxy'
      · exact nlt_trans hxy' (h1 z hz)
theorem sortT_pw : ∀ l : List Str, (sortT l).Pairwise fun a b => lts b a = false
  | [] => List.Pairwise.nil
  | x :: r => insT_pw x (sortT_pw r)
theorem sortT_of {ms ns : List Str} (hp : ms.Perm ns) (hw : sortedS ms = true) : ms = sortT ns :=
  List.Perm.eq_of_pairwise (le := fun a b => lts b a = false) (fun a b _ _ h1 h2 => lts_tri h2 h1) (sorted_pair hw) (sortT_pw ns) (hp.trans (sortT_perm ns).symm)
section
variable {γ : Nat → Addr} {X : Cx} {a c e e2 tg : Expr} {es rest : List Expr} {pos p : Pos} {x : Str} {op : CmpOp} {s t : SE}
/-! ### built-ins -/
theorem i_len (hg : Gl X "len") (hm : X.mg "len" = none) (h : IV γ X e s) (hs : starEach [e] X.env = [(false, eval e X.env)] := by rfl) : IE γ X (.Call (.Name "len" p) [e] [] pos) (c1 lenO' s) := i_oneV (fun _ _ _ h => ev_len hg hm h hs) len_ok h
theorem i_abs (hg : Gl X "abs") (hm : X.mg "abs" = none) (h : IE γ X e s) (hs : starEach [e] X.env = [(false, eval e X.env)] := by rfl) : IE γ X (.Call (.Name "abs" p) [e] [] pos) (c1 absO s) := i_one (fun _ _ _ h => ev_abs hg hm h hs) abs_ok h
theorem i_intc (hg : Gl X "int") (hm : X.mg "int" = none) (h : IE γ X e s) (hs : starEach [e] X.env = [(false, eval e X.env)] := by rfl) : IE γ X (.Call (.Name "int" p) [e] [] pos) (c1 intO s) := i_one (fun _ _ _ h => ev_intc hg hm h hs) int_ok h
theorem i_sum (hc : X.calm = true) (hg : Gl X "sum") (hm : X.mg "sum" = none) (h : IV γ X e s) (hs : starEach [e] X.env = [(false, eval e X.env)] := by rfl) : IE γ X (.Call (.Name "sum" p) [e] [] pos) (c1 sumO s) := i_oneV (fun _ _ _ h => ev_sum hc hg hm h hs) sum_ok h
theorem i_all (hc : X.calm = true) (hg : Gl X "all") (hm : X.mg "all" = none) (h : IV γ X e s) (hs : starEach [e] X.env = [(false, eval e X.env)] := by rfl) : IE γ X (.Call (.Name "all" p) [e] [] pos) (c1 allO s) := i_oneV (fun _ _ _ h => ev_all hc hg hm h hs) all_ok h
theorem i_any (hc : X.calm = true) (hg : Gl X "any") (hm : X.mg "any" = none) (h : IV γ X e s) (hs : starEach [e] X.env = [(false, eval e X.env)] := by rfl) : IE γ X (.Call (.Name "any" p) [e] [] pos) (c1 anyO s) := i_oneV (fun _ _ _ h => ev_any hc hg hm h hs) any_ok h
theorem i_max2 (hc : X.calm = true) (hg : Gl X "max") (hm : X.mg "max" = none) (h : IE γ X e s) (h2 : IE γ X e2 t) (hs : starEach [e, e2] X.env = (false, eval e X.env) :: starEach [e2] X.env := by rfl) (hs2 : starEach [e2] X.env = [(false, eval e2 X.env)] := by rfl) (hpl : (backTo pos (starEach [e2] X.env)).any (·.1) = false := by rfl) : IE γ X (.Call (.Name "max" p) [e, e2] [] pos) (c2 maxO s t) := i_two (fun _ _ _ h => ev_max2 hc hg hm h hs hs2 hpl) max_ok h h2
theorem i_min2 (hc : X.calm = true) (hg : Gl X "min") (hm : X.mg "min" = none) (h : IE γ X e s) (h2 : IE γ X e2 t) (hs : starEach [e, e2] X.env = (false, eval e X.env) :: starEach [e2] X.env := by rfl) (hs2 : starEach [e2] X.env = [(false, eval e2 X.env)] := by rfl) (hpl : (backTo pos (starEach [e2] X.env)).any (·.1) = false := by rfl) : IE γ X (.Call (.Name "min" p) [e, e2] [] pos) (c2 minO s t) := i_two (fun _ _ _ h => ev_min2 hc hg hm h hs hs2 hpl) min_ok h h2
/-- sorted: of ints, of texts -/
def srtO (ds : List D) : Option (List D) := match unI ds with
  | some ns => some ((sortI ns).map D.int)
  | none => (unS ds).bind fun xs => if xs.length < 64 then some ((sortT xs).map D.str) else none
def aSort (s : SE) : SA := fun Δ => (s Δ).bind fun d => ofO ((lsV d).bind srtO)
theorem l_sorted (hg : Gl X "sorted") (hm : X.mg "sorted" = none) (h : IV γ X e s) (hs : starEach [e] X.env = [(false, eval e X.env)] := by rfl) : IL γ X (.Call (.Name "sorted" p) [e] [] pos) (aSort s) := .mk fun b u M0 Δ Δr M n k S w => by
  refine el_callB (cr_sortedI.or cr_sortedS) hg hm (by decide +kernel) (by decide) (by decide) hs rfl (one1 (h.go b u M0 Δ Δr M n _ S ((wpB_bind.1 w).mono fun d n1 w1 M1 dr A1 V1 => ?_)) hs)
  obtain ⟨rs, h1, h2⟩ := wpB_ofO w1
  obtain ⟨ds, h3, h4⟩ := Option.bind_eq_some_iff.mp h1
  have hk := h2 M1 A1
  have hl := vw_ls h3 V1
  refine fun F0 M0' H0 F H vs Q st ok i post => ?_
  obtain ⟨v, rfl, iv⟩ := isL1 i
  unfold srtO at h4
  split at h4
  · rename_i ns hn
    cases h4
    rw [rn_ints] at hk
    rw [unI_eq hn, rn_ints] at hl
    obtain ⟨q, ws, rfl, hq, il⟩ := ls_of ok hl iv
    rw [(IsL.ints ns).1 il] at hq
    refine .inl ⟨q, ns, rfl, hq, fun ms r hp hw hr => ?_⟩
    rw [sortI_of hp hw]
    exact post.new st ok hk hr ((IsL.ints _).2 rfl)
  · obtain ⟨xs, hx, h5⟩ := Option.bind_eq_some_iff.mp h4
    split at h5
    · rename_i h64
      cases h5
      rw [rn_strs] at hk
      rw [unS_eq hx, rn_strs] at hl
      obtain ⟨q, ws, rfl, hq, il⟩ := ls_of ok hl iv
      rw [(IsL.strs xs).1 il] at hq
      refine .inr ⟨q, xs, rfl, hq, h64, fun ms r hp hw hr => ?_⟩
      rw [sortT_of hp hw]
      exact post.new st ok hk hr ((IsL.strs _).2 rfl)
    · cases h5
/-- sorted(set(..)) of texts -/
def aSoSet (s : SE) : SA := fun Δ => (s Δ).bind fun d => ofO ((seqV d).bind fun ds => (unS ds).bind fun xs => if xs.length < 4000 then some ((ss xs).map D.str) else none)
theorem l_sortSet {p2 q : Pos} (hc : X.calm = true) (hg : Gl X "sorted") (hm : X.mg "sorted" = none) (hg2 : Gl X "set") (hm2 : X.mg "set" = none) (h : IV γ X a s)
    (na : starEach [a] X.env = (false, eval a X.env) :: starEach [] X.env := by rfl) (nb : starEach [.Call (.Name "set" p2) [a] [] q] X.env = (false, eval (.Call (.Name "set" p2) [a] [] q) X.env) :: starEach [] X.env := by rfl) :
    IL γ X (.Call (.Name "sorted" p) [.Call (.Name "set" p2) [a] [] q] [] pos) (aSoSet s) := .mk fun b u M0 Δ Δr M n k S w => by
  refine el_sortSet hc hg hm hg2 hm2 (h.go b u M0 Δ Δr M n _ S ((wpB_bind.1 w).mono fun d n1 w1 M1 dr A1 V1 => ?_)) na nb
  obtain ⟨rs, h1, h2⟩ := wpB_ofO w1
  obtain ⟨ds, h3, h4⟩ := Option.bind_eq_some_iff.mp h1
  obtain ⟨xs, hx, h5⟩ := Option.bind_eq_some_iff.mp h4
  split at h5
  · rename_i hl
    cases h5
    have hk := h2 M1 A1
    rw [rn_strs] at hk
    refine ⟨xs, by rw [vw_seq h3 V1, unS_eq hx, rn_strs], hl, fun ys hs nd hz => ?_⟩
    rw [ss_of hs nd hz]
    exact hk
  · cases h5
/-- list(x), tuple(x) -/
def itemsV : D → Option (List D)
  | .str z => if z.cps.size ≤ lim then some (signs z) else none
  | d => seqV d
def aList (s : SE) : SA := fun Δ => (s Δ).bind fun d => ofO (itemsV d)
theorem rn_signs {ρ : Nat → Addr} (z : Str) : rnL ρ (signs z) = signs z := by
  unfold signs
  rw [rnL_map, List.map_map]
  exact List.map_congr_left fun i _ => rn_str _
theorem l_list (hc : X.calm = true) (hg : Gl X "list") (hm : X.mg "list" = none) (h : IV γ X e s) (hs : starEach [e] X.env = [(false, eval e X.env)] := by rfl) : IL γ X (.Call (.Name "list" p) [e] [] pos) (aList s) := .mk fun b u M0 Δ Δr M n k S w => by
  refine el_callT (call_list_of.or (cr_listS hc)) hg hm (by decide +kernel) (by decide) (by decide) hs rfl (one1 (h.go b u M0 Δ Δr M n _ S ((wpB_bind.1 w).mono fun d n1 w1 M1 dr A1 V1 => ?_)) hs)
  obtain ⟨ds, h1, h2⟩ := wpB_ofO w1
  have hk := h2 M1 A1
  refine fun F0 M0' H0 F H vs Q st ok i post => ?_
  obtain ⟨v, rfl, iv⟩ := isL1 i
  unfold itemsV at h1
  split at h1
  · split at h1
    · rename_i z hz
      cases h1
      rw [rn_signs] at hk
      rcases V1 with rfl | ⟨q, es, _, e2, _⟩
      · rw [rn_str] at iv
        rw [is_str.1 iv]
        exact .inr ⟨z, rfl, by rw [lim_eq]; exact hz, fun vs l il hl => post.new st ok hk hl (il _ _)⟩
      · cases e2
    · cases h1
  · obtain ⟨q, ws, rfl, hq, hl⟩ := seq_of ok (vw_seq h1 V1) iv
    exact .inl ⟨q, ws, rfl, hq, fun t ht => post.new st ok hk ht hl⟩
def tupO (d : D) : Option D := (itemsV d).map D.tup
theorem i_tuple (hc : X.calm = true) (hg : Gl X "tuple") (hm : X.mg "tuple" = none) (h : IV γ X e s) (hs : starEach [e] X.env = [(false, eval e X.env)] := by rfl) : IE γ X (.Call (.Name "tuple" p) [e] [] pos) (c1 tupO s) := .mk fun b u M0 Δ Δr M n k S w => by
  refine ev_callT (call_tuple_of.or (cr_tupleS hc)) hg hm (by decide +kernel) (by decide) (by decide) hs rfl (one1 (h.go b u M0 Δ Δr M n _ S ((wpB_bind.1 w).mono fun d n1 w1 M1 dr A1 V1 => ?_)) hs)
  obtain ⟨d2, h1, h2⟩ := wpB_ofO w1
  obtain ⟨ds, h3, h4⟩ := Option.map_eq_some_iff.mp h1
  subst h4
  have hk := h2 M1 A1
  rw [rn_tup] at hk
  refine fun F H vs Q ok i post => ?_
  obtain ⟨v, rfl, iv⟩ := isL1 i
  unfold itemsV at h3
  split at h3
  · split at h3
    · rename_i z hz
      cases h3
      rw [rn_signs] at hk
      rcases V1 with rfl | ⟨q, es, _, e2, _⟩
      · rw [rn_str] at iv
        rw [is_str.1 iv]
        refine .inr ⟨z, rfl, by rw [lim_eq]; exact hz, fun vs l il hl => ?_⟩
        have nw := ok.new (o := .tup vs) hl
        exact post _ M1 _ _ _ hk nw.2 nw.1 (is_tup.2 ⟨l, vs, rfl, .inl upd_same, il _ _⟩)
      · cases e2
    · cases h3
  · cases ht : tupOf dr with
    | some es =>
      have e := tupOf_is ht
      subst e
      have := vw_seq h3 V1
      cases (show some es = some (rnL _ ds) from this)
      obtain ⟨q, ws, rfl, hq, hl⟩ := is_tup.1 iv
      exact .inl ⟨q, ws, rfl, .inr ⟨ok.sqT hq, post.here ok hk (is_tup.2 ⟨q, ws, rfl, hq, hl⟩)⟩⟩
    | none =>
      have h2 : lsD M1 dr = some (rnL (rho γ u) ds) := by
        have h1 := vw_seq h3 V1
        unfold seqD at h1
        unfold lsD
        cases dr with
        | tup z => cases ht
        | _ => exact h1
      obtain ⟨q, ws, rfl, hq, hl⟩ := ls_of ok h2 iv
      exact .inl ⟨q, ws, rfl, .inl ⟨hq, fun t ht => post.fresh ok hk ht (tup_new hl (ok.fresh ht).1)⟩⟩
/-- isinstance of built-in kinds -/
theorem tyD_rn {ρ : Nat → Addr} {d : D} {z : String} (h : tyD d = some z) : tyD (rn ρ d) = some z := by
  unfold tyD at h
  split at h <;> first | cases h | skip
  · rw [rn_non]; rfl
  · rw [rn_bl]; rfl
  · rw [rn_int]; rfl
  · rw [rn_str]; rfl
  · rw [rn_tup]; rfl
  · rw [rn_lst]; rfl
def tyOf : D → Option String
  | .ty n => some n
  | _ => none
theorem tyOf_is {d : D} {n : String} (h : tyOf d = some n) : d = .ty n := by
  unfold tyOf at h
  split at h
  · cases h; rfl
  · cases h
def isiO (x y : D) : Option D := (tyD x).bind fun z => (tyOf y).bind fun t => (kt z t).map D.bl
theorem i_isi (hg : Gl X "isinstance") (hm : X.mg "isinstance" = none) (h : IE γ X e s) (h2 : IE γ X e2 t) (hs : starEach [e, e2] X.env = (false, eval e X.env) :: starEach [e2] X.env := by rfl) (hs2 : starEach [e2] X.env = [(false, eval e2 X.env)] := by rfl) (hpl : (backTo pos (starEach [e2] X.env)).any (·.1) = false := by rfl) : IE γ X (.Call (.Name "isinstance" p) [e, e2] [] pos) (c2 isiO s t) :=
  i_two (fun _ _ _ h => ev_isi hg hm h hs hs2 hpl) (fun ρ x y d M k q h => by
    obtain ⟨z, h1, q⟩ := Option.bind_eq_some_iff.mp q
    obtain ⟨n, h2, q⟩ := Option.bind_eq_some_iff.mp q
    obtain ⟨c, h3, rfl⟩ := Option.map_eq_some_iff.mp q
    rw [rn_bl] at h
    rw [tyOf_is h2, rn_ty]
    exact ⟨z, n, c, tyD_rn h1, rfl, h3, h⟩) h h2
def unT : List D → Option (List String)
  | [] => some []
  | .ty n :: r => (unT r).map (n :: ·)
  | _ => none
theorem unT_eq : ∀ {ds : List D} {ns : List String}, unT ds = some ns → ds = ns.map D.ty
  | [], _, h => by cases h; rfl
  | d :: r, ns, h => by
    cases d with
    | ty i =>
      obtain ⟨ms, h1, h2⟩ := Option.map_eq_some_iff.mp (show (unT r).map (i :: ·) = some ns from h)
      subst h2
      rw [unT_eq h1]; rfl
    | _ => cases h
theorem rn_tys {ρ : Nat → Addr} (ns : List String) : rnL ρ (ns.map D.ty) = ns.map D.ty := by
  rw [rnL_map, List.map_map]; exact List.map_congr_left fun i _ => rn_ty i
def cIsiT (s : SE) (t : SA) : SE := fun Δ => (s Δ).bind fun x => (t Δ).bind fun ds => ofO ((tyD x).bind fun z => (unT ds).bind fun ts => if ts.length ≤ 1000 then (ktAny z ts).map D.bl else none)
theorem i_isiT {p2 : Pos} {x1 : Nat} {t : SA} (hg : Gl X "isinstance") (hm : X.mg "isinstance" = none) (h : IE γ X e s) (h2 : IA γ X es t) (hs : starEach [e, .Tuple es x1 p2] X.env = (false, eval e X.env) :: starEach [.Tuple es x1 p2] X.env := by rfl) (hs2 : starEach [.Tuple es x1 p2] X.env = [(false, eval (.Tuple es x1 p2) X.env)] := by rfl) (hpl : (backTo pos (starEach [.Tuple es x1 p2] X.env)).any (·.1) = false := by rfl) : IE γ X (.Call (.Name "isinstance" p) [e, .Tuple es x1 p2] [] pos) (cIsiT s t) := .mk fun b u M0 Δ Δr M n k S w => by
  refine ev_isiT hg hm (h.go b u M0 Δ Δr M n _ S ((wpB_bind.1 w).mono fun d n1 w1 M1 A1 => h2.go b u M0 Δ Δr M1 n1 _ (S.aft A1) ((wpB_bind.1 w1).mono fun ds n2 w2 M2 A2 => ?_))) hs hs2 hpl
  obtain ⟨r, q, hk⟩ := wpB_ofO w2
  obtain ⟨z, h1, q⟩ := Option.bind_eq_some_iff.mp q
  obtain ⟨ts, h3, q⟩ := Option.bind_eq_some_iff.mp q
  split at q
  · rename_i hl
    obtain ⟨c, h4, rfl⟩ := Option.map_eq_some_iff.mp q
    have hk := hk M2 (A1.trans A2)
    rw [rn_bl] at hk
    exact ⟨z, ts, c, tyD_rn h1, by rw [unT_eq h3, rn_tys], Nat.le_trans hl (by rw [lim_eq]; decide), h4, hk⟩
  · cases q
/-- sep.join(texts) -/
def joinO (x y : D) : Option D := (strOf x).bind fun z => (seqV y).bind fun ds => (unS ds).bind fun ys => if (ys.map (·.length)).sum + ys.length * z.length ≤ lim then some (.str (Txt.join z ys)) else none
theorem i_join {o : Expr} {apos : Pos} (h : IE γ X o s) (h2 : IV γ X e t) (hs : starEach [e] X.env = [(false, eval e X.env)] := by rfl) (hbase : attributeBase o "join" X.env (eval o X.env) = eval o X.env := by rfl) (hline : (apos.endLine == pos.line) = true := by rfl) : IE γ X (.Call (.Attribute o "join" apos) [e] [] pos) (c2 joinO s t) := .mk fun b u M0 Δ Δr M n k S w => by
  refine ev_join (h.go b u M0 Δ Δr M n (fun d M1 => ∃ z : Str, d = .str z ∧ EvD X e Δr M1 fun d2 M2 => ∃ ys : List Str, seqD M2 d2 = some (ys.map D.str) ∧ (ys.map (·.length)).sum + ys.length * z.length ≤ 16777216 ∧ k (.str (Txt.join z ys)) M2) S ((wpB_bind.1 w).mono fun d n1 w1 M1 A1 => ?_)) hs hbase hline
  have w1 := wpB_bind.1 w1
  cases hz : strOf d with
  | none =>
    -- the joined text fails: there is no way on
    refine (?_ : False).elim
    have go : ∀ (p : Pg D) (n : Nat), wpB b n p (fun y m => wpB b m (ofO (joinO d y)) fun d n' => ∀ M', Aft b u M M' n' → k (rn (rho γ u) d) M') → False := fun p => by
      induction p with
      | ret y =>
        intro n h
        have h' : wpB b n (ofO (joinO d y)) _ := h
        obtain ⟨r, q, _⟩ := wpB_ofO h'
        unfold joinO at q
        rw [hz] at q
        cases q
      | fail => intro n h; exact h
      | draw low f ih =>
        intro n h
        obtain ⟨_, h2, _, m, _, h5⟩ := h
        exact ih 0 m (h5 0 (Int.le_refl _) h2)
    exact go _ _ w1
  | some z =>
    have e1 : d = .str z := by
      unfold strOf at hz
      split at hz
      · cases hz; rfl
      · cases hz
    subst e1
    rw [rn_str]
    refine ⟨z, rfl, h2.go b u M0 Δ Δr M1 n1 _ (S.aft A1) (w1.mono fun y n2 w2 M2 yr A2 V2 => ?_)⟩
    obtain ⟨r, q, hk⟩ := wpB_ofO w2
    obtain ⟨z', h1, q⟩ := Option.bind_eq_some_iff.mp q
    cases h1
    obtain ⟨ds, h3, q⟩ := Option.bind_eq_some_iff.mp q
    obtain ⟨ys, h4, q⟩ := Option.bind_eq_some_iff.mp q
    split at q
    · rename_i hl
      cases q
      have hk := hk M2 (A1.trans A2)
      rw [rn_str] at hk
      exact ⟨ys, by rw [vw_seq h3 V2, unS_eq h4, rn_strs], hl, hk⟩
    · cases q
/-! ### calls -/
/-- arguments; those with true are only looked at -/
def VwL (ρ : Nat → Addr) (b : Bool) (M : Store) : List Bool → List D → List D → Prop
  | [], ds, drs => drs = rnL ρ ds
  | true :: fl, d :: ds, dr :: drs => Vw ρ b M d dr ∧ VwL ρ b M fl ds drs
  | false :: fl, d :: ds, dr :: drs => dr = rn ρ d ∧ VwL ρ b M fl ds drs
  | _ :: _, _, _ => False
theorem VwL.len {ρ : Nat → Addr} {b : Bool} {M : Store} : ∀ {fl : List Bool} {ds drs : List D}, VwL ρ b M fl ds drs → drs.length = ds.length
  | [], ds, drs, h => by unfold VwL at h; rw [h, rnL_len]
  | true :: fl, d :: ds, dr :: drs, h => by unfold VwL at h; rw [List.length_cons, List.length_cons, VwL.len h.2]
  | false :: fl, d :: ds, dr :: drs, h => by unfold VwL at h; rw [List.length_cons, List.length_cons, VwL.len h.2]
  | true :: _, [], _, h => by unfold VwL at h; exact h.elim
  | false :: _, [], _, h => by unfold VwL at h; exact h.elim
  | true :: _, _ :: _, [], h => by unfold VwL at h; exact h.elim
  | false :: _, _ :: _, [], h => by unfold VwL at h; exact h.elim
theorem VwL.of {ρ : Nat → Addr} {b : Bool} {M : Store} : ∀ {fl : List Bool} {ds : List D}, fl.length ≤ ds.length → VwL ρ b M fl ds (rnL ρ ds)
  | [], ds, _ => by unfold VwL; rfl
  | true :: fl, d :: ds, h => by unfold rnL VwL; exact ⟨.inl rfl, VwL.of (by simpa using h)⟩
  | false :: fl, d :: ds, h => by unfold rnL VwL; exact ⟨rfl, VwL.of (by simpa using h)⟩
  | _ :: _, [], h => by simp at h
def spW (γ : Nat → Addr) (fl : List Bool) (F : List D → Pg D) : SpD := fun drs M k => ∃ b u ds n, VwL (rho γ u) b M fl ds drs ∧ UrnB b M u.1 n ∧ wpB b n (F ds) fun d n' => ∀ M', Aft b u M M' n' → k (rn (rho γ u) d) M'
/-- the arguments of a call -/
structure IAW (γ : Nat → Addr) (X : Cx) (fl : List Bool) (es : List Expr) (s : SA) : Prop where
  go : ∀ b u M0 Δ Δr M n (k : AK), SI γ b u M0 Δ Δr M n → wpB b n (s Δ) (fun ds n' => ∀ M' drs, Aft b u M M' n' → VwL (rho γ u) b M' fl ds drs → k drs M') → EvA X es Δr M k
theorem w_nil {s : SA} (h : IA γ X es s) : IAW γ X [] es s := .mk fun b u M0 Δ Δr M n k S w => h.go b u M0 Δ Δr M n k S (w.mono fun ds m q M' A => q M' _ A (by unfold VwL; rfl))
theorem w_v {fl : List Bool} {t : SA} (h : IE γ X e s) (ht : IAW γ X fl es t) (hs : starEach (e :: es) X.env = (false, eval e X.env) :: starEach es X.env := by rfl) : IAW γ X (false :: fl) (e :: es) (aC s t) := .mk fun b u M0 Δ Δr M n k S w => ea_cons (h.go b u M0 Δ Δr M n _ S ((wpB_bind.1 w).mono fun d n1 w1 M1 A1 => ht.go b u M0 Δ Δr M1 n1 _ (S.aft A1) ((wpB_bind.1 w1).mono fun ds n2 w2 M2 drs A2 V => w2 M2 _ (A1.trans A2) (by unfold VwL; exact ⟨rfl, V⟩)))) hs
theorem w_w {fl : List Bool} {t : SA} (h : IV γ X e s) (ht : IAW γ X fl es t) (hs : starEach (e :: es) X.env = (false, eval e X.env) :: starEach es X.env := by rfl) : IAW γ X (true :: fl) (e :: es) (aC s t) := .mk fun b u M0 Δ Δr M n k S w => ea_cons (h.go b u M0 Δ Δr M n _ S ((wpB_bind.1 w).mono fun d n1 w1 M1 dr A1 V1 => ht.go b u M0 Δ Δr M1 n1 _ (S.aft A1) ((wpB_bind.1 w1).mono fun ds n2 w2 M2 drs A2 V => w2 M2 _ (A1.trans A2) (by unfold VwL; exact ⟨V1.keep A2.keep, V⟩)))) hs
def cCall (F : List D → Pg D) (s : SA) : SE := fun Δ => (s Δ).bind F
theorem i_call {n : Nat} {fl : List Bool} {F : List D → Pg D} {s : SA} (C : Cal X.prog X.w X.K X.mg X.base x n (spW γ fl F)) (hr : Room n X.A) (hg : Gl X x) (h : IAW γ X fl (e :: es) s) (hdb : (x == ("__debug__" : Str)) = false := by decide)
    (he : starEach (e :: es) X.env = (false, eval e X.env) :: starEach es X.env := by rfl) (hpl : (backTo pos (starEach es X.env)).any (·.1) = false := by rfl) : IE γ X (.Call (.Name x p) (e :: es) [] pos) (cCall F s) := .mk fun b u M0 Δ Δr M n k S w =>
  ev_call C hr hg (h.go b u M0 Δ Δr M n _ S ((wpB_bind.1 w).mono fun ds n1 w1 M1 drs A1 V => ⟨b, u, ds, n1, V, A1.urn, w1.mono fun d n2 q M2 A2 => q M2 (A1.trans A2)⟩)) hdb he hpl
theorem i_call0 {n : Nat} {F : List D → Pg D} (C : Cal X.prog X.w X.K X.mg X.base x n (spW γ [] F)) (hr : Room n X.A) (hg : Gl X x) (hdb : (x == ("__debug__" : Str)) = false := by decide) : IE γ X (.Call (.Name x p) [] [] pos) (cCall F aN) := .mk fun b u M0 Δ Δr M n k S w =>
  ev_call0 C hr hg ⟨b, u, [], n, by unfold VwL rnL; rfl, S.urn, w⟩ hdb
/-! x == y, the first a view -/
theorem dp_vw {ρ : Nat → Addr} {b : Bool} {K : PySem.W.Frag} {F H : Hp} {M : Store} {d dr : D} {q : PyData} {v : V} (ok : Ok K F M H) (V1 : Vw ρ b M d dr) (h : toPy d = some q) (i : Is K F dr v) : Dp K H v q := by
  rcases V1 with rfl | ⟨r, ds, rfl, rfl, h2, _⟩
  · exact dp_of ok _ _ _ (toPy_rn h) i
  · unfold toPy at h
    obtain ⟨ps, h3, rfl⟩ := Option.map_eq_some_iff.mp h
    obtain ⟨vs, hH, il⟩ := cell_of ok h2
    rw [is_cell.1 i]
    exact .lst (SqL.of hH) (dpAll_of ok _ _ _ (toPyL_rn h3) il)
theorem k_eqV (hu : X.A.units + 64 < cLine) (ha : IV γ X a s) (hc : IE γ X c t) : IC γ X .Eq a c (c2 (eqQ false) s t) := .mk fun b u M0 Δ Δr M n k S w => by
  refine c_op2 (op_eqD hu) (ha.go b u M0 Δ Δr M n _ S ((wpB_bind.1 w).mono fun y n1 w1 M1 yr A1 V1 => hc.go b u M0 Δ Δr M1 n1 _ (S.aft A1) ((wpB_bind.1 w1).mono fun z n2 w2 M2 A2 => ?_)))
  obtain ⟨d, h1, h2⟩ := wpB_ofO w2
  unfold eqQ at h1
  split at h1
  · rename_i p q hp hq
    split at h1
    · rename_i hs
      cases h1
      have hk := h2 M2 (A1.trans A2)
      rw [rn_bl] at hk
      exact fun F H v v2 Q ok i1 i2 post => ⟨p, q, dp_vw ok (V1.keep A2.keep) hp i1, dp_of ok _ _ _ (toPy_rn hq) i2, hs.1, hs.2, post.here ok hk (is_bl.2 rfl)⟩
    · cases h1
  · cases h1
theorem k_neV (hu : X.A.units + 64 < cLine) (ha : IV γ X a s) (hc : IE γ X c t) : IC γ X .NotEq a c (c2 (eqQ true) s t) := .mk fun b u M0 Δ Δr M n k S w => by
  refine c_op2 (op_neD hu) (ha.go b u M0 Δ Δr M n _ S ((wpB_bind.1 w).mono fun y n1 w1 M1 yr A1 V1 => hc.go b u M0 Δ Δr M1 n1 _ (S.aft A1) ((wpB_bind.1 w1).mono fun z n2 w2 M2 A2 => ?_)))
  obtain ⟨d, h1, h2⟩ := wpB_ofO w2
  unfold eqQ at h1
  split at h1
  · rename_i p q hp hq
    split at h1
    · rename_i hs
      cases h1
      have hk := h2 M2 (A1.trans A2)
      rw [rn_bl] at hk
      exact fun F H v v2 Q ok i1 i2 post => ⟨p, q, dp_vw ok (V1.keep A2.keep) hp i1, dp_of ok _ _ _ (toPy_rn hq) i2, hs.1, hs.2, post.here ok hk (is_bl.2 rfl)⟩
    · cases h1
  · cases h1
end
end DL
end
section
set_option Elab.async false
set_option linter.all false
set_option maxRecDepth 100000
namespace DL
open PySem L2 PyProof.Rows
/-! ### slots set, wiped -/
section
variable {ρ : Nat → Addr} {b : Bool} {M0 M : Store} {Δ : List Sl} {Δr : DS}
theorem set_get {α : Type} {l : List α} {i j : Nat} {x y : α} (h : (l.set i x)[j]? = some y) : (j = i ∧ i < l.length ∧ y = x) ∨ (j ≠ i ∧ l[j]? = some y) := by
  by_cases e : j = i
  · subst e
    have hj : j < l.length := by
      by_cases hj : j < l.length
      · exact hj
      · rw [List.getElem?_eq_none (by rw [List.length_set]; omega)] at h; cases h
    rw [List.getElem?_set_self hj] at h
    exact .inl ⟨rfl, hj, (Option.some.inj h).symm⟩
  · rw [List.getElem?_set_ne (Ne.symm e)] at h
    exact .inr ⟨e, h⟩
theorem Rel.setV (r : Rel ρ an b M0 Δ Δr M) (i : Nat) (d : D) : Rel ρ an b M0 (Δ.set i (.v d)) (Δr.set i (some (rn ρ d))) M := by
  refine ⟨by rw [List.length_set, List.length_set]; exact r.len, fun j c h => ?_, fun j m h => ?_, fun j l m m' q n h1 h2 h3 h4 => ?_, fun j c h => ?_⟩
  · rcases set_get h with ⟨rfl, hi, e⟩ | ⟨hn, h⟩
    · cases e
      exact List.getElem?_set_self (by rw [← r.len]; exact hi)
    · rw [List.getElem?_set_ne (Ne.symm hn)]
      exact r.v j c h
  · rcases set_get h with ⟨rfl, hi, e⟩ | ⟨hn, h⟩
    · cases e
    · rw [List.getElem?_set_ne (Ne.symm hn)]
      exact r.o j m h
  · rcases set_get h1 with ⟨rfl, hi, e⟩ | ⟨hn1, h1⟩
    · cases e
    · rcases set_get h2 with ⟨rfl, hi, e⟩ | ⟨hn2, h2⟩
      · cases e
      · rw [List.getElem?_set_ne (Ne.symm hn1)] at h3
        rw [List.getElem?_set_ne (Ne.symm hn2)] at h4
        exact r.inj j l m m' q n h1 h2 h3 h4
  · rcases set_get h with ⟨rfl, hi, e⟩ | ⟨hn, h⟩
    · cases e
    · rw [List.getElem?_set_ne (Ne.symm hn)]
      exact r.w j c h
theorem Rel.wipe1 (r : Rel ρ an b M0 Δ Δr M) (i : Nat) (z : Option D) : Rel ρ an b M0 (Δ.set i .e) (Δr.set i z) M := by
  refine ⟨by rw [List.length_set, List.length_set]; exact r.len, fun j c h => ?_, fun j m h => ?_, fun j l m m' q n h1 h2 h3 h4 => ?_, fun j c h => ?_⟩
  · rcases set_get h with ⟨rfl, hi, e⟩ | ⟨hn, h⟩
    · cases e
    · rw [List.getElem?_set_ne (Ne.symm hn)]
      exact r.v j c h
  · rcases set_get h with ⟨rfl, hi, e⟩ | ⟨hn, h⟩
    · cases e
    · rw [List.getElem?_set_ne (Ne.symm hn)]
      exact r.o j m h
  · rcases set_get h1 with ⟨rfl, hi, e⟩ | ⟨hn1, h1⟩
    · cases e
    · rcases set_get h2 with ⟨rfl, hi, e⟩ | ⟨hn2, h2⟩
      · cases e
      · rw [List.getElem?_set_ne (Ne.symm hn1)] at h3
        rw [List.getElem?_set_ne (Ne.symm hn2)] at h4
        exact r.inj j l m m' q n h1 h2 h3 h4
  · rcases set_get h with ⟨rfl, hi, e⟩ | ⟨hn, h⟩
    · cases e
    · rw [List.getElem?_set_ne (Ne.symm hn)]
      exact r.w j c h
end
def wipeS (Δ : List Sl) : List Nat → List Sl
  | [] => Δ
  | v :: vs => (wipeS Δ vs).set v .e
theorem Rel.wipe {ρ : Nat → Addr} {b : Bool} {M0 M : Store} {Δ : List Sl} {Δr : DS} (r : Rel ρ an b M0 Δ Δr M) : ∀ vs : List Nat, Rel ρ an b M0 (wipeS Δ vs) (wipeD Δr vs) M
  | [] => r
  | v :: vs => (r.wipe vs).wipe1 v none
/-! ### targets -/
inductive Tg where
  | nm (i : Nat) | tp (ts : List Tg)
mutual
def tgS : Tg → D → List Sl → Option (List Sl)
  | .nm i, d, Δ => some (Δ.set i (.v d))
  | .tp ts, .tup ds, Δ => tgSs ts ds Δ
  | .tp _, _, _ => none
def tgSs : List Tg → List D → List Sl → Option (List Sl)
  | [], [], Δ => some Δ
  | t :: ts, d :: ds, Δ => (tgS t d Δ).bind fun Δ1 => tgSs ts ds Δ1
  | _, _, _ => none
end
mutual
def tgR : Tg → D → DS → DS
  | .nm i, d, Δ => Δ.set i (some d)
  | .tp ts, .tup ds, Δ => tgRs ts ds Δ
  | .tp _, _, Δ => Δ
def tgRs : List Tg → List D → DS → DS
  | t :: ts, d :: ds, Δ => tgRs ts ds (tgR t d Δ)
  | _, _, Δ => Δ
end
mutual
def fitT : Tg → D → Bool
  | .nm _, _ => true
  | .tp ts, .tup ds => fitTs ts ds
  | .tp _, _ => false
def fitTs : List Tg → List D → Bool
  | [], [] => true
  | t :: ts, d :: ds => fitT t d && fitTs ts ds
  | _, _ => false
end
/-- a target, whatever comes -/
def GT (X : Cx) (tg : Expr) (t : Tg) (sl : List Nat) : Prop := ∀ d Δ, fitT t d = true → GdD X tg d Δ (tgR t d Δ) sl
def GTs (X : Cx) (tgs : List Expr) (ts : List Tg) (sl : List Nat) : Prop := ∀ ds Δ, fitTs ts ds = true → GdsD X tgs ds Δ (tgRs ts ds Δ) sl
theorem fitTs_len : ∀ {ts : List Tg} {ds : List D}, fitTs ts ds = true → ds.length = ts.length
  | [], [], _ => rfl
  | t :: ts, d :: ds, h => by
    unfold fitTs at h
    rw [List.length_cons, List.length_cons, fitTs_len (Bool.and_eq_true_iff.mp h).2]
  | [], _ :: _, h => by unfold fitTs at h; cases h
  | _ :: _, [], h => by unfold fitTs at h; cases h
section
variable {X : Cx} {tg : Expr} {tgs : List Expr} {x : Str} {pos : Pos} {sl sl2 : List Nat} {t : Tg} {ts : List Tg}
theorem g_name {i : Nat} (hN : X.N.Nodup) (hi : X.N[i]? = some x) (hx : Loc X.env.scope x) (hf : X.fn x = true ∨ X.env.scope.names.lookup x = some .local) : GT X (.Name x pos) (.nm i) [i] := fun d Δ _ => by
  unfold tgR
  exact gd_name hN hi hx hf
theorem gs_nil : GTs X [] [] [] := fun ds Δ h => by
  cases ds with
  | nil => unfold tgRs; exact gds_nil
  | cons _ _ => unfold fitTs at h; cases h
theorem gs_cons (h1 : GT X tg t sl) (h2 : GTs X tgs ts sl2) (hs : (assignEach (tg :: tgs) X.env).map (·.2) = assign tg X.env :: (assignEach tgs X.env).map (·.2) := by rfl) : GTs X (tg :: tgs) (t :: ts) (sl ++ sl2) := fun ds Δ h => by
  cases ds with
  | nil => unfold fitTs at h; cases h
  | cons d ds =>
    unfold fitTs at h
    obtain ⟨a, c⟩ := Bool.and_eq_true_iff.mp h
    unfold tgRs
    exact gds_cons (h1 d Δ a) (h2 ds _ c) hs
theorem g_tup {n : Nat} {kt : Nat} (hc : X.calm = true) (h : GTs X tgs ts sl) (hl : ts.length = n) (hn : (assignEach tgs X.env).length = n := by rfl) (hst : (assignEach tgs X.env).findIdx? (·.1) = none := by rfl) : GT X (.Tuple tgs kt pos) (.tp ts) sl := fun d Δ q => by
  cases d with
  | tup ds =>
    unfold fitT at q
    unfold tgR
    exact gd_tup hc (h ds Δ q) (by rw [fitTs_len q]; exact hl) hn hst
  | _ => unfold fitT at q; cases q
end
mutual
theorem tg_rel {ρ : Nat → Addr} {b : Bool} {M0 M : Store} : ∀ {t : Tg} {d : D} {Δ Δ' : List Sl} {Δr : DS}, Rel ρ an b M0 Δ Δr M → tgS t d Δ = some Δ' → fitT t (rn ρ d) = true ∧ Rel ρ an b M0 Δ' (tgR t (rn ρ d) Δr) M
  | .nm i, d, Δ, Δ', Δr, r, h => by
    unfold tgS at h
    cases h
    unfold fitT tgR
    exact ⟨rfl, r.setV i d⟩
  | .tp ts, d, Δ, Δ', Δr, r, h => by
    cases d with
    | tup ds =>
      unfold tgS at h
      rw [rn_tup]
      unfold fitT tgR
      exact tgs_rel r h
    | _ => unfold tgS at h; cases h
theorem tgs_rel {ρ : Nat → Addr} {b : Bool} {M0 M : Store} : ∀ {ts : List Tg} {ds : List D} {Δ Δ' : List Sl} {Δr : DS}, Rel ρ an b M0 Δ Δr M → tgSs ts ds Δ = some Δ' → fitTs ts (rnL ρ ds) = true ∧ Rel ρ an b M0 Δ' (tgRs ts (rnL ρ ds) Δr) M
  | [], [], Δ, Δ', Δr, r, h => by
    unfold tgSs at h
    cases h
    unfold rnL fitTs tgRs
    exact ⟨rfl, r⟩
  | t :: ts, d :: ds, Δ, Δ', Δr, r, h => by
    unfold tgSs at h
    obtain ⟨Δ1, h1, h2⟩ := Option.bind_eq_some_iff.mp h
    obtain ⟨a1, a2⟩ := tg_rel r h1
    obtain ⟨b1, b2⟩ := tgs_rel a2 h2
    unfold rnL fitTs tgRs
    exact ⟨by rw [a1, b1]; rfl, b2⟩
  | [], _ :: _, _, _, _, _, h => by unfold tgSs at h; cases h
  | _ :: _, [], _, _, _, _, h => by unfold tgSs at h; cases h
end
/-! ### what is gone through -/
section
variable {γ : Nat → Addr} {X : Cx} {a c e e2 tg : Expr} {es rest elts : List Expr} {pos p tpos : Pos} {x : Str} {s t : SE} {kk : Nat}
/-- a list, a tuple, a text -/
def iAny (K : PySem.W.Frag) (te : TE) : TI := fun σ H R => te σ H fun v H1 => (∃ l, v = .ref l ∧ (∃ xs, SqL K H1 l xs) ∧ R (Itl K l) H1) ∨ (∃ l, v = .ref l ∧ (∃ xs, SqT K H1 l xs) ∧ R (Itt K l) H1) ∨ ∃ z, v = .str z ∧ R (Its z) H1
theorem pi_dyn {te : TE} (he : PE X e te) : PI X tg e (iAny X.K te) := by
  constructor
  intro pins s σ H R I h
  refine thn (he.run pins s σ H _ I h) ?_
  rintro v s1 ⟨w, H1, I1, r1, q1⟩
  rcases q1 with ⟨l, rfl, ⟨xs, hq⟩, q⟩ | ⟨l, rfl, ⟨xs, hq⟩, q⟩ | ⟨z, rfl, q⟩
  · cases r1
    obtain ⟨its, rv, pl, _⟩ := I1.list hq
    refine wpAny_pyIter_list pl.isList ⟨_, [_], _, _, H1, rfl, I1.kept (t' := s1.toks) (fun b o e => Heap.get?_push_of_some _ e), turn_list l _, ⟨_, Heap.get?_push_size _ rfl, rfl, rfl⟩, ?_, q⟩
    intro b hb
    obtain rfl : b = s1.heap.objs.size := by simpa using hb
    exact I1.fpOk (Nat.le_refl _) (I1.hok.fresh (Nat.le_refl _))
  · cases r1
    obtain ⟨its, rv, pl, _⟩ := I1.tuple hq
    refine wpAny_pyIter_tuple (show s1.heap.IsTuple l its.toArray from pl) ⟨_, [_], _, _, H1, rfl, I1.kept (t' := s1.toks) (fun b o e => Heap.get?_push_of_some _ e), turn_tuple l _, ⟨_, Heap.get?_push_size _ rfl, rfl, rfl⟩, ?_, q⟩
    intro b hb
    obtain rfl : b = s1.heap.objs.size := by simpa using hb
    exact I1.fpOk (Nat.le_refl _) (I1.hok.fresh (Nat.le_refl _))
  · obtain ⟨t, rfl⟩ := r1
    cases ha : z.cps.all (· < 128) with
    | false => exact wpAny_pyIter_wide ha (pi_one (tk := s1.toks) I1 _ (turn_str _ z t "str_iterator" (.inr rfl)) ⟨_, Heap.get?_push_size _ rfl, rfl, rfl⟩ q)
    | true => exact wpAny_pyIter_ascii ha (pi_one (tk := s1.toks) I1 _ (turn_str _ z t "str_ascii_iterator" (.inl rfl)) ⟨_, Heap.get?_push_size _ rfl, rfl, rfl⟩ q)
def itO : D → Option (List D)
  | .str z => some (signs z)
  | d => seqV d
def aIt (s : SE) : SA := fun Δ => (s Δ).bind fun d => ofO (itO d)
theorem n_any (h : IE γ X e s) : II γ X tg e (aIt s) := .mk fun b u M0 Δ Δr M n k S w F H σ R hS ok post =>
  semI_of (pi_dyn pe_sem) (h.go b u M0 Δ Δr M n (fun d M1 => ∃ ds, ((d = .lst ds ∨ d = .frl ds) ∨ d = .tup ds ∨ ∃ z, d = .str z ∧ ds = signs z) ∧ k ds M1) S ((wpB_bind.1 w).mono fun d n1 w1 M1 A1 => by
    obtain ⟨ds, h1, h2⟩ := wpB_ofO w1
    have hk := h2 M1 A1
    unfold itO at h1
    split at h1
    · cases h1
      rw [rn_signs] at hk
      exact ⟨_, .inr (.inr ⟨_, rn_str _, rfl⟩), hk⟩
    · unfold seqV at h1
      split at h1
      · cases h1; exact ⟨_, .inr (.inl (rn_tup _)), hk⟩
      · cases h1; exact ⟨_, .inl (.inl (rn_lst _)), hk⟩
      · cases h1; exact ⟨_, .inl (.inr (rn_frl _)), hk⟩
      · cases h1) F H σ _ hS ok fun d M1 F1 H1 v ⟨ds, ed, hk⟩ st ok1 i => by
    rcases ed with (rfl | rfl) | rfl | ⟨z, rfl, rfl⟩
    · obtain ⟨q, vs, e, hq, il⟩ := is_lst.1 i
      exact .inl ⟨q, e, ⟨vs, SqL.of (ok1.lst hq)⟩, post ds M1 F1 H1 _ hk st ok1 (rep_list hq il)⟩
    · obtain ⟨q, vs, e, hq, il⟩ := is_frl.1 i
      exact .inl ⟨q, e, ⟨vs, ok1.sqL hq⟩, post ds M1 F1 H1 _ hk st ok1 (rep_frl hq il)⟩
    · obtain ⟨q, vs, e, hq, il⟩ := is_tup.1 i
      exact .inr (.inl ⟨q, e, ⟨vs, ok1.sqT hq⟩, post ds M1 F1 H1 _ hk st ok1 (rep_tup hq il)⟩)
    · exact .inr (.inr ⟨z, is_str.1 i, post _ M1 F1 H1 _ hk st ok1 rep_str⟩))
theorem rn_rng {ρ : Nat → Addr} (lo : Int) (m : Nat) : rnL ρ (rngD lo m) = rngD lo m := by
  unfold rngD
  rw [rnL_map, List.map_map]
  exact List.map_congr_left fun i _ => rn_int _
def inR (j : Int) : Bool := nsm 4611686018427387903 j
theorem inR_is {j : Int} (h : inR j = true) : -(2 ^ 62) ≤ j ∧ j < 2 ^ 62 := by
  have := nsm_is h
  constructor <;> omega
def rg1 (d : D) : Option (List D) := (intOf d).bind fun j => if inR j = true then some (rngD 0 j.toNat) else none
def rg2 (d c : D) : Option (List D) := (intOf d).bind fun i => (intOf c).bind fun j => if inR i = true ∧ inR j = true then some (rngD i (j - i).toNat) else none
def aRg1 (s : SE) : SA := fun Δ => (s Δ).bind fun d => ofO (rg1 d)
def aRg2 (s t : SE) : SA := fun Δ => (s Δ).bind fun d => (t Δ).bind fun c => ofO (rg2 d c)
theorem n_rg1 (hg : Gl X "range") (hm : X.mg "range" = none) (h : IE γ X e s) (hs : starEach [e] X.env = [(false, eval e X.env)] := by rfl) : II γ X tg (.Call (.Name "range" p) [e] [] pos) (aRg1 s) := .mk fun b u M0 Δ Δr M n k S w =>
  it_range1 hg hm (h.go b u M0 Δ Δr M n _ S ((wpB_bind.1 w).mono fun d n1 w1 M1 A1 => by
    obtain ⟨ds, h1, h2⟩ := wpB_ofO w1
    obtain ⟨j, h3, h4⟩ := Option.bind_eq_some_iff.mp h1
    split at h4
    · rename_i hj
      cases h4
      have hk := h2 M1 A1
      rw [rn_rng] at hk
      rw [intOf_is h3, rn_int]
      exact ⟨j, rfl, inR_is hj, hk⟩
    · cases h4)) hs
theorem n_rg2 (hg : Gl X "range") (hm : X.mg "range" = none) (h : IE γ X e s) (h2 : IE γ X e2 t) (hs : starEach [e, e2] X.env = [(false, eval e X.env), (false, eval e2 X.env)] := by rfl) (hs2 : starEach [e2] X.env = [(false, eval e2 X.env)] := by rfl) : II γ X tg (.Call (.Name "range" p) [e, e2] [] pos) (aRg2 s t) := .mk fun b u M0 Δ Δr M n k S w =>
  it_range2 hg hm (h.go b u M0 Δ Δr M n _ S ((wpB_bind.1 w).mono fun d n1 w1 M1 A1 => h2.go b u M0 Δ Δr M1 n1 _ (S.aft A1) ((wpB_bind.1 w1).mono fun c n2 w2 M2 A2 => by
    obtain ⟨ds, h1, h2⟩ := wpB_ofO w2
    obtain ⟨i, h3, h4⟩ := Option.bind_eq_some_iff.mp h1
    obtain ⟨j, h5, h6⟩ := Option.bind_eq_some_iff.mp h4
    split at h6
    · rename_i hj
      cases h6
      have hk := h2 M2 (A1.trans A2)
      rw [rn_rng] at hk
      rw [intOf_is h3, intOf_is h5, rn_int, rn_int]
      exact ⟨i, j, rfl, rfl, ⟨(inR_is hj.1).1, (inR_is hj.1).2, (inR_is hj.2).1, (inR_is hj.2).2⟩, hk⟩
    · cases h6))) hs hs2
theorem rn_enum {ρ : Nat → Addr} (ds : List D) : rnL ρ (enumD ds) = enumD (rnL ρ ds) := by
  unfold enumD
  rw [rnL_map, rnL_map, List.map_map, List.zipIdx_map, List.map_map]
  refine List.map_congr_left fun q _ => ?_
  show rn ρ (.tup [.int (q.2 : Nat), q.1]) = .tup [.int (q.2 : Nat), rn ρ q.1]
  rw [rn_tup]
  unfold rnL
  rw [rn_int]
  unfold rnL
  unfold rnL
  rfl
theorem rn_zip {ρ : Nat → Addr} (ds es : List D) : rnL ρ (zipD ds es) = zipD (rnL ρ ds) (rnL ρ es) := by
  unfold zipD
  rw [rnL_map, rnL_map, rnL_map, List.map_map, List.zip_map, List.map_map]
  refine List.map_congr_left fun q _ => ?_
  show rn ρ (.tup [q.1, q.2]) = .tup [rn ρ q.1, rn ρ q.2]
  rw [rn_tup]
  unfold rnL
  unfold rnL
  unfold rnL
  rfl
def aEnum (s : SE) : SA := fun Δ => (s Δ).bind fun d => ofO ((lsV d).map enumD)
theorem n_enum (hg : Gl X "enumerate") (hm : X.mg "enumerate" = none) (h : IE γ X e s) (hs : starEach [e] X.env = [(false, eval e X.env)] := by rfl) : II γ X (.Tuple elts kk tpos) (.Call (.Name "enumerate" p) [e] [] pos) (aEnum s) := .mk fun b u M0 Δ Δr M n k S w =>
  it_enum hg hm (h.go b u M0 Δ Δr M n _ S ((wpB_bind.1 w).mono fun d n1 w1 M1 A1 => by
    obtain ⟨es, h1, h2⟩ := wpB_ofO w1
    obtain ⟨ds, h3, rfl⟩ := Option.map_eq_some_iff.mp h1
    have hk := h2 M1 A1
    rw [rn_enum] at hk
    refine ⟨rnL _ ds, ?_, hk⟩
    unfold lsV at h3
    split at h3
    · cases h3; exact .inl (rn_lst _)
    · cases h3; exact .inr (rn_frl _)
    · cases h3)) hs
def zip2 : D → D → Option (List D)
  | .lst xs, .lst ys => some (zipD xs ys)
  | .tup xs, .tup ys => some (zipD xs ys)
  | _, _ => none
def aZip (s t : SE) : SA := fun Δ => (s Δ).bind fun d => (t Δ).bind fun c => ofO (zip2 d c)
theorem n_zip (hg : Gl X "zip") (hm : X.mg "zip" = none) (h : IE γ X e s) (h2 : IE γ X e2 t) (hs : starEach [e, e2] X.env = (false, eval e X.env) :: starEach [e2] X.env := by rfl) (hs2 : starEach [e2] X.env = [(false, eval e2 X.env)] := by rfl) (hpl : (backTo pos (starEach [e2] X.env)).any (·.1) = false := by rfl) : II γ X (.Tuple elts kk tpos) (.Call (.Name "zip" p) [e, e2] [] pos) (aZip s t) := .mk fun b u M0 Δ Δr M n k S w =>
  it_zip hg hm (h.go b u M0 Δ Δr M n _ S ((wpB_bind.1 w).mono fun d n1 w1 M1 A1 => h2.go b u M0 Δ Δr M1 n1 _ (S.aft A1) ((wpB_bind.1 w1).mono fun c n2 w2 M2 A2 => by
    obtain ⟨ds, h1, h2⟩ := wpB_ofO w2
    have hk := h2 M2 (A1.trans A2)
    unfold zip2 at h1
    split at h1
    · cases h1
      rw [rn_zip] at hk
      exact ⟨_, _, .inl ⟨rn_lst _, rn_lst _⟩, hk⟩
    · cases h1
      rw [rn_zip] at hk
      exact ⟨_, _, .inr ⟨rn_tup _, rn_tup _⟩, hk⟩
    · cases h1))) hs hs2 hpl
/-! ### list comprehensions -/
structure ITs (γ : Nat → Addr) (X : Cx) (ifs : List Expr) (s : SB) : Prop where
  go : ∀ b u M0 Δ Δr M n (k : BK), SI γ b u M0 Δ Δr M n → wpB b n (s Δ) (fun d n' => ∀ M', Aft b u M M' n' → k d M') → TsD X ifs Δr M k
def tYes : SB := fun _ => .ret true
theorem ts_nil : ITs γ X [] tYes := .mk fun b u M0 Δ Δr M n k S w => w M S.here
theorem ts_one {s : SB} (h : IT γ X e s) : ITs γ X [e] s := .mk fun b u M0 Δ Δr M n k S w => h.go b u M0 Δ Δr M n k S w
def lcP (tg : Tg) (t : SB) (elt : SE) (Δ : List Sl) : List D → Pg (List D)
  | [] => .ret []
  | d :: ds => (ofO (tgS tg d Δ)).bind fun Δ1 => (t Δ1).bind fun c => if c = true then (elt Δ1).bind fun r => (lcP tg t elt Δ ds).bind fun rs => .ret (r :: rs) else lcP tg t elt Δ ds
def aLc (tg : Tg) (vs : List Nat) (it : SA) (t : SB) (elt : SE) : SA := fun Δ => (it Δ).bind fun ds => if ds.length ≤ lim then lcP tg t elt (wipeS Δ vs) ds else .fail
theorem lc_rd {scope : Scope} {elt iter : Expr} {ifs : List Expr} {vs sl : List Nat} {tgt : Tg} {it : SA} {tb : SB} {se : SE} {b : Bool} {u : Addr × Addr} {M0 M : Store} {Δ : List Sl} {Δr : DS} {n : Nat} {ka : AK}
    (hI : II γ X tg iter it) (hsl : ∀ j ∈ sl, j ∈ vs) (hG : ∀ s H C cl fp, GT (Blk X scope s H C cl fp) tg tgt sl) (hT : ∀ s H C cl fp, ITs γ (Blk X scope s H C cl fp) ifs tb) (hE : ∀ s H C cl fp, IE γ (Blk X scope s H C cl fp) elt se)
    (S : SI γ b u M0 Δ Δr M n) (w : wpB b n (aLc tgt vs it tb se Δ) fun ds n' => ∀ M', Aft b u M M' n' → ka (rnL (rho γ u) ds) M') : LcP X scope elt tg iter ifs vs Δr M ka := by
  refine hI.go b u M0 Δ Δr M n _ S ((wpB_bind.1 w).mono fun ds n1 w1 M1 A1 => ?_)
  split at w1
  · rename_i hl
    refine ⟨fun i acc M' => ∃ n', Aft b u M M' n' ∧ acc.length ≤ i ∧ wpB b n' (lcP tgt tb se (wipeS Δ vs) (ds.drop i)) fun rs n2 => ∀ M2, Aft b u M M2 n2 → ka (acc ++ rnL (rho γ u) rs) M2, ⟨n1, A1, Nat.le_refl _, by rw [List.drop_zero]; exact w1⟩, ?_, ?_⟩
    · rintro i d acc M' hd ⟨n', A, hlen, w2⟩
      rw [rnL_get] at hd
      obtain ⟨d0, hd0, rfl⟩ := Option.map_eq_some_iff.mp hd
      have hi := (List.getElem?_eq_some_iff.mp hd0).1
      have hdr : ds.drop i = d0 :: ds.drop (i + 1) := by
        rw [List.drop_eq_getElem_cons hi]
        congr 1
        exact (List.getElem?_eq_some_iff.mp hd0).2
      rw [hdr] at w2
      obtain ⟨Δ1, h1, w3⟩ := wpB_ofO (wpB_bind.1 w2)
      have S2 : Rel (rho γ u) u.2 b M0 (wipeS Δ vs) (wipeD Δr vs) M' := (S.rel.keep A.keep).wipe vs
      obtain ⟨f1, r1⟩ := tg_rel S2 h1
      have S3 : SI γ b u M0 Δ1 (tgR tgt (rn (rho γ u) d0) (wipeD Δr vs)) M' n' := ⟨r1, A.urn, S.k0.trans A.keep⟩
      refine ⟨by rw [lim_eq]; omega, _, sl, hsl, fun s H C cl fp => hG s H C cl fp _ _ f1, (fun c M2 => ∃ n2, Aft b u M' M2 n2 ∧ wpB b n2 (if c = true then (se Δ1).bind fun r => (lcP tgt tb se (wipeS Δ vs) (ds.drop (i + 1))).bind fun rs => .ret (r :: rs) else lcP tgt tb se (wipeS Δ vs) (ds.drop (i + 1))) fun rs n2 => ∀ M2, Aft b u M M2 n2 → ka (acc ++ rnL (rho γ u) rs) M2), fun s H C cl fp => ?_, ?_⟩
      · exact (hT s H C cl fp).go b u M0 Δ1 _ M' n' _ S3 ((wpB_bind.1 w3).mono fun c n2 w4 M2 A2 => ⟨n2, A2, w4⟩)
      · rintro c M2 ⟨n2, A2, w4⟩
        have S4 := S3.aft A2
        cases c with
        | true =>
          rw [if_pos rfl] at w4 ⊢
          refine ⟨fun r M3 => ∃ r0 n3, r = rn (rho γ u) r0 ∧ Aft b u M2 M3 n3 ∧ wpB b n3 ((lcP tgt tb se (wipeS Δ vs) (ds.drop (i + 1))).bind fun rs => .ret (r0 :: rs)) fun rs n2 => ∀ M2, Aft b u M M2 n2 → ka (acc ++ rnL (rho γ u) rs) M2, fun s H C cl fp => ?_, ?_⟩
          · exact (hE s H C cl fp).go b u M0 Δ1 _ M2 n2 _ S4 ((wpB_bind.1 w4).mono fun r n3 w5 M3 A3 => ⟨r, n3, rfl, A3, w5⟩)
          · rintro r M3 ⟨r0, n3, rfl, A3, w5⟩
            refine ⟨n3, (A.trans A2).trans A3, by rw [List.length_append, List.length_singleton]; omega, (wpB_bind.1 w5).mono fun rs n4 w6 M4 A4 => ?_⟩
            have w7 := w6 M4 A4
            unfold rnL at w7
            rw [List.append_assoc]
            exact w7
        | false =>
          rw [if_neg Bool.false_ne_true] at w4 ⊢
          exact ⟨n2, A.trans A2, by omega, w4⟩
    · rintro acc M' ⟨n', A, hlen, w2⟩
      rw [rnL_len, List.drop_length] at w2
      have w3 := w2 M' A
      unfold rnL at w3
      rw [List.append_nil] at w3
      exact w3
  · exact w1.elim
theorem l_lc {scope : Scope} {own : List (Str × Nat)} {elt iter : Expr} {ifs : List Expr} {sl : List Nat} {tgt : Tg} {it : SA} {tb : SB} {se : SE} (hc : X.calm = true) (hN : X.N.Nodup) (ok : BlkOk X.N X.env.scope scope own) (hl : ifs.length ≤ 1) (hI : II γ X tg iter it) (hsl : ∀ j ∈ sl, j ∈ own.map (·.2))
    (hG : ∀ s H C cl fp, GT (Blk X scope s H C cl fp) tg tgt sl) (hT : ∀ s H C cl fp, ITs γ (Blk X scope s H C cl fp) ifs tb) (hE : ∀ s H C cl fp, IE γ (Blk X scope s H C cl fp) elt se)
    (hs : ∀ x, foldedSetIterable iter X.env x = pure x := by intro _; rfl) : IL γ X (.ListComp elt [⟨tg, iter, ifs, 0⟩] scope pos) (aLc tgt (own.map (·.2)) it tb se) := .mk fun b u M0 Δ Δr M n k S w =>
  el_lc hc hN ok hl (lc_rd hI hsl hG hT hE S w) hs
end
end DL
end
section
set_option Elab.async false
set_option linter.all false
set_option maxRecDepth 100000
namespace DL
open PySem L2 PyProof.Rows
/-! ### what stands in a slot -/
def SlIs (ρ : Nat → Addr) (b : Bool) (M0 M M' : Store) : Sl → D → Prop
  | .e, _ => False
  | .v d, dr => dr = rn ρ d
  | .w _, _ => False
  | .o m, dr => ∃ q, dr = .cell q ∧ M q = none ∧ M' q = some (rnM ρ m) ∧ M0 q = none ∧ (b = true → q ≠ ρ 0) ∧ (∀ C fs ds, m ≠ .ins C fs ds)
theorem KeepB.none {b : Bool} {u q : Addr} {M0 M : Store} {n : Nat} (k : KeepB b u M0 M) (U : UrnB b M u n) (h : M q = none) : M0 q = none ∧ (b = true → q ≠ u) := by
  have hq : b = true → q ≠ u := fun hb e => by
    subst e
    exact (U hb).some h
  refine ⟨?_, hq⟩
  cases e : M0 q with
  | none => rfl
  | some m => rw [k q m hq e] at h; cases h
section
variable {ρ : Nat → Addr} {b : Bool} {M0 M M' : Store} {Δ : List Sl} {Δr : DS}
theorem Rel.put (r : Rel ρ an b M0 Δ Δr M) (K : KeepB b (ρ 0) M M') {sl : Sl} {dr : D} (h : SlIs ρ b M0 M M' sl dr) (i : Nat) : Rel ρ an b M0 (Δ.set i sl) (Δr.set i (some dr)) M' := by
  cases sl with
  | e => exact h.elim
  | w d => exact h.elim
  | v d => cases h; exact (r.keep K).setV i d
  | o m =>
    obtain ⟨q, rfl, h1, h2, h3, h4, h5⟩ := h
    refine ⟨by rw [List.length_set, List.length_set]; exact r.len, fun j c h => ?_, fun j m' h => ?_, fun j l m1 m2 q' n g1 g2 g3 g4 => ?_, fun j c h => ?_⟩
    · rcases set_get h with ⟨rfl, hi, e⟩ | ⟨hn, h⟩
      · cases e
      · rw [List.getElem?_set_ne (Ne.symm hn)]
        exact r.v j c h
    · rcases set_get h with ⟨rfl, hi, e⟩ | ⟨hn, h⟩
      · cases e
        exact ⟨q, List.getElem?_set_self (by rw [← r.len]; exact hi), h2, h3, h4, fun C fs ds e => (h5 C fs ds e).elim⟩
      · rw [List.getElem?_set_ne (Ne.symm hn)]
        exact (r.keep K).o j m' h
    · have old : ∀ (j : Nat) (m' : MO), Δ[j]? = some (Sl.o m') → Δr[j]? ≠ some (some (D.cell q)) := fun j m' g e => by
        obtain ⟨q2, e1, e2, _⟩ := r.o j m' g
        rw [e1] at e
        cases e
        rw [h1] at e2
        cases e2
      rcases set_get g1 with ⟨e1, hi, _⟩ | ⟨hn1, h1'⟩
      · subst e1
        rw [List.getElem?_set_self (by rw [← r.len]; exact hi)] at g3
        cases g3
        rcases set_get g2 with ⟨e2, _, _⟩ | ⟨hn2, h2'⟩
        · exact n e2.symm
        · rw [List.getElem?_set_ne (Ne.symm hn2)] at g4
          exact old l m2 h2' g4
      · rw [List.getElem?_set_ne (Ne.symm hn1)] at g3
        rcases set_get g2 with ⟨e2, hi, _⟩ | ⟨hn2, h2'⟩
        · subst e2
          rw [List.getElem?_set_self (by rw [← r.len]; exact hi)] at g4
          cases g4
          exact old j m1 h1' g3
        · rw [List.getElem?_set_ne (Ne.symm hn2)] at g4
          exact r.inj j l m1 m2 q' n h1' h2' g3 g4
    · rcases set_get h with ⟨rfl, hi, e⟩ | ⟨hn, h⟩
      · cases e
      · rw [List.getElem?_set_ne (Ne.symm hn)]
        exact r.w j c h
theorem Rel.upd (r : Rel ρ an b M0 Δ Δr M) {i : Nat} {q : Addr} {m m' : MO} (h : Δ[i]? = some (.o m)) (hq : Δr[i]? = some (some (.cell q))) (hI : ∀ C fs ds, m' = .ins C fs ds → ∃ C' fs' ds', m = .ins C' fs' ds') : Rel ρ an b M0 (Δ.set i (.o m')) Δr (mup M q (rnM ρ m')) := by
  have hi : i < Δ.length := (List.getElem?_eq_some_iff.mp h).1
  refine ⟨by rw [List.length_set]; exact r.len, fun j c g => ?_, fun j m2 g => ?_, fun j l m1 m2 q' n g1 g2 g3 g4 => ?_, fun j c g => ?_⟩
  · rcases set_get g with ⟨rfl, _, e⟩ | ⟨hn, g⟩
    · cases e
    · exact r.v j c g
  · rcases set_get g with ⟨rfl, _, e⟩ | ⟨hn, g⟩
    · cases e
      obtain ⟨q2, e1, e2, e3, e4, e5⟩ := r.o j m h
      rw [hq] at e1
      cases e1
      exact ⟨q, hq, mup_same, e3, e4, fun C fs ds e => by
        obtain ⟨C', fs', ds', z⟩ := hI C fs ds e
        exact e5 C' fs' ds' z⟩
    · obtain ⟨q2, e1, e2, e3, e4, e5⟩ := r.o j m2 g
      have z : q2 ≠ q := fun z => by
        subst z
        exact r.inj i j m m2 q2 (Ne.symm hn) h g hq e1
      exact ⟨q2, e1, by rw [mup_ne z]; exact e2, e3, e4, e5⟩
  · have w : ∀ {j : Nat} {m1 : MO}, (Δ.set i (.o m'))[j]? = some (.o m1) → ∃ m2, Δ[j]? = some (.o m2) := fun {j m1} g => by
      rcases set_get g with ⟨rfl, _, e⟩ | ⟨hn, g⟩
      · exact ⟨m, h⟩
      · exact ⟨m1, g⟩
    obtain ⟨n1, w1⟩ := w g1
    obtain ⟨n2, w2⟩ := w g2
    exact r.inj j l n1 n2 q' n w1 w2 g3 g4
  · rcases set_get g with ⟨rfl, _, e⟩ | ⟨hn, g⟩
    · cases e
    · exact r.w j c g
end
section
variable {γ : Nat → Addr} {b : Bool} {u : Addr × Addr} {M0 M M' : Store} {Δ : List Sl} {Δr : DS} {n n' : Nat}
theorem SI.put (S : SI γ b u M0 Δ Δr M n) (A : Aft b u M M' n') {sl : Sl} {dr : D} (h : SlIs (rho γ u) b M0 M M' sl dr) (i : Nat) : SI γ b u M0 (Δ.set i sl) (Δr.set i (some dr)) M' n' := ⟨S.rel.put A.keep h i, A.urn, S.k0.trans A.keep⟩
theorem SI.upd (S : SI γ b u M0 Δ Δr M n) {i : Nat} {q : Addr} {m m' : MO} (h : Δ[i]? = some (.o m)) (hq : Δr[i]? = some (some (.cell q))) (hI : ∀ C fs ds, m' = .ins C fs ds → ∃ C' fs' ds', m = .ins C' fs' ds' := by intro _ _ _ z; cases z) : SI γ b u M0 (Δ.set i (.o m')) Δr (mup M q (rnM (rho γ u) m')) n := by
  obtain ⟨q2, e1, e2, e3, e4, _⟩ := S.rel.o i m h
  rw [hq] at e1
  cases e1
  refine ⟨S.rel.upd h hq hI, fun hb => (S.urn hb).mup (e4 hb), fun r m1 hr e => ?_⟩
  have z : r ≠ q := fun z => by rw [z, e3] at e; cases e
  rw [mup_ne z]
  exact S.k0 r m1 hr e
theorem SI.own (S : SI γ b u M0 Δ Δr M n) {i : Nat} {m : MO} (h : Δ[i]? = some (.o m)) : ∃ q, Δr[i]? = some (some (.cell q)) ∧ M q = some (rnM (rho γ u) m) := by
  obtain ⟨q, e1, e2, _⟩ := S.rel.o i m h
  exact ⟨q, e1, e2⟩
end
/-! ### a value on its way to a slot -/
structure IO (γ : Nat → Addr) (X : Cx) (e : Expr) (s : List Sl → Pg Sl) : Prop where
  go : ∀ b u M0 Δ Δr M n (k : DK), SI γ b u M0 Δ Δr M n → wpB b n (s Δ) (fun sl n' => ∀ M' dr, Aft b u M M' n' → SlIs (rho γ u) b M0 M M' sl dr → k dr M') → EvD X e Δr M k
def oV (s : SE) : List Sl → Pg Sl := fun Δ => (s Δ).bind fun d => .ret (.v d)
def oL (s : SA) : List Sl → Pg Sl := fun Δ => (s Δ).bind fun ds => .ret (.o (.lst ds))
section
variable {γ : Nat → Addr} {X : Cx} {a c e e2 tg : Expr} {es rest : List Expr} {pos p apos : Pos} {x : Str} {s t : SE}
theorem IE.io (h : IE γ X e s) : IO γ X e (oV s) := .mk fun b u M0 Δ Δr M n k S w => h.go b u M0 Δ Δr M n k S ((wpB_bind.1 w).mono fun d n1 q M1 A1 => q M1 _ A1 rfl)
theorem IL.io {s : SA} (h : IL γ X e s) : IO γ X e (oL s) := .mk fun b u M0 Δ Δr M n k S w => EvL.cell (h.go b u M0 Δ Δr M n _ S ((wpB_bind.1 w).mono fun ds n1 q M1 A1 r hr => by
  have U := A1.urn
  obtain ⟨h0, hu⟩ := (S.k0.trans A1.keep).none U hr
  obtain ⟨hM, _⟩ := A1.keep.none U hr
  refine q _ _ ⟨fun r' m hr' e => ?_, fun hb => (U hb).mup (hu hb)⟩ ⟨r, rfl, hM, mup_same, h0, hu, fun _ _ _ z => by cases z⟩
  have z : r' ≠ r := fun z => by rw [z, hM] at e; cases e
  rw [mup_ne z]
  exact A1.keep r' m hr' e))
/-! ### expressions that change what is owned -/
abbrev SX := List Sl → Pg (D × List Sl)
structure IX (γ : Nat → Addr) (X : Cx) (e : Expr) (s : SX) : Prop where
  go : ∀ b u M0 Δ Δr M n (k : DK), SI γ b u M0 Δ Δr M n → wpB b n (s Δ) (fun r n' => ∀ M', SI γ b u M0 r.2 Δr M' n' → k (rn (rho γ u) r.1) M') → EvD X e Δr M k
def xE (s : SE) : SX := fun Δ => (s Δ).bind fun d => .ret (d, Δ)
theorem IE.ix (h : IE γ X e s) : IX γ X e (xE s) := .mk fun b u M0 Δ Δr M n k S w => h.go b u M0 Δ Δr M n k S ((wpB_bind.1 w).mono fun d n1 q M1 A1 => q M1 (S.aft A1))
def ownL (Δ : List Sl) (i : Nat) : Option (List D) := match Δ[i]? with
  | some (.o (.lst ds)) => some ds
  | _ => none
theorem ownL_is {Δ : List Sl} {i : Nat} {ds : List D} (h : ownL Δ i = some ds) : Δ[i]? = some (.o (.lst ds)) := by
  unfold ownL at h
  split at h
  · rename_i q
    cases h
    exact q
  · cases h
def xApp (i : Nat) (s : SX) : SX := fun Δ => (ofO (ownL Δ i)).bind fun _ => (s Δ).bind fun r => (ofO (ownL r.2 i)).bind fun ds => if ds.length < lim then .ret (.non, r.2.set i (.o (.lst (ds ++ [r.1])))) else .fail
theorem x_app {i : Nat} {s : SX} {px : Pos} (hN : X.N[i]? = some x) (hv : Vis X.env.scope x) (hd : (x == ("__debug__" : Str)) = false) (hcd : (x == ("__classdict__" : Str)) = false) (h : IX γ X e s)
    (hbase : attributeBase (.Name x px) "append" X.env (eval (.Name x px) X.env) = eval (.Name x px) X.env := by rfl) (hfew : FewOk X pos [e] := by rfl) (hline : (apos.endLine == pos.line) = true := by rfl) (hs : starEach [e] X.env = [(false, eval e X.env)] := by rfl) :
    IX γ X (.Call (.Attribute (.Name x px) "append" apos) [e] [] pos) (xApp i s) := .mk fun b u M0 Δ Δr M n k S w => by
  obtain ⟨ds0, h0, w1⟩ := wpB_ofO (wpB_bind.1 w)
  obtain ⟨q, hq, hM⟩ := S.own (ownL_is h0)
  refine ev_append (ev_var hN hv hd hcd hq ⟨q, _, rfl, hM, h.go b u M0 Δ Δr M n _ S ((wpB_bind.1 w1).mono fun r n1 w2 M1 S1 => ?_)⟩) hbase hfew hline hs
  obtain ⟨ds, h1, w3⟩ := wpB_ofO (wpB_bind.1 w2)
  split at w3
  · rename_i hl
    obtain ⟨q', hq', hM'⟩ := S1.own (ownL_is h1)
    rw [hq] at hq'
    cases hq'
    refine ⟨_, hM', by rw [lim_eq, rnL_len]; exact hl, ?_⟩
    have S2 := S1.upd (m' := .lst (ds ++ [r.1])) (ownL_is h1) hq
    have w4 := w3 _ S2
    rw [rn_non] at w4
    have e : rnM (rho γ u) (.lst (ds ++ [r.1])) = .lst (rnL (rho γ u) ds ++ [rn (rho γ u) r.1]) := by
      show MO.lst _ = _
      rw [rnL_app]
      unfold rnL
      unfold rnL
      rfl
    rw [e] at w4
    exact w4
  · exact w3.elim
def xPop (i : Nat) (s : SE) : SX := fun Δ => (ofO (ownL Δ i)).bind fun ds => (s Δ).bind fun y => (ofO (intOf y)).bind fun z => if inR z = true then (ofO (seqIndex? z ds.length)).bind fun j => (ofO ds[j]?).bind fun r => .ret (r, Δ.set i (.o (.lst (ds.eraseIdx j)))) else .fail
theorem rnL_erase {ρ : Nat → Addr} : ∀ (ds : List D) (j : Nat), rnL ρ (ds.eraseIdx j) = (rnL ρ ds).eraseIdx j
  | [], j => by unfold rnL; rfl
  | d :: ds, 0 => by
    rw [List.eraseIdx_cons_zero]
    conv => rhs; unfold rnL
    rfl
  | d :: ds, j + 1 => by
    rw [List.eraseIdx_cons_succ]
    unfold rnL
    rw [List.eraseIdx_cons_succ, rnL_erase ds j]
theorem x_pop {i : Nat} {px : Pos} (hN : X.N[i]? = some x) (hv : Vis X.env.scope x) (hd : (x == ("__debug__" : Str)) = false) (hcd : (x == ("__classdict__" : Str)) = false) (h : IE γ X e s)
    (hbase : attributeBase (.Name x px) "pop" X.env (eval (.Name x px) X.env) = eval (.Name x px) X.env := by rfl) (hfew : FewOk X pos [e] := by rfl) (hline : (apos.endLine == pos.line) = true := by rfl) (hs : starEach [e] X.env = [(false, eval e X.env)] := by rfl) :
    IX γ X (.Call (.Attribute (.Name x px) "pop" apos) [e] [] pos) (xPop i s) := .mk fun b u M0 Δ Δr M n k S w => by
  obtain ⟨ds, h0, w⟩ := wpB_ofO (wpB_bind.1 w)
  obtain ⟨q, hq, hM⟩ := S.own (ownL_is h0)
  refine ev_popAt (ev_var hN hv hd hcd hq ⟨q, _, rfl, hM, h.go b u M0 Δ Δr M n _ S ((wpB_bind.1 w).mono fun y n1 w1 M1 A1 => ?_)⟩) hbase hfew hline hs
  obtain ⟨z, h1, w2⟩ := wpB_ofO (wpB_bind.1 w1)
  split at w2
  · rename_i hz
    obtain ⟨j, h2, w3⟩ := wpB_ofO (wpB_bind.1 w2)
    obtain ⟨r, h3, w4⟩ := wpB_ofO (wpB_bind.1 w3)
    have S1 := S.aft A1
    obtain ⟨q', hq', hM'⟩ := S1.own (ownL_is h0)
    rw [hq] at hq'
    cases hq'
    rw [intOf_is h1, rn_int]
    have hb := inR_is hz
    refine ⟨z, _, j, rn (rho γ u) r, rfl, hM', ⟨by omega, by omega⟩, by rw [rnL_len]; exact h2, by rw [rnL_get, h3]; rfl, ?_⟩
    have w5 := w4 _ (S1.upd (m' := .lst (ds.eraseIdx j)) (ownL_is h0) hq)
    rw [← rnL_erase]
    exact w5
  · exact w2.elim
/-- x.pop() -/
theorem ev_pop0 {o : Expr} {Δ : DS} {M : Store} {k : DK} (h : EvD X o Δ M fun d M1 => ∃ q ds r, d = .cell q ∧ M1 q = some (.lst ds) ∧ ds[ds.length - 1]? = some r ∧ k r (mup M1 q (.lst ds.dropLast)))
    (hbase : attributeBase o "pop" X.env (eval o X.env) = eval o X.env := by rfl) (hline : (apos.endLine == pos.line) = true := by rfl) : EvD X (.Call (.Attribute o "pop" apos) [] [] pos) Δ M k := fun F H σ Q hS ok post => by
  refine sem_of (pe_bm0 PySem.F.plainAttrs_list PySem.F.slot_list_pop PySem.F.type_list_pop mt_pop pe_sem hbase hline) ?_
  refine h F H σ _ hS ok fun d M1 F1 H1 v ⟨q, ds, r, ed, hm, hr, hk⟩ st ok1 i => ?_
  subst ed
  obtain ⟨vs, hq, il⟩ := cell_of ok1 hm
  rw [is_cell.1 i]
  obtain ⟨w, hw, iw⟩ := il.get hr
  exact ⟨.inl ⟨rfl, _, SqL.of hq⟩, q, vs, w, rfl, rfl, hq, by rw [← il.length]; exact hw, (post.step st).cell ok1 hm il.dropLast hk iw⟩
theorem rnL_dl {ρ : Nat → Addr} (ds : List D) : rnL ρ ds.dropLast = (rnL ρ ds).dropLast := by rw [rnL_map, rnL_map, List.dropLast_eq_take, List.dropLast_eq_take, List.map_take, List.length_map]
def xPop0 (i : Nat) : SX := fun Δ => (ofO (ownL Δ i)).bind fun ds => (ofO ds[ds.length - 1]?).bind fun r => .ret (r, Δ.set i (.o (.lst ds.dropLast)))
theorem x_pop0 {i : Nat} {px : Pos} (hN : X.N[i]? = some x) (hv : Vis X.env.scope x) (hd : (x == ("__debug__" : Str)) = false) (hcd : (x == ("__classdict__" : Str)) = false)
    (hbase : attributeBase (.Name x px) "pop" X.env (eval (.Name x px) X.env) = eval (.Name x px) X.env := by rfl) (hline : (apos.endLine == pos.line) = true := by rfl) :
    IX γ X (.Call (.Attribute (.Name x px) "pop" apos) [] [] pos) (xPop0 i) := .mk fun b u M0 Δ Δr M n k S w => by
  obtain ⟨ds, h0, w⟩ := wpB_ofO (wpB_bind.1 w)
  obtain ⟨r, h1, w⟩ := wpB_ofO (wpB_bind.1 w)
  obtain ⟨q, hq, hM⟩ := S.own (ownL_is h0)
  refine ev_pop0 (ev_var hN hv hd hcd hq ⟨q, _, rn (rho γ u) r, rfl, hM, by rw [rnL_len, rnL_get, h1]; rfl, ?_⟩) hbase hline
  have w5 := w _ (S.upd (m' := .lst ds.dropLast) (ownL_is h0) hq)
  rw [← rnL_dl]
  exact w5
end
end DL
end
section
set_option Elab.async false
set_option linter.all false
set_option maxRecDepth 100000
namespace DL
open PySem L2 PyProof.Rows
inductive Out where
  | nx (Δ : List Sl) | rt (d : D) | bk (Δ : List Sl) | ct (Δ : List Sl)
abbrev ST := List Sl → Pg Out
def OutOk (γ : Nat → Addr) (b : Bool) (u : Addr × Addr) (M0 : Store) (ks : KS) : Out → Nat → Prop
  | .nx Δ, n => ∀ Δr M, SI γ b u M0 Δ Δr M n → ks.nx Δr M
  | .rt d, n => ∀ M, Aft b u M0 M n → ks.rt (rn (rho γ u) d) M
  | .bk Δ, n => ∀ Δr M, SI γ b u M0 Δ Δr M n → ks.bk Δr M
  | .ct Δ, n => ∀ Δr M, SI γ b u M0 Δ Δr M n → ks.ct Δr M
structure IS (γ : Nat → Addr) (X : Cx) (st : Stmt) (t : ST) : Prop where
  go : ∀ b u M0 Δ Δr M n (ks : KS), SI γ b u M0 Δ Δr M n → wpB b n (t Δ) (OutOk γ b u M0 ks) → StD X st Δr M ks
structure ISs (γ : Nat → Addr) (X : Cx) (st : List Stmt) (t : ST) : Prop where
  go : ∀ b u M0 Δ Δr M n (ks : KS), SI γ b u M0 Δ Δr M n → wpB b n (t Δ) (OutOk γ b u M0 ks) → SsD X st Δr M ks
section
variable {γ : Nat → Addr} {X : Cx} {a c e e2 tg : Expr} {es rest : List Expr} {pos p apos : Pos} {x : Str} {s t : SE} {st : Stmt} {sts body A B : List Stmt}
def tNil : ST := fun Δ => .ret (.nx Δ)
def tSeq (t r : ST) : ST := fun Δ => (t Δ).bind fun o => match o with
  | .nx Δ1 => r Δ1
  | o => .ret o
theorem b_nil : ISs γ X [] tNil := .mk fun b u M0 Δ Δr M n ks S w => ss_nil (w Δr M S)
theorem b_cons {t r : ST} (h : IS γ X st t) (h2 : ISs γ X sts r) : ISs γ X (st :: sts) (tSeq t r) := .mk fun b u M0 Δ Δr M n ks S w => by
  refine ss_cons (h.go b u M0 Δ Δr M n _ S ((wpB_bind.1 w).mono fun o n1 w1 => ?_))
  cases o with
  | nx Δ1 => exact fun Δr1 M1 S1 => h2.go b u M0 Δ1 Δr1 M1 n1 ks S1 w1
  | rt d => exact w1
  | bk Δ1 => exact w1
  | ct Δ1 => exact w1
theorem b_one {t : ST} (h : IS γ X st t) : ISs γ X [st] t := .mk fun b u M0 Δ Δr M n ks S w => ss_one (h.go b u M0 Δ Δr M n ks S w)
theorem r_pass : IS γ X (.Pass pos) tNil := .mk fun b u M0 Δ Δr M n ks S w => s_pass (w Δr M S)
def tBrk : ST := fun Δ => .ret (.bk Δ)
def tCnt : ST := fun Δ => .ret (.ct Δ)
theorem r_break : IS γ X (.Break pos) tBrk := .mk fun b u M0 Δ Δr M n ks S w => s_break (w Δr M S)
theorem r_cont : IS γ X (.Continue pos) tCnt := .mk fun b u M0 Δ Δr M n ks S w => s_cont (w Δr M S)
def tX (s : SX) : ST := fun Δ => (s Δ).bind fun r => .ret (.nx r.2)
theorem r_expr {s : SX} (h : IX γ X e s) (hs : swapsWith e none pos.line X.env = pure false := by rfl) : IS γ X (.Expr e pos) (tX s) := .mk fun b u M0 Δ Δr M n ks S w => s_expr (h.go b u M0 Δ Δr M n _ S ((wpB_bind.1 w).mono fun r n1 w1 M1 S1 => w1 Δr M1 S1)) hs
def tRet (s : SE) : ST := fun Δ => (s Δ).bind fun d => .ret (.rt d)
theorem Aft.of0 {b : Bool} {u : Addr × Addr} {M0 M : Store} {Δ : List Sl} {Δr : DS} {n : Nat} (S : SI γ b u M0 Δ Δr M n) : Aft b u M0 M n := ⟨S.k0, S.urn⟩
theorem r_ret (h : IE γ X e s) : IS γ X (.Return (some e) pos) (tRet s) := .mk fun b u M0 Δ Δr M n ks S w => s_ret (h.go b u M0 Δ Δr M n _ S ((wpB_bind.1 w).mono fun d n1 w1 M1 A1 => w1 M1 (Aft.of0 (S.aft A1))))
def tRetN : ST := fun _ => .ret (.rt .non)
theorem r_retN : IS γ X (.Return none pos) tRetN := .mk fun b u M0 Δ Δr M n ks S w => by
  have w1 := w M (Aft.of0 S)
  rw [rn_non] at w1
  exact s_retN w1
def tIf (t : SB) (r q : ST) : ST := fun Δ => (t Δ).bind fun c => if c = true then r Δ else q Δ
theorem r_if {tb : SB} {r q : ST} (h : IT γ X e tb) (hA : ISs γ X A r) (hB : ISs γ X B q) : IS γ X (.If e A B pos) (tIf tb r q) := .mk fun b u M0 Δ Δr M n ks S w => s_if (h.go b u M0 Δ Δr M n _ S ((wpB_bind.1 w).mono fun c n1 w1 M1 A1 => by
  cases c with
  | true => exact hA.go b u M0 Δ Δr M1 n1 ks (S.aft A1) w1
  | false => exact hB.go b u M0 Δ Δr M1 n1 ks (S.aft A1) w1))
def tSet (i : Nat) (s : List Sl → Pg Sl) : ST := fun Δ => (s Δ).bind fun sl => .ret (.nx (Δ.set i sl))
theorem r_set {i : Nat} {s : List Sl → Pg Sl} {pos' : Pos} (hN : X.N.Nodup) (hi : X.N[i]? = some x) (hx : Loc X.env.scope x) (hf : X.fn x = true ∨ X.env.scope.names.lookup x = some .local) (h : IO γ X e s)
    (hs : swapsWith e (some (.Name x pos')) pos.line X.env = pure false := by rfl) : IS γ X (.Assign [.Name x pos'] e pos) (tSet i s) := .mk fun b u M0 Δ Δr M n ks S w => s_set hN hi hx hf (h.go b u M0 Δ Δr M n _ S ((wpB_bind.1 w).mono fun sl n1 w1 M1 dr A1 V => w1 _ M1 (S.put A1 V i))) hs
def tSetX (i : Nat) (s : SX) : ST := fun Δ => (s Δ).bind fun r => .ret (.nx (r.2.set i (.v r.1)))
theorem r_setX {i : Nat} {s : SX} {pos' : Pos} (hN : X.N.Nodup) (hi : X.N[i]? = some x) (hx : Loc X.env.scope x) (hf : X.fn x = true ∨ X.env.scope.names.lookup x = some .local) (h : IX γ X e s)
    (hs : swapsWith e (some (.Name x pos')) pos.line X.env = pure false := by rfl) : IS γ X (.Assign [.Name x pos'] e pos) (tSetX i s) := .mk fun b u M0 Δ Δr M n ks S w => s_set hN hi hx hf (h.go b u M0 Δ Δr M n _ S ((wpB_bind.1 w).mono fun r n1 w1 M1 S1 => w1 _ M1 ⟨S1.rel.setV i r.1, S1.urn, S1.k0⟩)) hs
/-- x = [.. for ..]: frozen, or owned -/
theorem r_setLc {i : Nat} {y : Str} {py spos : Pos} {scope : Scope} {own : List (Str × Nat)} {elt iter : Expr} {ifs : List Expr} {sl : List Nat} {tgt : Tg} {it : SA} {tb : SB} {se : SE} (hc : X.calm = true) (hN : X.N.Nodup) (hy : X.N[i]? = some y) (hyl : X.env.scope.names.lookup y = some .local)
    (hsw : swapsWith (.ListComp elt [⟨tg, iter, ifs, 0⟩] scope pos) (some (.Name y py)) spos.line X.env = pure true) (ok : BlkOk X.N X.env.scope scope own) (hl : ifs.length ≤ 1) (hI : II γ X tg iter it) (hsl : ∀ j ∈ sl, j ∈ own.map (·.2))
    (hG : ∀ s H C cl fp, GT (Blk X scope s H C cl fp) tg tgt sl) (hT : ∀ s H C cl fp, ITs γ (Blk X scope s H C cl fp) ifs tb) (hE : ∀ s H C cl fp, IE γ (Blk X scope s H C cl fp) elt se)
    (hs : ∀ x, foldedSetIterable iter X.env x = pure x := by intro _; rfl) : IS γ X (.Assign [.Name y py] (.ListComp elt [⟨tg, iter, ifs, 0⟩] scope pos) spos) (tSet i (oV (cL (aLc tgt (own.map (·.2)) it tb se)))) := .mk fun b u M0 Δ Δr M n ks S w => by
  refine s_setLc hc hN hy hyl hsw ok hl (lc_rd hI hsl hG hT hE S ((wpB_bind.1 (wpB_bind.1 (wpB_bind.1 w))).mono fun ds n1 w1 M1 A1 => ?_)) hs
  have w2 := w1 (Δr.set i (some (rn (rho γ u) (.lst ds)))) M1 (S.put A1 (sl := .v (.lst ds)) rfl i)
  rw [rn_lst] at w2
  exact w2
theorem r_setLcO {i : Nat} {y : Str} {py spos : Pos} {scope : Scope} {own : List (Str × Nat)} {elt iter : Expr} {ifs : List Expr} {sl : List Nat} {tgt : Tg} {it : SA} {tb : SB} {se : SE} (hc : X.calm = true) (hN : X.N.Nodup) (hy : X.N[i]? = some y) (hyl : X.env.scope.names.lookup y = some .local)
    (hsw : swapsWith (.ListComp elt [⟨tg, iter, ifs, 0⟩] scope pos) (some (.Name y py)) spos.line X.env = pure true) (ok : BlkOk X.N X.env.scope scope own) (hl : ifs.length ≤ 1) (hI : II γ X tg iter it) (hsl : ∀ j ∈ sl, j ∈ own.map (·.2))
    (hG : ∀ s H C cl fp, GT (Blk X scope s H C cl fp) tg tgt sl) (hT : ∀ s H C cl fp, ITs γ (Blk X scope s H C cl fp) ifs tb) (hE : ∀ s H C cl fp, IE γ (Blk X scope s H C cl fp) elt se)
    (hs : ∀ x, foldedSetIterable iter X.env x = pure x := by intro _; rfl) : IS γ X (.Assign [.Name y py] (.ListComp elt [⟨tg, iter, ifs, 0⟩] scope pos) spos) (tSet i (oL (aLc tgt (own.map (·.2)) it tb se))) := .mk fun b u M0 Δ Δr M n ks S w => by
  refine s_setLcC hc hN hy hyl hsw ok hl (lc_rd hI hsl hG hT hE S ((wpB_bind.1 (wpB_bind.1 w)).mono fun ds n1 w1 M1 A1 r hr => ?_)) hs
  have U := A1.urn
  obtain ⟨h0, hu⟩ := (S.k0.trans A1.keep).none U hr
  obtain ⟨hM, _⟩ := A1.keep.none U hr
  refine w1 _ _ (S.put (sl := .o (.lst ds)) ⟨fun r' m hr' e => ?_, fun hb => (U hb).mup (hu hb)⟩ ⟨r, rfl, hM, mup_same, h0, hu, fun _ _ _ z => by cases z⟩ i)
  have z : r' ≠ r := fun z => by rw [z, hM] at e; cases e
  rw [mup_ne z]
  exact A1.keep r' m hr' e
def tPar (i j : Nat) (s t : List Sl → Pg Sl) : ST := fun Δ => (s Δ).bind fun d => (t Δ).bind fun c => .ret (.nx ((Δ.set i d).set j c))
theorem r_par {i j : Nat} {y : Str} {s t : List Sl → Pg Sl} {px py pt : Pos} {kt k2 pt2} (hc : X.calm = true) (hN : X.N.Nodup) (hi : X.N[i]? = some x) (hj : X.N[j]? = some y) (hij : i ≠ j) (hx : X.env.scope.names.lookup x = some .local) (hy : X.env.scope.names.lookup y = some .local)
    (hw : swappedStores [.Tuple [.Name x px, .Name y py] kt pt] (.Tuple [a, c] k2 pt2) X.env = pure (some [x, y])) (ha : IO γ X a s) (hcc : IO γ X c t) (hs : swapsWithSole [.Tuple [.Name x px, .Name y py] kt pt] (.Tuple [a, c] k2 pt2) pos.line X.env = pure false := by rfl)
    (h1 : starEach [a, c] X.env = (false, eval a X.env) :: starEach [c] X.env := by rfl) (h2 : starEach [c] X.env = [(false, eval c X.env)] := by rfl) :
    IS γ X (.Assign [.Tuple [.Name x px, .Name y py] kt pt] (.Tuple [a, c] k2 pt2) pos) (tPar i j s t) := .mk fun b u M0 Δ Δr M n ks S w =>
  s_par hc hN hi hj hij hx hy hw (ha.go b u M0 Δ Δr M n _ S ((wpB_bind.1 w).mono fun d n1 w1 M1 dr A1 V1 => hcc.go b u M0 Δ Δr M1 n1 _ (S.aft A1) ((wpB_bind.1 w1).mono fun d2 n2 w2 M2 dr2 A2 V2 => w2 _ M2 ((S.put A1 V1 i).put A2 V2 j)))) hs h1 h2
def tPar3 (i j l : Nat) (s t r : List Sl → Pg Sl) : ST := fun Δ => (s Δ).bind fun d => (t Δ).bind fun c => (r Δ).bind fun g => .ret (.nx (((Δ.set i d).set j c).set l g))
theorem r_par3 {i j l : Nat} {y z : Str} {g : Expr} {s t r : List Sl → Pg Sl} {px py pz pt : Pos} {kt k2 pt2} (hc : X.calm = true) (hN : X.N.Nodup) (hi : X.N[i]? = some x) (hj : X.N[j]? = some y) (hl : X.N[l]? = some z) (hij : i ≠ j) (hil : i ≠ l) (hjl : j ≠ l) (hx : X.env.scope.names.lookup x = some .local) (hy : X.env.scope.names.lookup y = some .local) (hz : X.env.scope.names.lookup z = some .local)
    (hw : swappedStores [.Tuple [.Name x px, .Name y py, .Name z pz] kt pt] (.Tuple [a, c, g] k2 pt2) X.env = pure (some [x, y, z])) (ha : IO γ X a s) (hcc : IO γ X c t) (hg : IO γ X g r) (hs : swapsWithSole [.Tuple [.Name x px, .Name y py, .Name z pz] kt pt] (.Tuple [a, c, g] k2 pt2) pos.line X.env = pure false := by rfl)
    (h1 : starEach [a, c, g] X.env = (false, eval a X.env) :: starEach [c, g] X.env := by rfl) (h2 : starEach [c, g] X.env = (false, eval c X.env) :: starEach [g] X.env := by rfl) (h3 : starEach [g] X.env = [(false, eval g X.env)] := by rfl) :
    IS γ X (.Assign [.Tuple [.Name x px, .Name y py, .Name z pz] kt pt] (.Tuple [a, c, g] k2 pt2) pos) (tPar3 i j l s t r) := .mk fun b u M0 Δ Δr M n ks S w =>
  s_par3 hc hN hi hj hl hij hil hjl hx hy hz hw (ha.go b u M0 Δ Δr M n _ S ((wpB_bind.1 w).mono fun d n1 w1 M1 dr A1 V1 => hcc.go b u M0 Δ Δr M1 n1 _ (S.aft A1) ((wpB_bind.1 w1).mono fun d2 n2 w2 M2 dr2 A2 V2 => hg.go b u M0 Δ Δr M2 n2 _ ((S.aft A1).aft A2) ((wpB_bind.1 w2).mono fun d3 n3 w3 M3 dr3 A3 V3 => w3 _ M3 (((S.put A1 V1 i).put A2 V2 j).put A3 V3 l))))) hs h1 h2 h3
/-- target = value -/
def tAsg (t : Tg) (s : SX) : ST := fun Δ => (s Δ).bind fun r => (ofO (tgS t r.1 r.2)).bind fun Δ1 => .ret (.nx Δ1)
theorem r_asg {tgt : Tg} {sl : List Nat} {s : SX} (h : IX γ X e s) (hG : GT X tg tgt sl) (hs : swapsWithSole [tg] e pos.line X.env = pure false := by rfl) (hw : swappedStores [tg] e X.env = pure none := by rfl)
    (h1 : (assignEach [tg] X.env).map (·.2) = [assign tg X.env] := by rfl) : IS γ X (.Assign [tg] e pos) (tAsg tgt s) := .mk fun b u M0 Δ Δr M n ks S w => s_asg (h.go b u M0 Δ Δr M n _ S ((wpB_bind.1 w).mono fun r n1 w1 M1 S1 => by
  obtain ⟨Δ1, q1, w2⟩ := wpB_ofO (wpB_bind.1 w1)
  obtain ⟨f1, r1⟩ := tg_rel S1.rel q1
  exact ⟨_, sl, hG _ _ f1, w2 _ M1 ⟨r1, S1.urn, S1.k0⟩⟩)) hs hw h1
/-- x[i] = e of an owned list -/
def tPut (i : Nat) (s t : SE) : ST := fun Δ => (s Δ).bind fun y => (ofO (ownL Δ i)).bind fun ds => (t Δ).bind fun z => (ofO (intOf z)).bind fun n => (ofO (ixN ds.length n)).bind fun j => .ret (.nx (Δ.set i (.o (.lst (ds.set j y)))))
theorem rnL_set {ρ : Nat → Addr} (ds : List D) (j : Nat) (d : D) : rnL ρ (ds.set j d) = (rnL ρ ds).set j (rn ρ d) := by rw [rnL_map, rnL_map, List.map_set]
theorem r_put {i : Nat} {spos px : Pos} (hN : X.N[i]? = some x) (hv : Vis X.env.scope x) (hd : (x == ("__debug__" : Str)) = false) (hcd : (x == ("__classdict__" : Str)) = false) (h : IE γ X e s) (h2 : IE γ X c t)
    (hs : swapsWithSole [.Subscript (.Name x px) c spos] e pos.line X.env = pure false := by rfl) (hw : swappedStores [.Subscript (.Name x px) c spos] e X.env = pure none := by rfl) (h1 : (assignEach [.Subscript (.Name x px) c spos] X.env).map (·.2) = [assign (.Subscript (.Name x px) c spos) X.env] := by rfl)
    (ha : ∀ v, assign (.Subscript (.Name x px) c spos) X.env v = (do
      let ov ← holding [v] (eval (.Name x px) X.env)
      let iv ← holding [v, ov] (eval c X.env)
      standAt spos
      holding [v, ov, iv] (setItem ov iv v)
      release [v, ov, iv] []) := by intro _; rfl) : IS γ X (.Assign [.Subscript (.Name x px) c spos] e pos) (tPut i s t) := .mk fun b u M0 Δ Δr M n ks S w => by
  refine s_put (h.go b u M0 Δ Δr M n _ S ((wpB_bind.1 w).mono fun y n1 w1 M1 A1 => ?_)) hs hw h1 ha
  obtain ⟨ds, h0, w2⟩ := wpB_ofO (wpB_bind.1 w1)
  obtain ⟨q, hq, hM⟩ := S.own (ownL_is h0)
  refine ev_var hN hv hd hcd hq (h2.go b u M0 Δ Δr M1 n1 _ (S.aft A1) ((wpB_bind.1 w2).mono fun z n2 w3 M2 A2 => ?_))
  obtain ⟨m, h3, w4⟩ := wpB_ofO (wpB_bind.1 w3)
  obtain ⟨j, h4, w5⟩ := wpB_ofO (wpB_bind.1 w4)
  have S2 := (S.aft A1).aft A2
  obtain ⟨q', hq', hM'⟩ := S2.own (ownL_is h0)
  rw [hq] at hq'
  cases hq'
  rw [intOf_is h3, rn_int]
  refine ⟨q, _, m, j, rfl, rfl, hM', by rw [rnL_len]; exact h4, ?_⟩
  rw [← rnL_set]
  exact w5 Δr _ (S2.upd (m' := .lst (ds.set j y)) (ownL_is h0) hq)
/-- x += e of ints -/
def tAug (i : Nat) (s : SE) : ST := fun Δ => (s Δ).bind fun y => match Δ[i]?, y with
  | some (.v (.int m)), .int k => .ret (.nx (Δ.set i (.v (.int (m + k)))))
  | _, _ => .fail
/-! ### for -/
def forP (tg : Tg) (body : ST) : List D → List Sl → Pg Out
  | [], Δ => .ret (.nx Δ)
  | d :: ds, Δ => (ofO (tgS tg d Δ)).bind fun Δ1 => (body Δ1).bind fun o => match o with
    | .nx Δ2 => forP tg body ds Δ2
    | .ct Δ2 => forP tg body ds Δ2
    | .bk Δ2 => .ret (.nx Δ2)
    | .rt d => .ret (.rt d)
def tFor (tg : Tg) (it : SA) (body : ST) : ST := fun Δ => (it Δ).bind fun ds => forP tg body ds Δ
theorem r_for {iter : Expr} {tgt : Tg} {it : SA} {tb : ST} {sl : List Nat} (hp : PassesOwn (model X.prog X.w) X.A X.env X.xe) (hc : X.calm = true) (hI : II γ X tg iter it) (hG : GT X tg tgt sl) (hB : ISs γ X body tb)
    (hs : ∀ x, foldedSetIterable iter X.env x = pure x := by intro _; rfl) : IS γ X (.For tg iter body [] pos) (tFor tgt it tb) := .mk fun b u M0 Δ Δr M n ks S w => by
  refine s_for hp hc (hI.go b u M0 Δ Δr M n _ S ((wpB_bind.1 w).mono fun ds n1 w1 M1 A1 => ?_)) hs
  refine ⟨fun i Δ' M' => ∃ Δa n', SI γ b u M0 Δa Δ' M' n' ∧ wpB b n' (forP tgt tb (ds.drop i) Δa) (OutOk γ b u M0 ks), ⟨Δ, n1, S.aft A1, by rw [List.drop_zero]; exact w1⟩, ?_, ?_⟩
  · rintro i d Δ' M' hd ⟨Δa, n', S', w2⟩
    rw [rnL_get] at hd
    obtain ⟨d0, hd0, rfl⟩ := Option.map_eq_some_iff.mp hd
    have hi := (List.getElem?_eq_some_iff.mp hd0).1
    have hdr : ds.drop i = d0 :: ds.drop (i + 1) := by
      rw [List.drop_eq_getElem_cons hi]
      congr 1
      exact (List.getElem?_eq_some_iff.mp hd0).2
    rw [hdr] at w2
    obtain ⟨Δ1, q1, w3⟩ := wpB_ofO (wpB_bind.1 w2)
    obtain ⟨f1, r1⟩ := tg_rel S'.rel q1
    refine ⟨_, sl, hG _ _ f1, hB.go b u M0 Δ1 _ M' n' _ ⟨r1, S'.urn, S'.k0⟩ ((wpB_bind.1 w3).mono fun o n2 w4 => ?_)⟩
    cases o with
    | nx Δ2 => exact fun Δr2 M2 S2 => ⟨Δ2, n2, S2, w4⟩
    | ct Δ2 => exact fun Δr2 M2 S2 => ⟨Δ2, n2, S2, w4⟩
    | bk Δ2 => exact w4
    | rt d => exact w4
  · rintro Δ' M' ⟨Δa, n', S', w2⟩
    rw [rnL_len, List.drop_length] at w2
    exact w2 Δ' M' S'
/-! ### while -/
theorem s_while {c : Expr} {Δ : DS} {M : Store} {ks : KS} (hp : PassesOwn (model X.prog X.w) X.A X.env X.xe) (I : Nat → DS → Store → Prop) {m : Nat} (h0 : I m Δ M)
    (hs : ∀ m Δ M, I m Δ M → TeD X c Δ M fun z M1 => if z = true then SsD X body Δ M1 { nx := fun Δ' M' => ∃ m', m' < m ∧ I m' Δ' M', ct := fun Δ' M' => ∃ m', m' < m ∧ I m' Δ' M', bk := ks.nx, rt := ks.rt } else ks.nx Δ M1) : StD X (.While c body [] pos) Δ M ks := fun F H σ Q hS ok post => by
  refine semS_of (ps_while hp pt_sem pss_sem) ?_
  refine ⟨fun m σ' H' => ∃ Δ' M' F', Stp F M H F' M' H' ∧ Ok X.K F' M' H' ∧ IsS X.K F' Δ' σ' ∧ I m Δ' M', ⟨m, Δ, M, F, Stp.refl, ok, hS, h0⟩, ?_⟩
  rintro m σ' H' ⟨Δ', M', F', st', ok', hS', hI⟩
  refine hs m Δ' M' hI F' H' σ' _ hS' ok' fun z M1 F1 H1 hz st1 ok1 => ?_
  have s1 := st'.trans st1
  cases z with
  | true =>
    rw [if_pos rfl] at hz ⊢
    refine ⟨fun σ2 H2 => ∃ Δ2 M2 F2, Stp F M H F2 M2 H2 ∧ Ok X.K F2 M2 H2 ∧ IsS X.K F2 Δ2 σ2 ∧ ∃ m', m' < m ∧ I m' Δ2 M2, fun σ2 H2 ⟨Δ2, M2, F2, a1, a2, a3, m', hm, a4⟩ => ⟨m', hm, Δ2, M2, F2, a1, a2, a3, a4⟩, ?_⟩
    refine hz F1 H1 σ' _ (hS'.mono st1.ext) ok1 ⟨fun Δ4 M4 F4 H4 σ4 q s4 ok4 hS4 => ⟨Δ4, M4, F4, s1.trans s4, ok4, hS4, q⟩, ?_, ?_, fun Δ4 M4 F4 H4 σ4 q s4 ok4 hS4 => ⟨Δ4, M4, F4, s1.trans s4, ok4, hS4, q⟩⟩
    · exact post.rt.step s1
    · exact fun Δ4 M4 F4 H4 σ4 q s4 ok4 hS4 => post.nx Δ4 M4 F4 H4 σ4 q (s1.trans s4) ok4 hS4
  | false =>
    rw [if_neg Bool.false_ne_true] at hz ⊢
    exact post.nx Δ' M1 F1 H1 σ' hz s1 ok1 (hS'.mono st1.ext)
def whP (t : SB) (body : ST) : Nat → List Sl → Pg Out
  | 0, _ => .fail
  | m + 1, Δ => (t Δ).bind fun c => if c = true then (body Δ).bind fun o => match o with
    | .nx Δ2 => whP t body m Δ2
    | .ct Δ2 => whP t body m Δ2
    | .bk Δ2 => .ret (.nx Δ2)
    | .rt d => .ret (.rt d) else .ret (.nx Δ)
def tWh (f : List Sl → Nat) (t : SB) (body : ST) : ST := fun Δ => whP t body (f Δ) Δ
theorem r_while {f : List Sl → Nat} {tb : SB} {tbd : ST} (hp : PassesOwn (model X.prog X.w) X.A X.env X.xe) (hT : IT γ X c tb) (hB : ISs γ X body tbd) : IS γ X (.While c body [] pos) (tWh f tb tbd) := .mk fun b u M0 Δ Δr M n ks S w => by
  refine s_while hp (fun m Δ' M' => ∃ Δa n', SI γ b u M0 Δa Δ' M' n' ∧ wpB b n' (whP tb tbd m Δa) (OutOk γ b u M0 ks)) ⟨Δ, n, S, w⟩ ?_
  rintro m Δ' M' ⟨Δa, n', S', w2⟩
  cases m with
  | zero => exact w2.elim
  | succ m =>
    refine hT.go b u M0 Δa Δ' M' n' _ S' ((wpB_bind.1 w2).mono fun z n1 w3 M1 A1 => ?_)
    cases z with
    | true =>
      rw [if_pos rfl] at w3 ⊢
      refine hB.go b u M0 Δa Δ' M1 n1 _ (S'.aft A1) ((wpB_bind.1 w3).mono fun o n2 w4 => ?_)
      cases o with
      | nx Δ2 => exact fun Δr2 M2 S2 => ⟨m, Nat.lt_succ_self m, Δ2, n2, S2, w4⟩
      | ct Δ2 => exact fun Δr2 M2 S2 => ⟨m, Nat.lt_succ_self m, Δ2, n2, S2, w4⟩
      | bk Δ2 => exact w4
      | rt d => exact w4
    | false =>
      rw [if_neg Bool.false_ne_true] at w3 ⊢
      exact w3 Δ' M1 (S'.aft A1)
end
/-! ### what is owned, let go -/
def frzO : MO → D
  | .lst ds => .lst ds | .ins C fs ds => .ins C fs ds | .dct ks ds => .dct ks ds
theorem frzO_rn {ρ : Nat → Addr} (m : MO) : rn ρ (frzO m) = frzO (rnM ρ m) := by
  cases m with
  | lst ds => exact rn_lst ds
  | ins C fs ds => exact rn_ins C fs ds
  | dct ks ds => exact rn_dct ks ds
section
variable {K : PySem.W.Frag} {F H : Hp} {M : Store}
theorem frz_any (ok : Ok K F M H) {q : Addr} {m : MO} (hm : M q = some m) (nd : ∀ ks ds, m ≠ .dct ks ds) : ∃ F', Ok K F' (mdel M q) H ∧ Stp F M H F' (mdel M q) H ∧ Is K F' (frzO m) (.ref q) := by
  obtain ⟨hF, o, hH, hr⟩ := ok.mem q _ hm
  refine ⟨upd F q o, ⟨fun x w e => ?_, fun x m e => ?_⟩, ⟨same_new hF, fun x w e => ?_, fun x w e _ => e, fun x m n => ?_, fun x n => n⟩, ?_⟩
  · by_cases z : x = q
    · subst z; rw [upd_same] at e; cases e; exact .inl hH
    · rw [upd_ne z] at e; exact ok.sub x w e
  · by_cases z : x = q
    · rw [z, mdel_same] at e; cases e
    · rw [mdel_ne z] at e
      obtain ⟨g1, w, g2, g3⟩ := ok.mem x m e
      exact ⟨by rw [upd_ne z]; exact g1, w, g2, g3.mono (same_new hF)⟩
  · by_cases z : x = q
    · subst z; exact .inr (.inr (by rw [hm]; simp))
    · rw [upd_ne z] at e; exact .inl e
  · by_cases z : x = q
    · rw [z, mdel_same]
    · rw [mdel_ne z]; exact m
  · cases m with
    | lst ds =>
      obtain ⟨vs, rfl, il⟩ := hr
      exact is_lst.2 ⟨q, vs, rfl, upd_same, il.mono (same_new hF)⟩
    | ins C fs ds =>
      obtain ⟨dx, vs, rfl, l, il⟩ := hr
      exact is_ins.2 ⟨q, dx, vs, rfl, upd_same, l, il.mono (same_new hF)⟩
    | dct ks ds => exact absurd rfl (nd ks ds)
/-- a dict that is let go is locked -/
theorem frz_dct (ok : Ok K F M H) {q : Addr} {ks : List Key} {ds : List D} (hm : M q = some (.dct ks ds)) : ∃ u, H q = some u ∧ Mut (some u) ∧ ∀ od, ∃ F', Ok K F' (mdel M q) (upd H q (.frz od u)) ∧ Stp F M H F' (mdel M q) (upd H q (.frz od u)) ∧ Is K F' (.dct ks ds) (.ref q) := by
  obtain ⟨hF, o, hH, vs, rfl, l, il⟩ := ok.mem q _ hm
  refine ⟨_, hH, trivial, fun od => ⟨upd F q (.frz od (.dK (ks.zip vs))), ⟨fun x w e => ?_, fun x m e => ?_⟩, ⟨same_new hF, fun x w e => ?_, fun x w e n => ?_, fun x m n => ?_, fun x n => ?_⟩, ?_⟩⟩
  · by_cases z : x = q
    · subst z; rw [upd_same] at e ⊢; exact .inl e
    · rw [upd_ne z] at e ⊢; exact ok.sub x w e
  · by_cases z : x = q
    · rw [z, mdel_same] at e; cases e
    · rw [mdel_ne z] at e
      obtain ⟨g1, w, g2, g3⟩ := ok.mem x m e
      exact ⟨by rw [upd_ne z]; exact g1, w, by rw [upd_ne z]; exact g2, g3.mono (same_new hF)⟩
  · by_cases z : x = q
    · subst z; exact .inr (.inr (by rw [hm]; simp))
    · rw [upd_ne z] at e; exact .inl e
  · by_cases z : x = q
    · rw [z, hm] at n; cases n
    · rw [upd_ne z]; exact e
  · by_cases z : x = q
    · rw [z, mdel_same]
    · rw [mdel_ne z]; exact m
  · by_cases z : x = q
    · rw [z, upd_same]; simp
    · rw [upd_ne z]; exact n
  · exact is_dct.2 ⟨q, vs, od, rfl, upd_same, l, il.mono (same_new hF)⟩
theorem mo_dct (m : MO) : (∀ ks ds, m ≠ .dct ks ds) ∨ ∃ ks ds, m = .dct ks ds := by
  cases m with
  | dct ks ds => exact .inr ⟨ks, ds, rfl⟩
  | _ => exact .inl fun _ _ e => by cases e
end
section
variable {X : Cx} {Δ : DS} {M : Store} {ks : KS} {k : DK} {sts : List Stmt} {e : Expr}
theorem ss_frz1 {i : Nat} {q : Addr} {m : MO} (hi : Δ[i]? = some (some (.cell q))) (hm : M q = some m) (h : SsD X sts (Δ.set i (some (frzO m))) (mdel M q) ks) : SsD X sts Δ M ks := fun F H σ Q hS ok post => by
  have fin : ∀ {F' : Hp} {H' : Hp}, Stp F M H F' (mdel M q) H' → Is X.K F' (frzO m) (.ref q) → IsS X.K F' (Δ.set i (some (frzO m))) σ := fun {F' H'} st iq => ⟨by rw [List.length_set]; exact hS.1, fun j d e => by
    rcases set_get e with ⟨rfl, _, e1⟩ | ⟨_, e1⟩
    · cases e1
      obtain ⟨v, h1, h2⟩ := hS.2 j _ hi
      rw [is_cell.1 h2] at h1
      exact ⟨_, h1, iq⟩
    · obtain ⟨v, h1, h2⟩ := hS.2 j d e1
      exact ⟨v, h1, h2.mono st.ext⟩⟩
  rcases mo_dct m with nd | ⟨ks, ds, rfl⟩
  · obtain ⟨F', ok', st, iq⟩ := frz_any ok hm nd
    exact h F' H σ Q (fin st iq) ok' (post.step st)
  · obtain ⟨u, hu, mu, g⟩ := frz_dct ok hm
    refine semSs_lock hu mu fun od => ?_
    obtain ⟨F', ok', st, iq⟩ := g od
    exact h F' _ σ Q (fin st iq) ok' (post.step st)
theorem ev_frz1 (h : EvD X e Δ M fun d M1 => ∃ q m, d = .cell q ∧ M1 q = some m ∧ k (frzO m) (mdel M1 q)) : EvD X e Δ M k := fun F H σ Q hS ok post =>
  sem_lockP (h F H σ _ hS ok fun d M1 F1 H1 v ⟨q, m, ed, hm, hk⟩ st ok1 i => by
    subst ed
    rw [is_cell.1 i]
    rcases mo_dct m with nd | ⟨ks, ds, rfl⟩
    · obtain ⟨F', ok', st', iq⟩ := frz_any ok1 hm nd
      exact .inl (post _ _ F' H1 _ hk (st.trans st') ok' iq)
    · obtain ⟨u, hu, mu, g⟩ := frz_dct ok1 hm
      refine .inr ⟨q, u, hu, mu, fun od => ?_⟩
      obtain ⟨F', ok', st', iq⟩ := g od
      exact post _ _ F' _ _ hk (st.trans st') ok' iq)
end
section
variable {γ : Nat → Addr} {X : Cx} {sts : List Stmt} {x : Str} {pos px : Pos} {b : Bool} {u : Addr × Addr} {M0 M : Store} {Δ : List Sl} {Δr : DS} {n : Nat}
theorem SI.frz (S : SI γ b u M0 Δ Δr M n) {i : Nat} {q : Addr} {m : MO} (h : Δ[i]? = some (.o m)) (hq : Δr[i]? = some (some (.cell q))) : SI γ b u M0 (Δ.set i (.v (frzO m))) (Δr.set i (some (frzO (rnM (rho γ u) m)))) (mdel M q) n := by
  obtain ⟨q2, e1, e2, e3, e4, _⟩ := S.rel.o i m h
  rw [hq] at e1
  cases e1
  refine ⟨⟨by rw [List.length_set, List.length_set]; exact S.rel.len, fun j c g => ?_, fun j m2 g => ?_, fun j l m1 m2 q' n' g1 g2 g3 g4 => ?_, fun j c g => ?_⟩, fun hb => (S.urn hb).mdel (e4 hb), fun r m1 hr e => ?_⟩
  · rcases set_get g with ⟨rfl, hi, e⟩ | ⟨hn, g⟩
    · cases e
      rw [List.getElem?_set_self (by rw [← S.rel.len]; exact hi), frzO_rn]
    · rw [List.getElem?_set_ne (Ne.symm hn)]
      exact S.rel.v j c g
  · rcases set_get g with ⟨rfl, hi, e⟩ | ⟨hn, g⟩
    · cases e
    · rw [List.getElem?_set_ne (Ne.symm hn)]
      obtain ⟨q3, f1, f2, f3, f4, f5⟩ := S.rel.o j m2 g
      have z : q3 ≠ q := fun z => by
        subst z
        exact S.rel.inj i j m m2 q3 (Ne.symm hn) h g hq f1
      exact ⟨q3, f1, by rw [mdel_ne z]; exact f2, f3, f4, f5⟩
  · rcases set_get g1 with ⟨rfl, hi, e⟩ | ⟨hn1, h1'⟩
    · cases e
    · rcases set_get g2 with ⟨rfl, hi, e⟩ | ⟨hn2, h2'⟩
      · cases e
      · rw [List.getElem?_set_ne (Ne.symm hn1)] at g3
        rw [List.getElem?_set_ne (Ne.symm hn2)] at g4
        exact S.rel.inj j l m1 m2 q' n' h1' h2' g3 g4
  · rcases set_get g with ⟨rfl, hi, e⟩ | ⟨hn, g⟩
    · cases e
    · rw [List.getElem?_set_ne (Ne.symm hn)]
      exact S.rel.w j c g
  · have z : r ≠ q := fun z => by rw [z, e3] at e; cases e
    rw [mdel_ne z]
    exact S.k0 r m1 hr e
def frzS (i : Nat) (Δ : List Sl) : List Sl := match Δ[i]? with
  | some (.o m) => Δ.set i (.v (frzO m))
  | _ => Δ
/-- ahead of the rest, slot i is let go -/
def tFrz (i : Nat) (t : ST) : ST := fun Δ => t (frzS i Δ)
theorem b_frz {i : Nat} {t : ST} (h : ISs γ X sts t) : ISs γ X sts (tFrz i t) := .mk fun b u M0 Δ Δr M n ks S w => by
  unfold tFrz frzS at w
  split at w
  · rename_i m hm
    obtain ⟨q, hq, hM⟩ := S.own hm
    exact ss_frz1 hq hM (h.go b u M0 _ _ _ n ks (S.frz hm hq) w)
  · exact h.go b u M0 Δ Δr M n ks S w
/-- return x, x owned -/
def tRetO (i : Nat) : ST := fun Δ => match Δ[i]? with
  | some (.o m) => .ret (.rt (frzO m))
  | some (.v d) => .ret (.rt d)
  | _ => .fail
theorem r_retO {i : Nat} (hN : X.N[i]? = some x) (hv : Vis X.env.scope x) (hd : (x == ("__debug__" : Str)) = false) (hcd : (x == ("__classdict__" : Str)) = false) : IS γ X (.Return (some (.Name x px)) pos) (tRetO i) := .mk fun b u M0 Δ Δr M n ks S w => by
  unfold tRetO at w
  split at w
  · rename_i m hm
    obtain ⟨q, hq, hM⟩ := S.own hm
    have S2 := S.frz hm hq
    refine s_ret (ev_frz1 (ev_var hN hv hd hcd hq ⟨q, _, rfl, hM, ?_⟩))
    have w1 := w (mdel M q) (Aft.of0 S2)
    rw [frzO_rn] at w1
    exact w1
  · rename_i d hm
    exact s_ret (ev_var hN hv hd hcd (S.rel.v i d hm) (w M (Aft.of0 S)))
  · exact w.elim
end
/-! ### a def -/
/-- which parameters are only looked at -/
def slOf : List Bool → List D → List Sl
  | true :: fl, d :: ds => .w d :: slOf fl ds
  | false :: fl, d :: ds => .v d :: slOf fl ds
  | [], ds => ds.map Sl.v
  | _ :: _, [] => []
def startS (fl : List Bool) (N : Nat) (ds : List D) : List Sl := slOf fl ds ++ List.replicate (N - ds.length) .e
def runF (fl : List Bool) (np N : Nat) (t : ST) (ds : List D) : Pg D := if ds.length = np then (t (startS fl N ds)).bind fun o => match o with
  | .nx _ => .ret .non
  | .rt d => .ret d
  | _ => .fail else .fail
theorem slOf_len : ∀ (fl : List Bool) (ds : List D), (slOf fl ds).length = ds.length
  | [], ds => by unfold slOf; rw [List.length_map]
  | true :: fl, d :: ds => by unfold slOf; rw [List.length_cons, List.length_cons, slOf_len fl ds]
  | false :: fl, d :: ds => by unfold slOf; rw [List.length_cons, List.length_cons, slOf_len fl ds]
  | true :: _, [] => by unfold slOf; rfl
  | false :: _, [] => by unfold slOf; rfl
theorem slOf_rel {ρ : Nat → Addr} {b : Bool} {M : Store} : ∀ {fl : List Bool} {ds drs : List D}, VwL ρ b M fl ds drs → (∀ (i : Nat) d, (slOf fl ds)[i]? = some (.v d) → drs[i]? = some (rn ρ d)) ∧ (∀ (i : Nat) d, (slOf fl ds)[i]? = some (.w d) → ∃ dr, drs[i]? = some dr ∧ Vw ρ b M d dr) ∧ ∀ (i : Nat) m, (slOf fl ds)[i]? ≠ some (.o m)
  | [], ds, drs, h => by
    unfold VwL at h
    subst h
    unfold slOf
    refine ⟨fun i d e => ?_, fun i d e => ?_, fun i m e => ?_⟩
    · rw [List.getElem?_map] at e
      obtain ⟨d', h1, e1⟩ := Option.map_eq_some_iff.mp e
      cases e1
      rw [rnL_get, h1]
      rfl
    · rw [List.getElem?_map] at e
      obtain ⟨d', h1, e1⟩ := Option.map_eq_some_iff.mp e
      cases e1
    · rw [List.getElem?_map] at e
      obtain ⟨d', h1, e1⟩ := Option.map_eq_some_iff.mp e
      cases e1
  | true :: fl, d :: ds, dr :: drs, h => by
    unfold VwL at h
    obtain ⟨a1, a2, a3⟩ := slOf_rel h.2
    unfold slOf
    refine ⟨fun i c e => ?_, fun i c e => ?_, fun i m e => ?_⟩
    · cases i with
      | zero => cases e
      | succ i => exact a1 i c e
    · cases i with
      | zero => cases e; exact ⟨dr, rfl, h.1⟩
      | succ i => exact a2 i c e
    · cases i with
      | zero => cases e
      | succ i => exact a3 i m e
  | false :: fl, d :: ds, dr :: drs, h => by
    unfold VwL at h
    obtain ⟨a1, a2, a3⟩ := slOf_rel h.2
    unfold slOf
    refine ⟨fun i c e => ?_, fun i c e => ?_, fun i m e => ?_⟩
    · cases i with
      | zero => cases e; show some dr = _; rw [h.1]
      | succ i => exact a1 i c e
    · cases i with
      | zero => cases e
      | succ i => exact a2 i c e
    · cases i with
      | zero => cases e
      | succ i => exact a3 i m e
  | true :: _, [], _, h => by unfold VwL at h; exact h.elim
  | false :: _, [], _, h => by unfold VwL at h; exact h.elim
  | true :: _, _ :: _, [], h => by unfold VwL at h; exact h.elim
  | false :: _, _ :: _, [], h => by unfold VwL at h; exact h.elim
theorem app_get {α : Type} {l r : List α} {i : Nat} {x : α} (h : (l ++ r)[i]? = some x) : (i < l.length ∧ l[i]? = some x) ∨ (l.length ≤ i ∧ x ∈ r) := by
  by_cases hi : i < l.length
  · rw [List.getElem?_append_left hi] at h
    exact .inl ⟨hi, h⟩
  · rw [List.getElem?_append_right (by omega)] at h
    exact .inr ⟨by omega, List.mem_of_getElem? h⟩
theorem start_rel {ρ : Nat → Addr} {b : Bool} {M : Store} (N : List Str) {fl : List Bool} {ds drs : List D} (h : VwL ρ b M fl ds drs) : Rel ρ an b M (startS fl N.length ds) (startD N drs) M := by
  obtain ⟨a1, a2, a3⟩ := slOf_rel h
  have hl : drs.length = ds.length := VwL.len h
  have at_ : ∀ (i : Nat) (z : Sl), (startS fl N.length ds)[i]? = some z → z ≠ .e → i < ds.length ∧ (slOf fl ds)[i]? = some z := fun i z e ne => by
    rcases app_get e with ⟨h1, h2⟩ | ⟨_, h2⟩
    · exact ⟨by rw [slOf_len] at h1; exact h1, h2⟩
    · exact (ne (List.eq_of_mem_replicate h2)).elim
  have to_ : ∀ (i : Nat) (d : D), i < ds.length → drs[i]? = some d → (startD N drs)[i]? = some (some d) := fun i d hi e => by
    unfold startD
    rw [List.getElem?_append_left (by rw [List.length_map, hl]; exact hi), List.getElem?_map, e]
    rfl
  refine ⟨by unfold startS startD; simp [slOf_len, hl], fun i d e => ?_, fun i m e => ?_, fun i j m m' q n e => ?_, fun i d e => ?_⟩
  · obtain ⟨hi, e1⟩ := at_ i _ e (by simp)
    exact to_ i _ hi (a1 i d e1)
  · obtain ⟨hi, e1⟩ := at_ i _ e (by simp)
    exact (a3 i m e1).elim
  · obtain ⟨hi, e1⟩ := at_ i _ e (by simp)
    exact (a3 i m e1).elim
  · obtain ⟨hi, e1⟩ := at_ i _ e (by simp)
    obtain ⟨dr, h1, h2⟩ := a2 i d e1
    exact ⟨dr, to_ i dr hi h1, h2⟩
section
variable {P : Program} {w : World} {K : PySem.W.Frag} {mg : Str → Option Value} {base : Heap} {γ : Nat → Addr}
theorem fn_ok {F : List D → Pg D} {x qual : Str} {st : Stmt} {f : Addr} {fd : FuncData} {N ps : List Str} {n : Nat} {t : ST} {dvs : List V} {fl : List Bool} (hF : F = runF fl ps.length N.length t) (Fn : FnD K x qual st dvs f fd) (S : FnScope N ps (defScope st))
    (hbody : ∀ (cdv : Value) (A : Around) (outer : List Env) (s : Shared) (H : Hp) (E : XK), Room n (A.deeper (PyProof.Rows.envOfC qual (defScope st) s.heap.objs.size f cdv)) → ISs γ (XOf P w K mg base N qual st f cdv A outer s H E) (defBody st) t) :
    FnOk P w K mg base CX0 (n + 1) f fd ps (spOf K (spW γ fl F)) := by
  subst hF
  refine ok_dD Fn S (fun drs M k ⟨b, u, ds, m, e, U, h⟩ => ?_) fun cdv A outer s H E drs M k hr ⟨b, u, ds, m, e, U, h⟩ => ?_
  · unfold runF at h
    split at h
    · rw [VwL.len e]; assumption
    · exact h.elim
  · unfold runF at h
    split at h
    · refine (hbody cdv A outer s H E hr).go b u M (startS fl N.length ds) _ M m _ ⟨start_rel N e, U, KeepB.refl⟩ ((wpB_bind.1 h).mono fun o n1 w1 => ?_)
      cases o with
      | nx Δ' =>
        intro Δr' M' S'
        have w2 := w1 M' (Aft.of0 S')
        rw [rn_non] at w2
        exact w2
      | rt d => exact w1
      | bk _ => exact w1.elim
      | ct _ => exact w1.elim
    · exact h.elim
end
end DL
end
section
set_option Elab.async false
set_option linter.all false
set_option maxRecDepth 100000
namespace DL
open PySem L2 PyProof.Rows
theorem rnL_nil {ρ : Nat → Addr} : rnL ρ [] = [] := by unfold rnL; rfl
theorem rnL_cons {ρ : Nat → Addr} (d : D) (ds : List D) : rnL ρ (d :: ds) = rn ρ d :: rnL ρ ds := by conv => lhs; unfold rnL
theorem rnL2 {ρ : Nat → Addr} (d d2 : D) : rnL ρ [d, d2] = [rn ρ d, rn ρ d2] := by rw [rnL_cons, rnL_cons, rnL_nil]
theorem VwL0 {ρ : Nat → Addr} {b : Bool} {M : Store} {ds drs : List D} (h : drs = rnL ρ ds) : VwL ρ b M [] ds drs := by unfold VwL; exact h
theorem rho_s {γ : Nat → Addr} {u : Addr × Addr} {c : Nat} : rho γ u (c + 1) = γ c := rfl
/-! ### instances -/
def isC (c : Nat) : D → Bool
  | .ins C _ _ => C == c + 1
  | _ => false
theorem isC_is {c : Nat} {d : D} (h : isC c d = true) : ∃ fs ds, d = .ins (c + 1) fs ds := by
  unfold isC at h
  split at h
  · rename_i C fs ds
    have := eq_of_beq h
    subst this
    exact ⟨fs, ds, rfl⟩
  · cases h
theorem fld_rn {ρ : Nat → Addr} {f : Str} : ∀ {fs : List Str} {ds : List D} {r : D}, fldD fs ds f = some r → fldD fs (rnL ρ ds) f = some (rn ρ r)
  | [], _, _, h => by unfold fldD at h; cases h
  | _ :: _, [], _, h => by unfold fldD at h; cases h
  | g :: fs, d :: ds, r, h => by
    unfold rnL
    unfold fldD at h ⊢
    split at h
    · cases h; rfl
    · exact fld_rn h
def fldO (c : Nat) (f : Str) : D → Option D
  | .ins C fs ds => if C = c + 1 then fldD fs ds f else none
  | _ => none
section
variable {γ : Nat → Addr} {X : Cx} {a c' e e2 o tg : Expr} {es rest : List Expr} {pos p apos : Pos} {x f m : Str} {s t : SE} {c n : Nat} {F : List D → Pg D} {kws : List Keyword} {kn : List Str}
theorem i_fld (hc : Cls X.K (γ c)) (hn : NoAttr X.K (γ c) f) (h : IE γ X e s) (hb : attributeBase e f X.env (eval e X.env) = eval e X.env := by rfl) : IE γ X (.Attribute e f pos) (c1 (fldO c f) s) := .mk fun b u M0 Δ Δr M n k S w => by
  refine ev_fld (h.go b u M0 Δ Δr M n _ S ((wpB_bind.1 w).mono fun d n1 w1 M1 A1 => ?_)) hb
  obtain ⟨r, h1, h2⟩ := wpB_ofO w1
  unfold fldO at h1
  split at h1
  · split at h1
    · rename_i C fs ds e
      subst e
      rw [rn_ins]
      exact ⟨_, _, _, _, rfl, hc, hn, fld_rn h1, h2 M1 A1⟩
    · cases h1
  · cases h1
def cProp (c : Nat) (F : List D → Pg D) (s : SE) : SE := fun Δ => (s Δ).bind fun d => if isC c d = true then F [d] else .fail
theorem i_prop (hc : Cls X.K (γ c)) (pr : PropD X.prog X.w X.K X.mg X.base (γ c) f n (spW γ [] F)) (hr : Room (n + 1) X.A) (h : IE γ X e s) (hb : attributeBase e f X.env (eval e X.env) = eval e X.env := by rfl) : IE γ X (.Attribute e f pos) (cProp c F s) := .mk fun b u M0 Δ Δr M n k S w => by
  refine ev_prop hc pr hr (h.go b u M0 Δ Δr M n _ S ((wpB_bind.1 w).mono fun d n1 w1 M1 A1 => ?_)) hb
  split at w1
  · rename_i hd
    obtain ⟨fs, ds, rfl⟩ := isC_is hd
    rw [rn_ins]
    refine ⟨_, _, rfl, b, u, [.ins (c + 1) fs ds], n1, ?_, A1.urn, w1.mono fun d n2 q M2 A2 => q M2 (A1.trans A2)⟩
    exact VwL0 (by rw [rnL_cons, rnL_nil, rn_ins])
  · exact w1.elim
def noFd (m : Str) : D → Bool
  | .ins _ fs _ => noF fs m
  | _ => false
def cMeth (c : Nat) (m : Str) (F : List D → Pg D) (s : SE) (t : SA) : SE := fun Δ => (s Δ).bind fun d => if (isC c d && noFd m d) = true then (t Δ).bind fun ds => F (d :: ds) else .fail
theorem i_meth {t : SA} {pl : PySem.Sem Bool} (hc : Cls X.K (γ c)) (mt : MethD X.prog X.w X.K X.mg X.base (γ c) m n (spW γ [] F)) (hr : Room n X.A) (h : IE γ X o s) (ha : IA γ X (e :: es) t)
    (hst : starEach (e :: es) X.env = (false, eval e X.env) :: starEach es X.env := by rfl) (hpl : (backTo pos (starEach es X.env)).any (·.1) = false := by rfl)
    (ht : eval (.Call (.Attribute o m apos) (e :: es) [] pos) X.env = (do
      let ov ← eval o X.env
      standAt apos.atName
      let (f, first) ← holding [ov] (getMethod ov m pl)
      callWith pos f first (backTo pos (starEach (e :: es) X.env)) (backToKw pos (keywordEach [] X.env))) := by rfl) : IE γ X (.Call (.Attribute o m apos) (e :: es) [] pos) (cMeth c m F s t) := .mk fun b u M0 Δ Δr M n k S w => by
  refine ev_meth (pl := pl) hc mt hr (h.go b u M0 Δ Δr M n _ S ((wpB_bind.1 w).mono fun d n1 w1 M1 A1 => ?_)) hst hpl ht
  split at w1
  · rename_i hd
    rw [Bool.and_eq_true] at hd
    obtain ⟨fs, ds, rfl⟩ := isC_is hd.1
    rw [rn_ins]
    refine ⟨_, _, rfl, hd.2, ha.go b u M0 Δ Δr M1 n1 _ (S.aft A1) ((wpB_bind.1 w1).mono fun as n2 w2 M2 A2 => ⟨b, u, .ins (c + 1) fs ds :: as, n2, ?_, A2.urn, w2.mono fun d n3 q M3 A3 => q M3 ((A1.trans A2).trans A3)⟩)⟩
    exact VwL0 (by rw [rnL_cons, rn_ins])
  · exact w1.elim
theorem i_meth0 {pl : PySem.Sem Bool} (hc : Cls X.K (γ c)) (mt : MethD X.prog X.w X.K X.mg X.base (γ c) m n (spW γ [] F)) (hr : Room n X.A) (h : IE γ X o s)
    (ht : eval (.Call (.Attribute o m apos) [] [] pos) X.env = (do
      let ov ← eval o X.env
      standAt apos.atName
      let (f, first) ← holding [ov] (getMethod ov m pl)
      callWith pos f first (backTo pos (starEach [] X.env)) (backToKw pos (keywordEach [] X.env))) := by rfl) : IE γ X (.Call (.Attribute o m apos) [] [] pos) (cMeth c m F s aN) := .mk fun b u M0 Δ Δr M n k S w => by
  refine ev_meth0 (pl := pl) hc mt hr (h.go b u M0 Δ Δr M n _ S ((wpB_bind.1 w).mono fun d n1 w1 M1 A1 => ?_)) ht
  split at w1
  · rename_i hd
    rw [Bool.and_eq_true] at hd
    obtain ⟨fs, ds, rfl⟩ := isC_is hd.1
    rw [rn_ins]
    refine ⟨_, _, rfl, hd.2, b, u, [.ins (c + 1) fs ds], n1, ?_, A1.urn, w1.mono fun d n3 q M3 A3 => q M3 (A1.trans A3)⟩
    exact VwL0 (by rw [rnL_cons, rnL_nil, rn_ins])
  · exact w1.elim
/-! keywords: the values in the order of the parameters -/
structure IK (γ : Nat → Addr) (X : Cx) (kws : List Keyword) (s : SA) : Prop where
  go : ∀ b u M0 Δ Δr M n (k : AK), SI γ b u M0 Δ Δr M n → wpB b n (s Δ) (fun d n' => ∀ M', Aft b u M M' n' → k (rnL (rho γ u) d) M') → EvK X kws Δr M k
theorem k_nil : IK γ X [] aN := .mk fun b u M0 Δ Δr M n k S w => by
  have w := w M S.here
  unfold rnL at w
  exact ek_nil w
theorem k_cons {t : SA} {nm : Option Str} {kpos : Pos} (h : IE γ X e s) (ht : IK γ X kws t) : IK γ X (⟨nm, e, kpos⟩ :: kws) (aC s t) := .mk fun b u M0 Δ Δr M n k S w => ek_cons (h.go b u M0 Δ Δr M n _ S ((wpB_bind.1 w).mono fun d n1 w1 M1 A1 => ht.go b u M0 Δ Δr M1 n1 _ (S.aft A1) ((wpB_bind.1 w1).mono fun ds n2 w2 M2 A2 => by
  have w3 := w2 M2 (A1.trans A2)
  unfold rnL at w3
  exact w3)))
/-- a way to put values in order -/
structure Ord (g : List D → List D → List D) : Prop where
  rn : ∀ (ρ : Nat → Addr) ds es, g (rnL ρ ds) (rnL ρ es) = rnL ρ (g ds es)
def cCallK (F : List D → Pg D) (g : List D → List D → List D) (k : Nat) (s t : SA) : SE := fun Δ => (s Δ).bind fun ds => (t Δ).bind fun es => if es.length = k then F (g ds es) else .fail
theorem i_callK0 {kl : Nat} {t : SA} {g : List D → List D → List D} (C : CalK X.prog X.w X.K X.mg X.base x n 0 kn g (spW γ [] F)) (hr : Room n X.A) (hg : Gl X x) (og : Ord g) (h : IK γ X kws t)
    (hall : (backToKw pos (keywordEach kws X.env)).all (·.1.isSome) = true := by rfl) (hks : (backToKw pos (keywordEach kws X.env)).filterMap (·.1) = kn := by rfl) (hdb : (x == ("__debug__" : Str)) = false := by decide)
    (hpl : ((backTo pos (starEach [] X.env)).any (·.1) || (backToKw pos (keywordEach kws X.env)).any (·.1.isNone)) = false := by rfl) (hkl : kn.length = kl := by rfl) : IE γ X (.Call (.Name x p) [] kws pos) (cCallK F g kl aN t) := .mk fun b u M0 Δ Δr M n k S w => by
  refine ev_callK0 C hr hg (h.go b u M0 Δ Δr M n _ S ((wpB_bind.1 (show wpB b n ((t Δ).bind _) _ from w)).mono fun es n1 w1 M1 A1 => ?_)) hall hks hdb hpl
  split at w1
  · rename_i hl
    refine ⟨by rw [rnL_len, hkl]; exact hl, b, u, g [] es, n1, ?_, A1.urn, w1.mono fun d n3 q M3 A3 => q M3 (A1.trans A3)⟩
    exact VwL0 (by rw [← og.rn, rnL_nil])
  · exact w1.elim
def cMethK (c : Nat) (m : Str) (F : List D → Pg D) (g : List D → List D → List D) (k : Nat) (s : SE) (t : SA) : SE := fun Δ => (s Δ).bind fun d => if (isC c d && noFd m d) = true then (t Δ).bind fun es => if es.length = k then F (g [d] es) else .fail else .fail
theorem i_methK0 {kl : Nat} {t : SA} {g : List D → List D → List D} {pl : PySem.Sem Bool} (hc : Cls X.K (γ c)) (mt : MethK X.prog X.w X.K X.mg X.base (γ c) m n 0 kn g (spW γ [] F)) (hr : Room n X.A) (og : Ord g) (h : IE γ X o s) (hk : IK γ X kws t)
    (hall : (backToKw pos (keywordEach kws X.env)).all (·.1.isSome) = true := by rfl) (hks : (backToKw pos (keywordEach kws X.env)).filterMap (·.1) = kn := by rfl) (hpl : ((backTo pos (starEach [] X.env)).any (·.1) || (backToKw pos (keywordEach kws X.env)).any (·.1.isNone)) = false := by rfl)
    (ht : eval (.Call (.Attribute o m apos) [] kws pos) X.env = (do
      let ov ← eval o X.env
      standAt apos.atName
      let (f, first) ← holding [ov] (getMethod ov m pl)
      callWith pos f first (backTo pos (starEach [] X.env)) (backToKw pos (keywordEach kws X.env))) := by rfl) (hkl : kn.length = kl := by rfl) : IE γ X (.Call (.Attribute o m apos) [] kws pos) (cMethK c m F g kl s t) := .mk fun b u M0 Δ Δr M n k S w => by
  refine ev_methK0 (pl := pl) hc mt hr (h.go b u M0 Δ Δr M n _ S ((wpB_bind.1 w).mono fun d n1 w1 M1 A1 => ?_)) hall hks hpl ht
  split at w1
  · rename_i hd
    rw [Bool.and_eq_true] at hd
    obtain ⟨fs, ds, rfl⟩ := isC_is hd.1
    rw [rn_ins]
    refine ⟨_, _, rfl, hd.2, hk.go b u M0 Δ Δr M1 n1 _ (S.aft A1) ((wpB_bind.1 w1).mono fun es n2 w2 M2 A2 => ?_)⟩
    split at w2
    · rename_i hl
      refine ⟨by rw [rnL_len, hkl]; exact hl, b, u, g [.ins (c + 1) fs ds] es, n2, ?_, A2.urn, w2.mono fun d n3 q M3 A3 => q M3 ((A1.trans A2).trans A3)⟩
      exact VwL0 (by rw [← og.rn, rnL_cons, rnL_nil, rn_ins])
    · exact w2.elim
  · exact w1.elim
/-! own operators -/
def cOwn (c : Nat) (F : List D → Pg D) (s t : SE) : SE := fun Δ => (s Δ).bind fun d => (t Δ).bind fun d2 => if (isC c d && isC c d2) = true then F [d, d2] else .fail
theorem i_own {op : Operator} (mt : MethD X.prog X.w X.K X.mg X.base (γ c) (PySem.dunder op.info.2) n (spW γ [] F)) (hr : Room n X.A) (hc : PySem.W.selfFirst X.K (γ c) = true) (h : IE γ X a s) (h2 : IE γ X c' t) : IE γ X (.BinOp a op c' pos) (cOwn c F s t) := .mk fun b u M0 Δ Δr M n k S w => by
  refine ev_own mt hr hc (h.go b u M0 Δ Δr M n _ S ((wpB_bind.1 w).mono fun d n1 w1 M1 A1 => h2.go b u M0 Δ Δr M1 n1 _ (S.aft A1) ((wpB_bind.1 w1).mono fun d2 n2 w2 M2 A2 => ?_)))
  split at w2
  · rename_i hd
    rw [Bool.and_eq_true] at hd
    obtain ⟨fs, ds, rfl⟩ := isC_is hd.1
    obtain ⟨gs, es, rfl⟩ := isC_is hd.2
    refine ⟨fs, _, gs, _, by rw [rn_ins]; rfl, by rw [rn_ins]; rfl, b, u, [.ins (c + 1) fs ds, .ins (c + 1) gs es], n2, ?_, A2.urn, w2.mono fun d n3 q M3 A3 => q M3 ((A1.trans A2).trans A3)⟩
    exact VwL0 (by rw [rnL2])
  · exact w2.elim
def cOwnIn (neg : Bool) (c : Nat) (F : List D → Pg D) (s t : SE) : SE := fun Δ => (s Δ).bind fun d => (t Δ).bind fun d2 => if isC c d2 = true then (F [d2, d]).bind fun r => (ofO (toB r)).bind fun z => .ret (.bl (if neg then !z else z)) else .fail
theorem k_ownIn (mt : MethD X.prog X.w X.K X.mg X.base (γ c) "__contains__" n (spW γ [] F)) (hr : Room n X.A) (h : IE γ X a s) (h2 : IE γ X c' t) : IC γ X .In a c' (cOwnIn false c F s t) := .mk fun b u M0 Δ Δr M n k S w => by
  refine c_ownIn mt hr (h.go b u M0 Δ Δr M n _ S ((wpB_bind.1 w).mono fun d n1 w1 M1 A1 => h2.go b u M0 Δ Δr M1 n1 _ (S.aft A1) ((wpB_bind.1 w1).mono fun d2 n2 w2 M2 A2 => ?_)))
  split at w2
  · rename_i hd
    obtain ⟨fs, ds, rfl⟩ := isC_is hd
    refine ⟨fs, _, by rw [rn_ins]; rfl, b, u, [.ins (c + 1) fs ds, d], n2, VwL0 (by rw [rnL2]), A2.urn, (wpB_bind.1 w2).mono fun r n3 w3 M3 A3 => ?_⟩
    obtain ⟨z, h3, h4⟩ := wpB_ofO (wpB_bind.1 w3)
    have h5 := h4 M3 ((A1.trans A2).trans A3)
    rw [rn_bl] at h5
    rw [toB_is h3, rn_bl]
    exact ⟨z, rfl, h5⟩
  · exact w2.elim
theorem k_ownNotIn (mt : MethD X.prog X.w X.K X.mg X.base (γ c) "__contains__" n (spW γ [] F)) (hr : Room n X.A) (h : IE γ X a s) (h2 : IE γ X c' t) : IC γ X .NotIn a c' (cOwnIn true c F s t) := .mk fun b u M0 Δ Δr M n k S w => by
  refine c_ownNotIn mt hr (h.go b u M0 Δ Δr M n _ S ((wpB_bind.1 w).mono fun d n1 w1 M1 A1 => h2.go b u M0 Δ Δr M1 n1 _ (S.aft A1) ((wpB_bind.1 w1).mono fun d2 n2 w2 M2 A2 => ?_)))
  split at w2
  · rename_i hd
    obtain ⟨fs, ds, rfl⟩ := isC_is hd
    refine ⟨fs, _, by rw [rn_ins]; rfl, b, u, [.ins (c + 1) fs ds, d], n2, VwL0 (by rw [rnL2]), A2.urn, (wpB_bind.1 w2).mono fun r n3 w3 M3 A3 => ?_⟩
    obtain ⟨z, h3, h4⟩ := wpB_ofO (wpB_bind.1 w3)
    have h5 := h4 M3 ((A1.trans A2).trans A3)
    rw [rn_bl] at h5
    rw [toB_is h3, rn_bl]
    exact ⟨z, rfl, h5⟩
  · exact w2.elim
/-! own == -/
/-- the other one's kind: a built-in one of ts, or a class of cs -/
def okT (ts : List String) (cs : List Nat) (d : D) : Bool := match tyD d with
  | some t => ts.contains t
  | none => match d with
    | .ins C _ _ => cs.any fun c => C == c + 1
    | _ => false
structure EqFacts (K : PySem.W.Frag) (γ : Nat → Addr) (c : Nat) (ts : List String) (cs : List Nat) : Prop where
  ty : ∀ t ∈ ts, PySem.W.notFirst K (γ c) (.type t) = true
  cl : ∀ d ∈ cs, TyC K (γ d) ∧ PySem.W.notFirst K (γ c) (.ref (γ d)) = true
theorem okT_is {K : PySem.W.Frag} {M : Store} {u : Addr × Addr} {ts : List String} {cs : List Nat} {d : D} (E : EqFacts K γ c ts cs) (h : okT ts cs d = true) : ∃ t, TyV K M (rn (rho γ u) d) t ∧ PySem.W.notFirst K (γ c) t = true := by
  unfold okT at h
  split at h
  · rename_i t ht
    exact ⟨.type t, .inl ⟨t, tyD_rn ht, rfl⟩, E.ty t (by simpa using h)⟩
  · split at h
    · rename_i C fs ds _
      obtain ⟨c2, h1, h2⟩ := List.any_eq_true.mp h
      have := eq_of_beq h2
      subst this
      obtain ⟨k1, k2⟩ := E.cl c2 h1
      exact ⟨.ref (γ c2), .inr ⟨γ c2, fs, rnL (rho γ u) ds, by rw [rn_ins]; rfl, k1, rfl⟩, k2⟩
    · cases h
def cEqC (neg : Bool) (c : Nat) (ts : List String) (cs : List Nat) (F : List D → Pg D) (s t : SE) : SE := fun Δ => (s Δ).bind fun d => (t Δ).bind fun d2 => if (isC c d && okT ts cs d2) = true then (F [d, d2]).bind fun r => (ofO (toB r)).bind fun z => .ret (.bl (if neg then !z else z)) else .fail
theorem k_eqC {ts : List String} {cs : List Nat} (mt : MethD X.prog X.w X.K X.mg X.base (γ c) "__eq__" n (spW γ [] F)) (hr : Room n X.A) (E : EqFacts X.K γ c ts cs) (h : IE γ X a s) (h2 : IE γ X c' t) : IC γ X .Eq a c' (cEqC false c ts cs F s t) := .mk fun b u M0 Δ Δr M n k S w => by
  refine c_ownEq mt hr (h.go b u M0 Δ Δr M n _ S ((wpB_bind.1 w).mono fun d n1 w1 M1 A1 => h2.go b u M0 Δ Δr M1 n1 _ (S.aft A1) ((wpB_bind.1 w1).mono fun d2 n2 w2 M2 A2 => ?_)))
  split at w2
  · rename_i hd
    rw [Bool.and_eq_true] at hd
    obtain ⟨fs, ds, rfl⟩ := isC_is hd.1
    obtain ⟨t', h3, h4⟩ := okT_is (M := M2) (u := u) E hd.2
    refine ⟨fs, _, t', by rw [rn_ins]; rfl, h3, h4, b, u, [.ins (c + 1) fs ds, d2], n2, VwL0 (by rw [rnL2]), A2.urn, (wpB_bind.1 w2).mono fun r n3 w3 M3 A3 => ?_⟩
    obtain ⟨z, h5, h6⟩ := wpB_ofO (wpB_bind.1 w3)
    rw [toB_is h5]
    exact h6 M3 ((A1.trans A2).trans A3)
  · exact w2.elim
theorem k_neC {ts : List String} {cs : List Nat} (mt : MethD X.prog X.w X.K X.mg X.base (γ c) "__eq__" n (spW γ [] F)) (hr : Room (n + 1) X.A) (hne : PySem.W.findIn X.K (.ref (γ c)) "__ne__" = some (some (.builtin "object.__ne__"))) (ho : PySem.W.mroIn X.K (γ c) (.type "object") = some true) (E : EqFacts X.K γ c ts cs) (h : IE γ X a s) (h2 : IE γ X c' t) : IC γ X .NotEq a c' (cEqC true c ts cs F s t) := .mk fun b u M0 Δ Δr M n k S w => by
  refine c_ownNe mt hr hne ho (h.go b u M0 Δ Δr M n _ S ((wpB_bind.1 w).mono fun d n1 w1 M1 A1 => h2.go b u M0 Δ Δr M1 n1 _ (S.aft A1) ((wpB_bind.1 w1).mono fun d2 n2 w2 M2 A2 => ?_)))
  split at w2
  · rename_i hd
    rw [Bool.and_eq_true] at hd
    obtain ⟨fs, ds, rfl⟩ := isC_is hd.1
    obtain ⟨t', h3, h4⟩ := okT_is (M := M2) (u := u) E hd.2
    refine ⟨fs, _, t', by rw [rn_ins]; rfl, h3, h4, b, u, [.ins (c + 1) fs ds, d2], n2, VwL0 (by rw [rnL2]), A2.urn, (wpB_bind.1 w2).mono fun r n3 w3 M3 A3 => ?_⟩
    obtain ⟨z, h5, h6⟩ := wpB_ofO (wpB_bind.1 w3)
    have h7 := h6 M3 ((A1.trans A2).trans A3)
    rw [rn_bl] at h7
    rw [toB_is h5, rn_bl]
    exact ⟨z, rfl, h7⟩
  · exact w2.elim
/-! isinstance of an own class -/
structure IsFacts (K : PySem.W.Frag) (γ : Nat → Addr) (c : Nat) (ts : List (String × Bool)) (cs : List (Nat × Bool)) : Prop where
  ty : ∀ t z, (t, z) ∈ ts → PySem.W.kitOne K (.type t) (.ref (γ c)) = some z
  cl : ∀ d z, (d, z) ∈ cs → TyC K (γ d) ∧ PySem.W.kitOne K (.ref (γ d)) (.ref (γ c)) = some z
def isiC (ts : List (String × Bool)) (cs : List (Nat × Bool)) (d : D) : Option D := match tyD d with
  | some t => (ts.find? fun q => q.1 == t).map fun q => .bl q.2
  | none => match d with
    | .ins C _ _ => (cs.find? fun q => C == q.1 + 1).map fun q => .bl q.2
    | _ => none
theorem i_isiO {ts : List (String × Bool)} {cs : List (Nat × Bool)} (hg : Gl X "isinstance") (hm : X.mg "isinstance" = none) (I : IsFacts X.K γ c ts cs) (hC : X.mg x = some (.ref (γ c))) (hgC : Gl X x) (h : IE γ X e s) (hs : starEach [e, .Name x p] X.env = (false, eval e X.env) :: starEach [.Name x p] X.env := by rfl) (hs2 : starEach [.Name x p] X.env = [(false, eval (.Name x p) X.env)] := by rfl) (hpl : (backTo pos (starEach [.Name x p] X.env)).any (·.1) = false := by rfl) (hdb : (x == ("__debug__" : Str)) = false := by decide) : IE γ X (.Call (.Name "isinstance" apos) [e, .Name x p] [] pos) (c1 (isiC ts cs) s) := .mk fun b u M0 Δ Δr M n k S w => by
  refine ev_isiO hg hm (h.go b u M0 Δ Δr M n _ S ((wpB_bind.1 w).mono fun d n1 w1 M1 A1 => ev_gC hC hgC ?_ hdb)) hs hs2 hpl
  obtain ⟨r, h1, h2⟩ := wpB_ofO w1
  have h2 := h2 M1 A1
  unfold isiC at h1
  split at h1
  · rename_i t ht
    obtain ⟨q, h3, rfl⟩ := Option.map_eq_some_iff.mp h1
    have h4 := List.find?_some h3
    have e1 := eq_of_beq h4
    rw [rn_bl] at h2
    refine ⟨.type t, γ c, q.2, .inl ⟨t, tyD_rn ht, rfl⟩, rfl, I.ty t q.2 ?_, h2⟩
    rw [← e1]
    exact List.mem_of_find?_eq_some h3
  · split at h1
    · rename_i C fs ds _
      obtain ⟨q, h3, rfl⟩ := Option.map_eq_some_iff.mp h1
      have h4 := List.find?_some h3
      have e1 := eq_of_beq h4
      subst e1
      rw [rn_bl] at h2
      obtain ⟨k1, k2⟩ := I.cl q.1 q.2 (List.mem_of_find?_eq_some h3)
      exact ⟨.ref (γ q.1), γ c, q.2, .inr ⟨γ q.1, fs, rnL (rho γ u) ds, by rw [rn_ins]; rfl, k1, rfl⟩, rfl, k2, h2⟩
    · cases h1
/-! ### made -/
def spN (γ : Nat → Addr) (c : Nat) (F : List D → Pg D) : SpD := fun drs M k => ∃ b u ds n, drs = .cell u.2 :: rnL (rho γ u) ds ∧ M u.2 = some (.ins (γ c) [] []) ∧ (b = true → u.2 ≠ u.1) ∧ UrnB b M u.1 n ∧
  wpB b n (F ds) fun d n' => ∃ fs vs, d = .ins (c + 1) fs vs ∧ ∀ M', Aft b u (mdel M u.2) M' n' → M' u.2 = some (.ins (γ c) fs (rnL (rho γ u) vs)) → k .non M'
theorem spN_mono : SpMono (spN γ c F) := fun drs M k k' hk ⟨b, u, ds, n, h1, h2, h3, h4, h5⟩ => ⟨b, u, ds, n, h1, h2, h3, h4, h5.mono fun d m ⟨fs, vs, e, q⟩ => ⟨fs, vs, e, fun M' A z => hk _ _ (q M' A z)⟩⟩
theorem rho_an (u : Addr × Addr) (q : Addr) : rho γ (u.1, q) = rho γ u := by
  funext i
  cases i with
  | zero => rfl
  | succ i => rfl
theorem newF_of {b : Bool} {u : Addr × Addr} {M : Store} {n : Nat} {k : DK} {ds : List D} (hF : ∀ d, F ds = .ret d → True) (U : UrnB b M u.1 n) (w : wpB b n (F ds) fun d n' => ∃ fs vs, d = .ins (c + 1) fs vs ∧ ∀ M', Aft b u M M' n' → k (rn (rho γ u) d) M') : NewF (γ c) (spN γ c F) k (fun q => .cell q :: rnL (rho γ u) ds) M := fun q hq => by
  have hqu : b = true → q ≠ u.1 := fun hb e => by
    subst e
    exact (U hb).some hq
  refine ⟨b, (u.1, q), ds, n, (by rw [rho_an u q] : (D.cell q :: rnL (rho γ u) ds) = .cell q :: rnL (rho γ (u.1, q)) ds), mup_same, hqu, fun hb => (U hb).mup (hqu hb), w.mono fun d m ⟨fs, vs, e, h⟩ => ⟨fs, vs, e, fun M' A hM' => ⟨rfl, fs, _, hM', ?_⟩⟩⟩
  subst e
  rw [mdel_mup hq] at A
  have A2 : Aft b u M (mdel M' q) m := ⟨fun r mm hr e => by
    have z : r ≠ q := fun z => by rw [z, hq] at e; cases e
    rw [mdel_ne z]
    exact A.keep r mm hr e, fun hb => (A.urn hb).mdel (hqu hb)⟩
  have h2 := h _ A2
  rw [rn_ins] at h2
  rw [rho_an u q]
  exact h2
/-- F makes instances of c -/
def mkP (c : Nat) (F : List D → Pg D) (ds : List D) : Pg D := (F ds).bind fun d => if isC c d = true then .ret d else .fail
theorem mkP_of {b : Bool} {n : Nat} {k : D → Nat → Prop} {ds : List D} (w : wpB b n (mkP c F ds) k) : wpB b n (F ds) fun d n' => ∃ fs vs, d = .ins (c + 1) fs vs ∧ k d n' := (wpB_bind.1 w).mono fun d m h => by
  split at h
  · rename_i hd
    obtain ⟨fs, vs, e⟩ := isC_is hd
    exact ⟨fs, vs, e, h⟩
  · exact h.elim
def cMk (c : Nat) (F : List D → Pg D) (s : SA) (ad : List D) : SE := fun Δ => (s Δ).bind fun ds => mkP c F (ds ++ ad)
theorem i_make {t : SA} {dv ad : List D} (mk : MakD X.prog X.w X.K X.mg X.base x (γ c) n dv (spN γ c F)) (hr : Room (n + 1) X.A) (hg : Gl X x) (hd : ∀ ρ, dv = rnL ρ ad) (h : IA γ X (e :: es) t) (hdb : (x == ("__debug__" : Str)) = false := by decide)
    (he : starEach (e :: es) X.env = (false, eval e X.env) :: starEach es X.env := by rfl) (hpl : (backTo pos (starEach es X.env)).any (·.1) = false := by rfl) : IE γ X (.Call (.Name x p) (e :: es) [] pos) (cMk c F t ad) := .mk fun b u M0 Δ Δr M n k S w =>
  ev_makeF spN_mono mk hr hg (h.go b u M0 Δ Δr M n _ S ((wpB_bind.1 w).mono fun ds n1 w1 M1 A1 => by
    have q := newF_of (γ := γ) (c := c) (F := F) (k := k) (fun _ _ => trivial) A1.urn ((mkP_of w1).mono fun d m ⟨fs, vs, e, h⟩ => ⟨fs, vs, e, fun M' A => h M' (A1.trans A)⟩)
    rw [rnL_app] at q
    rw [hd (rho γ u)]
    exact q)) hdb he hpl
theorem i_make0 {dv ad : List D} (mk : MakD X.prog X.w X.K X.mg X.base x (γ c) n dv (spN γ c F)) (hr : Room (n + 1) X.A) (hg : Gl X x) (hd : ∀ ρ, dv = rnL ρ ad) (hdb : (x == ("__debug__" : Str)) = false := by decide) : IE γ X (.Call (.Name x p) [] [] pos) (cMk c F aN ad) := .mk fun b u M0 Δ Δr M n k S w =>
  ev_makeF0 spN_mono mk hr hg (by
    have q := newF_of (γ := γ) (c := c) (F := F) (k := k) (ds := ad) (fun _ _ => trivial) S.urn ((mkP_of (show wpB b n (mkP c F ad) _ from w)).mono fun d m ⟨fs, vs, e, h⟩ => ⟨fs, vs, e, h⟩)
    rw [hd (rho γ u)]
    exact q) hdb
def cMkK (c : Nat) (F : List D → Pg D) (g : List D → List D → List D) (k : Nat) (t : SA) : SE := fun Δ => (t Δ).bind fun es => if es.length = k then mkP c F (g [] es) else .fail
theorem i_makeK0 {kl : Nat} {t : SA} {g : List D → List D → List D} (mk : MakK X.prog X.w X.K X.mg X.base x (γ c) n 0 kn g (spN γ c F)) (hr : Room (n + 1) X.A) (hg : Gl X x) (og : Ord g) (og2 : ∀ d es, g [d] es = d :: g [] es) (h : IK γ X kws t)
    (hall : (backToKw pos (keywordEach kws X.env)).all (·.1.isSome) = true := by rfl) (hks : (backToKw pos (keywordEach kws X.env)).filterMap (·.1) = kn := by rfl) (hdb : (x == ("__debug__" : Str)) = false := by decide)
    (hpl : ((backTo pos (starEach [] X.env)).any (·.1) || (backToKw pos (keywordEach kws X.env)).any (·.1.isNone)) = false := by rfl) (hkl : kn.length = kl := by rfl) : IE γ X (.Call (.Name x p) [] kws pos) (cMkK c F g kl t) := .mk fun b u M0 Δ Δr M n k S w =>
  ev_makeFK0 spN_mono mk hr hg (h.go b u M0 Δ Δr M n _ S ((wpB_bind.1 w).mono fun es n1 w1 M1 A1 => by
    split at w1
    · rename_i hl
      refine ⟨by rw [rnL_len, hkl]; exact hl, ?_⟩
      have q := newF_of (γ := γ) (c := c) (F := F) (k := k) (fun _ _ => trivial) A1.urn ((mkP_of w1).mono fun d m ⟨fs, vs, e, h⟩ => ⟨fs, vs, e, fun M' A => h M' (A1.trans A)⟩)
      have e1 : (fun q => g [D.cell q] (rnL (rho γ u) es)) = fun q => .cell q :: rnL (rho γ u) (g [] es) := by
        funext q
        rw [og2, ← og.rn]
        rw [rnL_nil]
      rw [e1]
      exact q
    · exact w1.elim)) hall hks hdb hpl
/-! ### self.f = value -/
def ownI (Δ : List Sl) (i : Nat) : Option (Nat × List Str × List D) := match Δ[i]? with
  | some (.o (.ins C fs ds)) => some (C, fs, ds)
  | _ => none
theorem ownI_is {Δ : List Sl} {i C : Nat} {fs : List Str} {ds : List D} (h : ownI Δ i = some (C, fs, ds)) : Δ[i]? = some (.o (.ins C fs ds)) := by
  unfold ownI at h
  split at h
  · rename_i q
    cases h
    exact q
  · cases h
def putA (c : Nat) (i : Nat) (f : Str) (d : D) (Δ : List Sl) : Option (List Sl) := (ownI Δ i).bind fun q => if q.1 = c + 1 ∧ q.2.1.length < 1000 then some (Δ.set i (.o (.ins q.1 (putN q.2.1 f) (putD q.2.1 q.2.2 f d)))) else none
theorem putD_rn {ρ : Nat → Addr} (fs : List Str) (ds : List D) (f : Str) (d : D) : rnL ρ (putD fs ds f d) = putD fs (rnL ρ ds) f (rn ρ d) := by
  unfold putD
  split
  · rw [rnL_app, rnL_cons, rnL_nil]
  · rw [rnL_map, rnL_map, List.map_set]
/-- a target that is an attribute of what is owned at slot i -/
structure GA (γ : Nat → Addr) (X : Cx) (tg : Expr) (g : D → List Sl → Option (List Sl)) : Prop where
  go : ∀ b u M0 Δ Δr M n d Δ' (k : DS → Store → Prop), SI γ b u M0 Δ Δr M n → g d Δ = some Δ' → (∀ M', SI γ b u M0 Δ' Δr M' n → k Δr M') → GwD X tg (rn (rho γ u) d) Δr M k
theorem ga_attr {i : Nat} {px : Pos} (hN : X.N[i]? = some x) (hv : Vis X.env.scope x) (hd : (x == ("__debug__" : Str)) = false) (hcd : (x == ("__classdict__" : Str)) = false) (hc : Cls X.K (γ c)) (hn : NoAttr X.K (γ c) f) : GA γ X (.Attribute (.Name x px) f pos) (putA c i f) := .mk fun b u M0 Δ Δr M n d Δ' k S h hk => by
  obtain ⟨q, h1, h2⟩ := Option.bind_eq_some_iff.mp h
  split at h2
  · rename_i hq
    cases h2
    obtain ⟨C, fs, ds⟩ := q
    obtain ⟨e1, hl⟩ := hq
    dsimp only at e1 hl
    subst e1
    obtain ⟨r, hr, hM⟩ := S.own (ownI_is h1)
    refine gw_attr (ev_var hN hv hd hcd hr ⟨r, γ c, fs, _, rfl, hM, hc, hn, hl, ?_⟩)
    rw [← putD_rn]
    exact hk _ (S.upd (m' := .ins (c + 1) (putN fs f) (putD fs ds f d)) (ownI_is h1) hr fun _ _ _ _ => ⟨_, _, _, rfl⟩)
  · cases h2
def tAtt (g : D → List Sl → Option (List Sl)) (s : SE) : ST := fun Δ => (s Δ).bind fun d => (ofO (g d Δ)).bind fun Δ1 => .ret (.nx Δ1)
theorem r_att {g : D → List Sl → Option (List Sl)} (h : IE γ X e s) (hG : GA γ X tg g) (hs : swapsWithSole [tg] e pos.line X.env = pure false := by rfl) (hw : swappedStores [tg] e X.env = pure none := by rfl)
    (h1 : (assignEach [tg] X.env).map (·.2) = [assign tg X.env] := by rfl) : IS γ X (.Assign [tg] e pos) (tAtt g s) := .mk fun b u M0 Δ Δr M n ks S w => s_asw (h.go b u M0 Δ Δr M n _ S ((wpB_bind.1 w).mono fun d n1 w1 M1 A1 => by
  obtain ⟨Δ1, q1, w2⟩ := wpB_ofO (wpB_bind.1 w1)
  exact hG.go b u M0 Δ Δr M1 n1 d Δ1 ks.nx (S.aft A1) q1 fun M2 S2 => w2 Δr M2 S2)) hs hw h1
/-- self.f, self.g = .. -/
structure GAs (γ : Nat → Addr) (X : Cx) (tgs : List Expr) (g : List D → List Sl → Option (List Sl)) : Prop where
  go : ∀ b u M0 Δ Δr M n ds Δ' (k : DS → Store → Prop), SI γ b u M0 Δ Δr M n → g ds Δ = some Δ' → (∀ M', SI γ b u M0 Δ' Δr M' n → k Δr M') → GwsD X tgs (rnL (rho γ u) ds) Δr M k
def gaN (ds : List D) (Δ : List Sl) : Option (List Sl) := match ds with
  | [] => some Δ
  | _ => none
def gaC (g : D → List Sl → Option (List Sl)) (gs : List D → List Sl → Option (List Sl)) (ds : List D) (Δ : List Sl) : Option (List Sl) := match ds with
  | d :: ds => (g d Δ).bind fun Δ1 => gs ds Δ1
  | _ => none
theorem gas_nil : GAs γ X [] gaN := .mk fun b u M0 Δ Δr M n ds Δ' k S h hk => by
  unfold gaN at h
  split at h
  · cases h
    unfold rnL
    exact gws_nil (hk M S)
  · cases h
theorem gas_cons {tgs : List Expr} {g : D → List Sl → Option (List Sl)} {gs : List D → List Sl → Option (List Sl)} (h1 : GA γ X tg g) (h2 : GAs γ X tgs gs) (hs : (assignEach (tg :: tgs) X.env).map (·.2) = assign tg X.env :: (assignEach tgs X.env).map (·.2) := by rfl) : GAs γ X (tg :: tgs) (gaC g gs) := .mk fun b u M0 Δ Δr M n ds Δ' k S h hk => by
  unfold gaC at h
  split at h
  · obtain ⟨Δ1, q1, q2⟩ := Option.bind_eq_some_iff.mp h
    rw [rnL_cons]
    exact gws_cons (h1.go b u M0 Δ Δr M n _ Δ1 _ S q1 fun M1 S1 => h2.go b u M0 Δ1 Δr M1 n _ Δ' k S1 q2 hk) hs
  · cases h
def gaT (g : List D → List Sl → Option (List Sl)) (d : D) (Δ : List Sl) : Option (List Sl) := match d with
  | .tup ds => g ds Δ
  | _ => none
theorem ga_tup {tgs : List Expr} {g : List D → List Sl → Option (List Sl)} {nn kt : Nat} (hc : X.calm = true) (h : GAs γ X tgs g) (hg : ∀ ds Δ Δ', g ds Δ = some Δ' → ds.length = nn) (hn : (assignEach tgs X.env).length = nn := by rfl) (hst : (assignEach tgs X.env).findIdx? (·.1) = none := by rfl) : GA γ X (.Tuple tgs kt pos) (gaT g) := .mk fun b u M0 Δ Δr M n d Δ' k S q hk => by
  unfold gaT at q
  split at q
  · rw [rn_tup]
    exact gw_tup hc (h.go b u M0 Δ Δr M n _ Δ' k S q hk) (by rw [rnL_len]; exact hg _ _ _ q) hn hst
  · cases q
end
theorem gaC_len {g : D → List Sl → Option (List Sl)} {gs : List D → List Sl → Option (List Sl)} {nn : Nat} (h : ∀ ds Δ Δ', gs ds Δ = some Δ' → ds.length = nn) : ∀ ds Δ Δ', gaC g gs ds Δ = some Δ' → ds.length = nn + 1 := fun ds Δ Δ' q => by
  unfold gaC at q
  split at q
  · obtain ⟨Δ1, q1, q2⟩ := Option.bind_eq_some_iff.mp q
    rw [List.length_cons, h _ _ _ q2]
  · cases q
theorem gaN_len : ∀ ds Δ Δ', gaN ds Δ = some Δ' → ds.length = 0 := fun ds Δ Δ' q => by
  unfold gaN at q
  split at q
  · rfl
  · cases q
/-! ### __init__ -/
def startN (c N : Nat) (ds : List D) : List Sl := .o (.ins (c + 1) [] []) :: (ds.map Sl.v ++ List.replicate (N - 1 - ds.length) .e)
def runN (c np N : Nat) (t : ST) (ds : List D) : Pg D := if ds.length + 1 = np then (t (startN c N ds)).bind fun o => match o with
  | .nx Δ => match (Δ[0]? : Option Sl) with
    | some (.o (.ins C fs vs)) => if C = c + 1 then .ret (.ins C fs vs) else .fail
    | _ => .fail
  | _ => .fail else .fail
section
variable {P : Program} {w : World} {K : PySem.W.Frag} {mg : Str → Option Value} {base : Heap} {γ : Nat → Addr}
theorem startN_rel {b : Bool} {u : Addr × Addr} {M : Store} {c : Nat} (N : List Str) (hN : 0 < N.length) (ds : List D) (hM : M u.2 = some (.ins (γ c) [] [])) (hu : b = true → u.2 ≠ u.1) : Rel (rho γ u) u.2 b (mdel M u.2) (startN c N.length ds) (startD N (.cell u.2 :: rnL (rho γ u) ds)) M := by
  have tl : ∀ (i : Nat) (z : Sl), (ds.map Sl.v ++ List.replicate (N.length - 1 - ds.length) Sl.e)[i]? = some z → z = .e ∨ ∃ d, ds[i]? = some d ∧ z = .v d := fun i z e => by
    rcases app_get e with ⟨h1, h2⟩ | ⟨_, h2⟩
    · rw [List.getElem?_map] at h2
      obtain ⟨d, h3, h4⟩ := Option.map_eq_some_iff.mp h2
      exact .inr ⟨d, h3, h4.symm⟩
    · exact .inl (List.eq_of_mem_replicate h2)
  unfold startN startD
  refine ⟨?_, fun i d e => ?_, fun i m e => ?_, fun i j m m' q n e1 e2 => ?_, fun i d e => ?_⟩
  · simp [rnL_len]
    omega
  · cases i with
    | zero => cases e
    | succ i =>
      rcases tl i _ e with h | ⟨d', h1, h2⟩
      · cases h
      · cases h2
        rw [List.map_cons, List.cons_append, List.getElem?_cons_succ, List.getElem?_append_left (by rw [List.length_map, rnL_len]; exact (List.getElem?_eq_some_iff.mp h1).1), List.getElem?_map, rnL_get, h1]
        rfl
  · cases i with
    | zero =>
      cases e
      exact ⟨u.2, rfl, hM, mdel_same, hu, fun _ _ _ _ => rfl⟩
    | succ i =>
      rcases tl i _ e with h | ⟨d', h1, h2⟩
      · cases h
      · cases h2
  · cases i with
    | zero =>
      cases j with
      | zero => intro _ _; exact n rfl
      | succ j =>
        rcases tl j _ e2 with h | ⟨d', h1, h2⟩
        · cases h
        · cases h2
    | succ i =>
      rcases tl i _ e1 with h | ⟨d', h1, h2⟩
      · cases h
      · cases h2
  · cases i with
    | zero => cases e
    | succ i =>
      rcases tl i _ e with h | ⟨d', h1, h2⟩
      · cases h
      · cases h2
theorem init_ok {F : List D → Pg D} {x qual : Str} {st : Stmt} {f : Addr} {fd : FuncData} {N ps : List Str} {n c : Nat} {t : ST} {dvs : List V} (hF : F = runN c ps.length N.length t) (Fn : FnD K x qual st dvs f fd) (S : FnScope N ps (defScope st)) (hN : 0 < N.length)
    (hbody : ∀ (cdv : Value) (A : Around) (outer : List Env) (s : Shared) (H : Hp) (E : XK), Room n (A.deeper (PyProof.Rows.envOfC qual (defScope st) s.heap.objs.size f cdv)) → ISs γ (XOf P w K mg base N qual st f cdv A outer s H E) (defBody st) t) :
    FnOk P w K mg base CX0 (n + 1) f fd ps (spOf K (spN γ c F)) := by
  subst hF
  refine ok_dD Fn S (fun drs M k ⟨b, u, ds, m, e, h2, h3, U, h⟩ => ?_) fun cdv A outer s H E drs M k hr ⟨b, u, ds, m, e, h2, h3, U, h⟩ => ?_
  · unfold runN at h
    split at h
    · rw [e, List.length_cons, rnL_len]; assumption
    · exact h.elim
  · subst e
    unfold runN at h
    split at h
    · refine (hbody cdv A outer s H E hr).go b u (mdel M u.2) (startN c N.length ds) _ M m _ ⟨startN_rel N hN ds h2 h3, U, fun q mm hq e => ?_⟩ ((wpB_bind.1 h).mono fun o n1 w1 => ?_)
      · by_cases z : q = u.2
        · rw [z, mdel_same] at e; cases e
        · rw [mdel_ne z] at e; exact e
      · cases o with
        | nx Δ' =>
          intro Δr' M' S'
          dsimp only at w1
          split at w1
          · rename_i C fs vs hΔ
            split at w1
            · rename_i hC
              subst hC
              obtain ⟨fs', vs', e, q⟩ := w1
              cases e
              obtain ⟨q2, e1, e2, e3, e4, e5⟩ := S'.rel.o 0 _ hΔ
              have e6 := e5 _ _ _ rfl
              subst e6
              exact q M' (Aft.of0 S') e2
            · exact w1.elim
          · exact w1.elim
        | rt d => exact w1.elim
        | bk _ => exact w1.elim
        | ct _ => exact w1.elim
    · exact h.elim
end
end DL
end
section
set_option Elab.async false
set_option linter.all false
set_option maxRecDepth 100000
namespace DL
open PySem L2 PyProof.Rows
/-! ### draws -/
def lowOk : Int → Bool
  | .ofNat n => Nat.ble 1 n && Nat.ble n 18446744073709551615
  | .negSucc _ => false
theorem lowOk_is {low : Int} : lowOk low = true ↔ 0 < low ∧ low < 2 ^ 64 := by
  cases low with
  | ofNat n =>
    unfold lowOk
    rw [Bool.and_eq_true]
    constructor
    · rintro ⟨h1, h2⟩
      have h1 := Nat.le_of_ble_eq_true h1
      have h2 := Nat.le_of_ble_eq_true h2
      constructor
      · show (0 : Int) < (n : Int); omega
      · show (n : Int) < 2 ^ 64; omega
    · rintro ⟨h1, h2⟩
      have h1 : (0 : Int) < (n : Int) := h1
      have h2 : (n : Int) < 2 ^ 64 := h2
      exact ⟨Nat.ble_eq_true_of_le (by omega), Nat.ble_eq_true_of_le (by omega)⟩
  | negSucc n =>
    unfold lowOk
    constructor
    · intro h; cases h
    · rintro ⟨h1, _⟩; omega
def takeP : List D → Pg D
  | [.cell 0, .int low] => if lowOk low = true then .draw low fun d => .ret (.int d) else .fail
  | _ => .fail
theorem keepB_of {b : Bool} {u : Addr} {M M' : Store} (hb : b = true) : KeepB b u M M' ↔ Keep u M M' := ⟨fun h q m n e => h q m (fun _ => n) e, fun h q m n e => h q m (n hb) e⟩
section
variable {P : Program} {w : World} {K : PySem.W.Frag} {mg : Str → Option Value} {base : Heap} {γ : Nat → Addr} {n : Nat} {f : Addr} {fd : FuncData} {ps : List Str}
theorem sp_imp {sp sp' : SpD} (F : FnOk P w K mg base CX0 n f fd ps (spOf K sp)) (h : ∀ ds M k, sp' ds M k → sp ds M k) : FnOk P w K mg base CX0 n f fd ps (spOf K sp') := F.imp fun vs H Q E ⟨ds, F, M, k, a, b, c, d⟩ => ⟨ds, F, M, k, a, b, h _ _ _ c, d⟩
theorem take_ok (F : FnOk P w K mg base CX0 n f fd ps (spOf K spTake)) : FnOk P w K mg base CX0 n f fd ps (spOf K (spW γ [] takeP)) := sp_imp F fun drs M k ⟨b, u, ds, m, e, U, h⟩ => by
  unfold VwL at e
  subst e
  unfold takeP at h
  split at h
  · rename_i low _
    split at h
    · rename_i hl
      have hl := lowOk_is.1 hl
      obtain ⟨hb, h1, h2, r, e, h3⟩ := h
      subst e
      refine ⟨u.1, low, r, ?_, hl.1, lg hl.1 hl.2, U hb, fun d M' d0 d1 hK hU => ?_⟩
      · rw [rnL2, rn_cell, rn_int]
        rfl
      · have h4 := h3 d d0 d1 M' ⟨(keepB_of hb).2 hK, fun _ => hU⟩
        rw [rn_int] at h4
        exact h4
    · exact h.elim
  · exact h.elim
theorem fail_ok {x qual : Str} {st : Stmt} {N : List Str} {dvs : List V} {fl : List Bool} (Fn : FnD K x qual st dvs f fd) (S : FnScope N ps (defScope st)) : FnOk P w K mg base CX0 (n + 1) f fd ps (spOf K (spW γ fl fun _ => .fail)) :=
  ok_dD Fn S (fun drs M k ⟨b, u, ds, m, e, U, h⟩ => h.elim) fun cdv A outer s H E drs M k hr ⟨b, u, ds, m, e, U, h⟩ => h.elim
end
/-! ### the call of a law's part with its own box -/
def spBox : SpD := fun ds M k => ∃ (ns : List Int) (j : Nat), ds = [.lst (ns.map D.int), .int (j : Nat)] ∧ j < ns.length ∧ j < 100 ∧ ∀ u M', Keep0 M M' → M u = none → Urn M' u 1000000 → k (.cell u) M'
section
variable {γ : Nat → Addr} {X : Cx} {a c e e2 : Expr} {es : List Expr} {pos p pos2 p2 : Pos} {x y : Str} {s t : SE} {m n : Nat} {F : List D → Pg D}
/-- R(B(cells, k)): true, whatever is drawn -/
def cBox (s t : SE) : SE := fun Δ => (s Δ).bind fun d => (t Δ).bind fun j => match d, j with
  | .lst xs, .int j => match unI xs with
    | some ns => if 0 ≤ j ∧ j < ns.length ∧ j < 100 then .ret (.bl true) else .fail
    | none => .fail
  | _, _ => .fail
theorem i_box (CB : Cal X.prog X.w X.K X.mg X.base y m spBox) (CR : Cal X.prog X.w X.K X.mg X.base x n (spW γ [] F)) (hB : Room m X.A) (hR : Room n X.A) (gB : Gl X y) (gR : Gl X x) (hW : wpB true 1000000 (F [.cell 0]) fun d _ => d = .bl true) (h : IE γ X a s) (h2 : IE γ X c t)
    (dB : (y == ("__debug__" : Str)) = false := by decide) (dR : (x == ("__debug__" : Str)) = false := by decide) (e1 : starEach [a, c] X.env = (false, eval a X.env) :: starEach [c] X.env := by rfl) (e2 : starEach [c] X.env = [(false, eval c X.env)] := by rfl) (e3 : (backTo pos2 (starEach [c] X.env)).any (·.1) = false := by rfl)
    (e4 : starEach [.Call (.Name y p2) [a, c] [] pos2] X.env = (false, eval (.Call (.Name y p2) [a, c] [] pos2) X.env) :: starEach [] X.env := by rfl) (e5 : (backTo pos (starEach [] X.env)).any (·.1) = false := by rfl) :
    IE γ X (.Call (.Name x p) [.Call (.Name y p2) [a, c] [] pos2] [] pos) (cBox s t) := .mk fun b u M0 Δ Δr M n k S w => by
  refine ev_call CR hR gR (one1 (ev_call CB hB gB (two2 (h.go b u M0 Δ Δr M n _ S ((wpB_bind.1 w).mono fun d n1 w1 M1 A1 => h2.go b u M0 Δ Δr M1 n1 _ (S.aft A1) ((wpB_bind.1 w1).mono fun j n2 w2 M2 A2 => ?_))) e1 e2) dB e1 e3) e4) dR e4 e5
  split at w2
  · split at w2
    · rename_i _ _ xs j _ ns hn
      split at w2
      · rename_i hj
        rw [unI_eq hn, rn_lst, rn_ints, rn_int]
        refine ⟨ns, j.toNat, by rw [Int.toNat_of_nonneg hj.1], by omega, by omega, fun v M3 hk0 hv hU => ?_⟩
        have A12 := A1.trans A2
        refine ⟨true, (v, v), [.cell 0], 1000000, by unfold VwL; rw [rnL_cons, rnL_nil, rn_cell]; rfl, fun _ => hU, hW.mono fun d n4 hd M4 A4 => ?_⟩
        subst hd
        have old : ∀ q mm, M q = some mm → q ≠ v := fun q mm e z => ?_
        · have kp : ∀ q mm, M2 q = some mm → M4 q = some mm := fun q mm e => A4.keep q mm (fun _ z => by rw [z] at e; rw [hv] at e; cases e) (hk0 q mm e)
          have w3 := w2 M4 ⟨fun q mm hq e => kp q mm (A12.keep q mm hq e), fun hb => by
            obtain ⟨a1, a2, a3, a4, a5⟩ := A2.urn hb
            exact ⟨a1, a2, a3, kp _ _ a4, a5⟩⟩
          rw [rn_bl] at w3
          rw [rn_bl]
          exact w3
        · subst z
          by_cases hq : b = true → q ≠ u.1
          · rw [A12.keep q mm hq e] at hv; cases hv
          · have hb : b = true := by
              cases b with
              | true => rfl
              | false => exact absurd (fun z => by cases z) hq
            have hqu : q = u.1 := Classical.byContradiction fun z => hq fun _ => z
            obtain ⟨a1, a2, a3, a4, _⟩ := A2.urn hb
            rw [← hqu, hv] at a4
            cases a4
      · exact w2.elim
    · exact w2.elim
  · exact w2.elim
/-! a or b of fresh lists -/
def oOr (s t : SA) : List Sl → Pg Sl := fun Δ => (s Δ).bind fun ds => if ds.isEmpty = true then (t Δ).bind fun es => .ret (.o (.lst es)) else .ret (.o (.lst ds))
theorem io_or {s t : SA} (h : IL γ X a s) (h2 : IL γ X c t) : IO γ X (.BoolOp .Or [a, c] pos) (oOr s t) := .mk fun b u M0 Δ Δr M n k S w => by
  refine ev_orT ((IL.io h).go b u M0 Δ Δr M n _ S ?_)
  show wpB b n ((s Δ).bind fun ds => Pg.ret (Sl.o (MO.lst ds))) _
  refine wpB_bind.2 ((wpB_bind.1 w).mono fun ds n1 w1 M1 dr A1 V => ?_)
  obtain ⟨q, rfl, hM, hM1, h0, hu, hI⟩ := V
  refine ⟨!ds.isEmpty, by rw [tru_cell hM1, rnL_emp], ?_⟩
  cases he : ds.isEmpty with
  | true =>
    rw [he] at w1
    refine ev_one ((IL.io h2).go b u M0 Δ Δr M1 n1 _ (S.aft A1) ?_)
    show wpB b n1 ((t Δ).bind fun ds => Pg.ret (Sl.o (MO.lst ds))) _
    refine wpB_bind.2 ((wpB_bind.1 (show wpB b n1 ((t Δ).bind fun es => Pg.ret (Sl.o (MO.lst es))) _ from w1)).mono fun es n2 w2 M2 dr A2 V2 => ?_)
    obtain ⟨r, rfl, hr, hr1, r0, ru, rI⟩ := V2
    exact w2 M2 _ (A1.trans A2) ⟨r, rfl, (A1.keep.none A1.urn hr).1, hr1, r0, ru, rI⟩
  | false =>
    rw [he] at w1
    exact w1 M1 _ A1 ⟨q, rfl, hM, hM1, h0, hu, hI⟩
end
end DL
namespace DL
open PySem L2 PyProof.Rows
/-! ### what is never come to -/
section
variable {γ : Nat → Addr} {X : Cx} {e : Expr} {st : Stmt}
theorem i_dead : IE γ X e (fun _ => .fail) := .mk fun b u M0 Δ Δr M n k S w => w.elim
theorem t_dead : IT γ X e (fun _ => .fail) := .mk fun b u M0 Δ Δr M n k S w => w.elim
theorem r_dead : IS γ X st (fun _ => .fail) := .mk fun b u M0 Δ Δr M n k S w => w.elim
end
/-! ### orders of keywords -/
theorem ordA : Ord (fun a b => a ++ b) := ⟨fun ρ ds es => (rnL_app ds es).symm⟩
theorem ordR : Ord (fun a b => a ++ b.reverse) := ⟨fun ρ ds es => by
  show rnL ρ ds ++ (rnL ρ es).reverse = rnL ρ (ds ++ es.reverse)
  rw [rnL_app, rnL_map es.reverse, List.map_reverse, ← rnL_map]⟩
theorem ordA2 : ∀ (d : D) (es : List D), (fun (a b : List D) => a ++ b) [d] es = d :: (fun (a b : List D) => a ++ b) [] es := fun _ _ => rfl
theorem ordR2 : ∀ (d : D) (es : List D), (fun (a b : List D) => a ++ b.reverse) [d] es = d :: (fun (a b : List D) => a ++ b.reverse) [] es := fun _ _ => rfl
end DL
end
section
set_option Elab.async false
set_option linter.all false
set_option maxRecDepth 100000
/-! plain evaluation -/
namespace DL
open PySem
theorem unS_map : ∀ xs : List Str, unS (xs.map D.str) = some xs
  | [] => rfl
  | x :: xs => by
    show (unS (xs.map D.str)).map (x :: ·) = _
    rw [unS_map xs]; rfl
theorem unI_map : ∀ xs : List Int, unI (xs.map D.int) = some xs
  | [] => rfl
  | x :: xs => by
    show (unI (xs.map D.int)).map (x :: ·) = _
    rw [unI_map xs]; rfl
theorem unB_map : ∀ xs : List Bool, unB (xs.map D.bl) = some xs
  | [] => rfl
  | x :: xs => by
    show (unB (xs.map D.bl)).map (x :: ·) = _
    rw [unB_map xs]; rfl
section
variable {α β : Type} {a : α} {f : α → Pg β} {x y : D} {r : List Sl} {i : Nat} {z : Sl} {Δ : List Sl} {d : D}
theorem bind_ret : (Pg.ret a).bind f = f a := rfl
theorem bind_fail : (Pg.fail : Pg α).bind f = .fail := rfl
theorem bind_draw {low : Int} {g : Int → Pg α} : (Pg.draw low g).bind f = .draw low fun d => (g d).bind f := rfl
theorem intOf_e {i : Int} : intOf (.int i) = some i := rfl
theorem ownL_z {ds : List D} : ownL (.o (.lst ds) :: r) 0 = some ds := rfl
theorem ownL_s : ownL (z :: r) (i + 1) = ownL r i := rfl
theorem xApp_e {s : SX} : xApp i s Δ = (ofO (ownL Δ i)).bind fun _ => (s Δ).bind fun r => (ofO (ownL r.2 i)).bind fun ds => if ds.length < lim then .ret (.non, r.2.set i (.o (.lst (ds ++ [r.1])))) else .fail := rfl
theorem xPop_e {s : SE} : xPop i s Δ = (ofO (ownL Δ i)).bind fun ds => (s Δ).bind fun y => (ofO (intOf y)).bind fun z => if inR z = true then (ofO (seqIndex? z ds.length)).bind fun j => (ofO ds[j]?).bind fun r => .ret (r, Δ.set i (.o (.lst (ds.eraseIdx j)))) else .fail := rfl
theorem ofO_some : ofO (some a) = .ret a := rfl
theorem cVar_z : cVar 0 (.v d :: r) = .ret d := rfl
theorem cVar_s : cVar (i + 1) (z :: r) = cVar i r := rfl
theorem cVw_z : cVw 0 (.v d :: r) = .ret d := rfl
theorem cVw_w : cVw 0 (.w d :: r) = .ret d := rfl
theorem cVw_o {ds : List D} : cVw 0 (.o (.lst ds) :: r) = .ret (.lst ds) := rfl
theorem cVw_s : cVw (i + 1) (z :: r) = cVw i r := rfl
theorem cC_e : cC d Δ = .ret d := rfl
theorem c1_e {g : D → Option D} {s : SE} : c1 g s Δ = (s Δ).bind fun x => ofO (g x) := rfl
theorem c2_e {g : D → D → Option D} {s t : SE} : c2 g s t Δ = (s Δ).bind fun x => (t Δ).bind fun y => ofO (g x y) := rfl
theorem aN_e : aN Δ = .ret [] := rfl
theorem aC_e {s : SE} {t : SA} : aC s t Δ = (s Δ).bind fun d => (t Δ).bind fun ds => .ret (d :: ds) := rfl
theorem cL_e {s : SA} : cL s Δ = (s Δ).bind fun ds => .ret (.lst ds) := rfl
theorem cCall_e {F : List D → Pg D} {s : SA} : cCall F s Δ = (s Δ).bind F := rfl
theorem cMk_e {c : Nat} {F : List D → Pg D} {s : SA} {ad : List D} : cMk c F s ad Δ = (s Δ).bind fun ds => mkP c F (ds ++ ad) := rfl
theorem cIf_e {t : SB} {s r : SE} : cIf t s r Δ = (t Δ).bind fun c => if c = true then s Δ else r Δ := rfl
theorem tB_e {s : SE} : tB s Δ = (s Δ).bind fun d => ofO (toB d) := rfl
theorem tT_e {s : SE} : tT s Δ = (s Δ).bind fun d => ofO (truO d) := rfl
theorem tNot_e {s : SB} : tNot s Δ = (s Δ).bind fun d => .ret (!d) := rfl
theorem tAnd_e {s t : SB} : tAnd s t Δ = (s Δ).bind fun c => if c = true then t Δ else .ret false := rfl
theorem tOr_e {s t : SB} : tOr s t Δ = (s Δ).bind fun c => if c = true then .ret true else t Δ := rfl
theorem eAnd_e {s t : SE} : eAnd s t Δ = (s Δ).bind fun d => (ofO (toB d)).bind fun c => if c = true then t Δ else .ret (.bl false) := rfl
theorem eOr_e {s t : SE} : eOr s t Δ = (s Δ).bind fun d => (ofO (truO d)).bind fun c => if c = true then .ret d else t Δ := rfl
theorem cNot_e {s : SE} : cNot s Δ = (s Δ).bind fun d => (ofO (toB d)).bind fun c => .ret (.bl (!c)) := rfl
theorem toB_e {c : Bool} : toB (.bl c) = some c := rfl
theorem truO_bl {c : Bool} : truO (.bl c) = some c := rfl
theorem cTup_e {s : SA} : cTup s Δ = (s Δ).bind fun ds => if ds.length ≤ lim then .ret (.tup ds) else .fail := rfl
theorem aL_e {s : SA} : aL s Δ = (s Δ).bind fun ds => if ds.length ≤ lim then .ret ds else .fail := rfl
theorem cProp_e {c : Nat} {F : List D → Pg D} {s : SE} : cProp c F s Δ = (s Δ).bind fun d => if isC c d = true then F [d] else .fail := rfl
theorem cOwn_e {c : Nat} {F : List D → Pg D} {s t : SE} : cOwn c F s t Δ = (s Δ).bind fun d => (t Δ).bind fun d2 => if (isC c d && isC c d2) = true then F [d, d2] else .fail := rfl
theorem cOwnIn_e {neg : Bool} {c : Nat} {F : List D → Pg D} {s t : SE} : cOwnIn neg c F s t Δ = (s Δ).bind fun d => (t Δ).bind fun d2 => if isC c d2 = true then (F [d2, d]).bind fun r => (ofO (toB r)).bind fun z => .ret (.bl (if neg then !z else z)) else .fail := rfl
theorem aLc_e {tg : Tg} {vs : List Nat} {it : SA} {t : SB} {el : SE} : aLc tg vs it t el Δ = (it Δ).bind fun ds => if ds.length ≤ lim then lcP tg t el (wipeS Δ vs) ds else .fail := rfl
theorem aIt_e {s : SE} : aIt s Δ = (s Δ).bind fun d => ofO (itO d) := rfl
theorem aSort_e {s : SE} : aSort s Δ = (s Δ).bind fun d => ofO ((lsV d).bind srtO) := rfl
theorem aRg1_e {s : SE} : aRg1 s Δ = (s Δ).bind fun d => ofO (rg1 d) := rfl
theorem aZip_e {s t : SE} : aZip s t Δ = (s Δ).bind fun d => (t Δ).bind fun c => ofO (zip2 d c) := rfl
theorem aEnum_e {s : SE} : aEnum s Δ = (s Δ).bind fun d => ofO ((lsV d).map enumD) := rfl
theorem aList_e {s : SE} : aList s Δ = (s Δ).bind fun d => ofO (itemsV d) := rfl
theorem tSeq_e {t r : ST} : DL.tSeq t r Δ = (t Δ).bind fun o => match o with
  | .nx Δ1 => r Δ1
  | o => .ret o := rfl
theorem tNil_e : DL.tNil Δ = .ret (.nx Δ) := rfl
theorem tRet_e {s : SE} : DL.tRet s Δ = (s Δ).bind fun d => .ret (.rt d) := rfl
theorem tIf_e {t : SB} {r q : ST} : DL.tIf t r q Δ = (t Δ).bind fun c => if c = true then r Δ else q Δ := rfl
theorem tSet_e {s : List Sl → Pg Sl} : tSet i s Δ = (s Δ).bind fun sl => .ret (.nx (Δ.set i sl)) := rfl
theorem oV_e {s : SE} : oV s Δ = (s Δ).bind fun d => .ret (.v d) := rfl
theorem oL_e {s : SA} : oL s Δ = (s Δ).bind fun ds => .ret (.o (.lst ds)) := rfl
theorem xE_e {s : SE} : xE s Δ = (s Δ).bind fun d => .ret (d, Δ) := rfl
theorem tX_e {s : SX} : tX s Δ = (s Δ).bind fun r => .ret (.nx r.2) := rfl
theorem tAsg_e {t : Tg} {s : SX} : DL.tAsg t s Δ = (s Δ).bind fun r => (ofO (tgS t r.1 r.2)).bind fun Δ1 => .ret (.nx Δ1) := rfl
theorem tFor_e {tg : Tg} {it : SA} {body : ST} : DL.tFor tg it body Δ = (it Δ).bind fun ds => forP tg body ds Δ := rfl
theorem tFrz_e {t : ST} : tFrz i t Δ = t (frzS i Δ) := rfl
theorem tPar_e {i j : Nat} {s t : List Sl → Pg Sl} : tPar i j s t Δ = (s Δ).bind fun d => (t Δ).bind fun c => .ret (.nx ((Δ.set i d).set j c)) := rfl
theorem ite_t {γ : Type} {p q : γ} : (if (true : Bool) = true then p else q) = p := rfl
theorem ite_f {γ : Type} {p q : γ} : (if (false : Bool) = true then p else q) = q := rfl
end
/-- a def whose arguments are all there -/
theorem runF_e {np N : Nat} {t : ST} {ds : List D} (h : ds.length = np) : runF [] np N t ds = (t (startS [] N ds)).bind fun o => match o with
  | .nx _ => .ret .non
  | .rt d => .ret d
  | _ => .fail := if_pos h
def outP : Out → Pg D
  | .nx _ => .ret .non
  | .rt d => .ret d
  | _ => .fail
theorem outP_rt {d : D} : outP (.rt d) = .ret d := rfl
theorem outP_nx {Δ : List Sl} : outP (.nx Δ) = .ret .non := rfl
theorem runF_at {fl : List Bool} {np N : Nat} {t : ST} {ds : List D} (Δ : List Sl) (h : ds.length = np) (hΔ : startS fl N ds = Δ) : runF fl np N t ds = (t Δ).bind outP := by
  subst hΔ
  exact if_pos h
theorem bind_assoc {α β δ : Type} (f : α → Pg β) (g : β → Pg δ) : ∀ p : Pg α, (p.bind f).bind g = p.bind fun a => (f a).bind g
  | .ret a => rfl
  | .fail => rfl
  | .draw low k => by
    show Pg.draw low _ = Pg.draw low _
    congr 1
    funext d
    exact bind_assoc f g (k d)
/-- a comprehension whose parts are plain -/
theorem lcP_plain {α : Type} {tg : Tg} {t : SB} {el : SE} {Δ : List Sl} (enc : α → D) (p : α → Bool) (f : α → D) : ∀ (xs : List α), (∀ x ∈ xs, ∃ Δ1, tgS tg (enc x) Δ = some Δ1 ∧ t Δ1 = .ret (p x) ∧ (p x = true → el Δ1 = .ret (f x))) → lcP tg t el Δ (xs.map enc) = .ret ((xs.filter p).map f)
  | [], _ => rfl
  | x :: xs, h => by
    obtain ⟨Δ1, h1, h2, h3⟩ := h x (List.mem_cons_self ..)
    have ih := lcP_plain enc p f xs fun y hy => h y (List.mem_cons_of_mem _ hy)
    show ((ofO (tgS tg (enc x) Δ)).bind fun Δ1 => (t Δ1).bind fun c => if c = true then (el Δ1).bind fun r => (lcP tg t el Δ (xs.map enc)).bind fun rs => .ret (r :: rs) else lcP tg t el Δ (xs.map enc)) = _
    rw [h1]
    show ((t Δ1).bind _) = _
    rw [h2]
    cases hp : p x with
    | true =>
      show ((el Δ1).bind _) = _
      rw [h3 hp, ih, List.filter_cons_of_pos hp]
      rfl
    | false =>
      show lcP tg t el Δ (xs.map enc) = _
      rw [ih, List.filter_cons_of_neg (by rw [hp]; decide)]
theorem inL_strs (x : Str) : ∀ xs : List Str, inL (.str x) (xs.map D.str) = some (decide (x ∈ xs))
  | [] => by simp [inL]
  | y :: xs => by
    have ih := inL_strs x xs
    rw [List.map_cons]
    unfold inL
    rw [ih]
    show some (L2.eqV (.str y) (.str x) || decide (x ∈ xs)) = _
    have e : L2.eqV (.str y) (.str x) = decide (x = y) := by
      show (y == x) = _
      by_cases h : y = x
      · simp [h]
      · have h' : ¬ x = y := fun z => h z.symm
        simp [h, h']
    rw [e]
    simp
theorem in_strs {neg : Bool} {d : D} {x : Str} {xs : List Str} (h : seqV d = some (xs.map D.str)) : inO neg (.str x) d = some (.bl (if neg then !decide (x ∈ xs) else decide (x ∈ xs))) := by
  unfold inO
  rw [h]
  show ((inL (.str x) (xs.map D.str)).bind _) = _
  rw [inL_strs]
  rfl
theorem inR_nat {n : Nat} (h : n ≤ 1000000000) : inR (n : Int) = true := by
  exact Nat.ble_eq_true_of_le (by show n ≤ _; omega)
theorem rg1_nat {n : Nat} (h : n ≤ 1000000000) : rg1 (.int (n : Int)) = some (rngD 0 n) := by
  unfold rg1 intOf
  rw [Option.bind_some, if_pos (inR_nat h), Int.toNat_natCast]
/-! ### what is drawn: at most c draws, then k -/
def Co {α : Type} (b : Bool) (c : Nat) (p : Pg α) (k : α → Prop) : Prop := ∀ n, wpB b (n + c) p fun a m => n ≤ m ∧ k a
section
variable {α β : Type} {b : Bool} {c c2 : Nat} {p : Pg α} {k k2 : α → Prop}
theorem Co.ret {a : α} (h : k a) : Co b c (.ret a) k := fun n => ⟨Nat.le_add_right _ _, h⟩
theorem Co.mono (h : Co b c p k) (hk : ∀ a, k a → k2 a) : Co b c p k2 := fun n => (h n).mono fun a m ⟨h1, h2⟩ => ⟨h1, hk a h2⟩
theorem Co.le (h : Co b c p k) (l : c ≤ c2) : Co b c2 p k := fun n => by
  have q := h (n + (c2 - c))
  rw [show n + (c2 - c) + c = n + c2 by omega] at q
  exact q.mono fun a m ⟨h1, h2⟩ => ⟨by omega, h2⟩
theorem Co.bind {f : α → Pg β} {kb : β → Prop} (h : Co b c p fun a => Co b c2 (f a) kb) : Co b (c + c2) (p.bind f) kb := fun n => wpB_bind.2 (by
  have q := h (n + c2)
  rw [show n + c2 + c = n + (c + c2) by omega] at q
  refine q.mono fun a m ⟨h1, h2⟩ => ?_
  have q2 := h2 (m - c2)
  rw [show m - c2 + c2 = m by omega] at q2
  exact q2.mono fun a m2 ⟨h3, h4⟩ => ⟨by omega, h4⟩)
theorem Co.draw {low : Int} {f : Int → Pg α} (h0 : 0 < low) (h1 : low < 2 ^ 64) (h : ∀ d, 0 ≤ d → d < low → Co true c (f d) k) : Co true (c + 1) (.draw low f) k := fun n => ⟨rfl, h0, h1, n + c, by omega, fun d d0 d1 => h d d0 d1 n⟩
theorem Co.wp {n : Nat} (h : Co b c p k) (l : c ≤ n) : wpB b n p fun a _ => k a := by
  have q := h (n - c)
  rw [show n - c + c = n by omega] at q
  exact q.mono fun a m z => z.2
theorem co_take {low : Int} {k : D → Prop} (h0 : 0 < low) (h1 : low < 2 ^ 64) (h : ∀ d, 0 ≤ d → d < low → k (.int d)) : Co true 1 (takeP [.cell 0, .int low]) k := by
  show Co true (0 + 1) (if lowOk low = true then Pg.draw low fun d => .ret (.int d) else .fail) k
  rw [if_pos (lowOk_is.2 ⟨h0, h1⟩)]
  exact Co.draw h0 h1 fun d d0 d1 => Co.ret (h d d0 d1)
/-- a loop -/
theorem co_for {tg : Tg} {body : ST} {I : Nat → List Sl → Prop} {ds : List D} (c : Nat) : ∀ (i : Nat) (Δ : List Sl), (∀ j d Δ, ds[j]? = some d → I j Δ → Co b c ((ofO (tgS tg d Δ)).bind body) fun o => ∃ Δ', (o = .nx Δ' ∨ o = .ct Δ') ∧ I (j + 1) Δ') → I i Δ → i ≤ ds.length →
    Co b ((ds.length - i) * c) (forP tg body (ds.drop i) Δ) fun o => ∃ Δ', o = .nx Δ' ∧ I ds.length Δ' := fun i Δ h => by
  generalize hm : ds.length - i = m
  induction m generalizing i Δ with
  | zero =>
    intro hI hi
    have e : i = ds.length := by omega
    subst e
    rw [List.drop_length]
    exact Co.ret ⟨Δ, rfl, hI⟩
  | succ m ih =>
    intro hI hi
    have hlt : i < ds.length := by omega
    rw [List.drop_eq_getElem_cons hlt]
    have e1 : forP tg body (ds[i] :: ds.drop (i + 1)) Δ = (((ofO (tgS tg ds[i] Δ)).bind body).bind fun o => match o with
      | .nx Δ2 => forP tg body (ds.drop (i + 1)) Δ2
      | .ct Δ2 => forP tg body (ds.drop (i + 1)) Δ2
      | .bk Δ2 => .ret (.nx Δ2)
      | .rt d => .ret (.rt d)) := by rw [bind_assoc]; rfl
    rw [e1, Nat.succ_mul, Nat.add_comm]
    refine Co.bind ((h i ds[i] Δ (List.getElem?_eq_getElem hlt) hI).mono fun o ⟨Δ', ho, hI'⟩ => ?_)
    rcases ho with rfl | rfl
    · exact ih (i + 1) Δ' (by omega) hI' (by omega)
    · exact ih (i + 1) Δ' (by omega) hI' (by omega)
end
end DL
end
section
set_option Elab.async false
set_option linter.all false
set_option maxRecDepth 100000
/-! DP: dicts -/
namespace DL
open PySem L2
theorem keyOf_rn {ρ : Nat → Addr} {d : D} {c : Key} (h : keyOf d = some c) : rn ρ d = d := by
  unfold keyOf at h
  split at h
  · exact rn_int _
  · exact rn_str _
  · cases h
theorem valD_rn {ρ : Nat → Addr} {q : Key} : ∀ {ks : List Key} {ds : List D}, valD ks (rnL ρ ds) q = (valD ks ds q).map (rn ρ)
  | [], [] => by unfold rnL valD; rfl
  | [], _ :: _ => by unfold rnL valD; rfl
  | _ :: _, [] => by unfold rnL valD; rfl
  | c :: ks, d :: ds => by
    unfold rnL valD
    by_cases h : c = q
    · rw [if_pos h, if_pos h]; rfl
    · rw [if_neg h, if_neg h]; exact valD_rn
def dixO : D → D → Option D
  | .dct ks ds, y => (keyOf y).bind fun c => valD ks ds c
  | _, _ => none
theorem dixO_is {x y d : D} (h : dixO x y = some d) : ∃ ks ds c, x = .dct ks ds ∧ keyOf y = some c ∧ valD ks ds c = some d := by
  unfold dixO at h
  split at h
  · obtain ⟨c, h1, h2⟩ := Option.bind_eq_some_iff.mp h
    exact ⟨_, _, c, rfl, h1, h2⟩
  · cases h
def dinO (neg : Bool) : D → D → Option D
  | y, .dct ks ds => (keyOf y).map fun c => .bl (if neg then !(valD ks ds c).isSome else (valD ks ds c).isSome)
  | _, _ => none
section
variable {γ : Nat → Addr} {X : Cx} {a c e e2 o tg : Expr} {es rest : List Expr} {pos p apos : Pos} {x : Str} {s t r : SE}
theorem i_dix (hu : X.A.units + 64 < cLine) (hs : NoSl c) (ha : IE γ X a s) (hc : IE γ X c t) : IE γ X (.Subscript a c pos) (c2 dixO s t) :=
  i_two (PP := fun d1 d2 M2 k => ∃ ks ds c r, d1 = .dct ks ds ∧ keyOf d2 = some c ∧ valD ks ds c = some r ∧ k r M2) (fun _ _ _ h => ev_dix (by omega) hs h) (fun ρ x y d M k h hk => by
    obtain ⟨ks, ds, c, rfl, h1, h2⟩ := dixO_is h
    exact ⟨ks, _, c, _, rn_dct _ _, by rw [keyOf_rn h1]; exact h1, by rw [valD_rn, h2]; rfl, hk⟩) ha hc
def dctOf : D → Option (List Key × List D)
  | .dct ks ds => some (ks, ds)
  | _ => none
theorem dctOf_is {d : D} {p : List Key × List D} (h : dctOf d = some p) : d = .dct p.1 p.2 := by
  unfold dctOf at h
  split at h
  · cases h; rfl
  · cases h
def cGet (s t r : SE) : SE := fun Δ => (s Δ).bind fun d => (ofO (dctOf d)).bind fun q => (t Δ).bind fun y => (ofO (keyOf y)).bind fun c => (r Δ).bind fun z => .ret ((valD q.1 q.2 c).getD z)
theorem i_get2 (hu : X.A.units + 64 < cLine) (ho : IE γ X o s) (he : IE γ X e t) (h2 : IE γ X e2 r) (m : M2 X o "get" apos e e2 pos := by exact ⟨rfl, rfl, rfl, rfl⟩) : IE γ X (.Call (.Attribute o "get" apos) [e, e2] [] pos) (cGet s t r) := .mk fun b u M0 Δ Δr M n k S w => by
  refine ev_get2 (by omega) (ho.go b u M0 Δ Δr M n _ S ((wpB_bind.1 w).mono fun d n1 w1 M1 A1 => ?_)) m
  obtain ⟨⟨ks, ds⟩, h1, w1a⟩ := wpB_ofO (wpB_bind.1 w1)
  have hd := dctOf_is h1
  subst hd
  refine ⟨ks, rnL (rho γ u) ds, rn_dct _ _, he.go b u M0 Δ Δr M1 n1 _ (S.aft A1) ((wpB_bind.1 w1a).mono fun y n2 w2 M2 A2 => ?_)⟩
  obtain ⟨c, hk, w2⟩ := wpB_ofO (wpB_bind.1 w2)
  refine ⟨c, by rw [keyOf_rn hk]; exact hk, h2.go b u M0 Δ Δr M2 n2 _ ((S.aft A1).aft A2) ((wpB_bind.1 w2).mono fun z n3 w3 M3 A3 => ?_)⟩
  have w4 := w3 M3 ((A1.trans A2).trans A3)
  rw [valD_rn]
  cases hv : valD ks ds c with
  | none => simp only [hv] at w4; exact w4
  | some q => simp only [hv] at w4; exact w4
theorem din_ok {neg : Bool} : Ok2 (DInP neg) (dinO neg) := fun ρ x y d M k h hk => by
  unfold dinO at h
  split at h
  · obtain ⟨c, h1, rfl⟩ := Option.map_eq_some_iff.mp h
    refine ⟨_, _, c, rn_dct _ _, by rw [keyOf_rn h1]; exact h1, ?_⟩
    rw [valD_rn, Option.isSome_map]
    rw [rn_bl] at hk
    exact hk
  · cases h
theorem k_din (hu : X.A.units + 64 < cLine) (ha : IE γ X a s) (hc : IE γ X c t) : IC γ X .In a c (c2 (dinO false) s t) := j_two (fun _ _ _ h => c_din (by omega) h) din_ok ha hc
theorem k_dnotin (hu : X.A.units + 64 < cLine) (ha : IE γ X a s) (hc : IE γ X c t) : IC γ X .NotIn a c (c2 (dinO true) s t) := j_two (fun _ _ _ h => c_dnotin (by omega) h) din_ok ha hc
theorem rn_keys {ρ : Nat → Addr} (ks : List Key) : rnL ρ (ks.map keyD) = ks.map keyD := by
  rw [rnL_map, List.map_map]
  congr 1
  funext q
  cases q with
  | inl i => exact rn_int _
  | inr x => exact rn_str _
def aKeys (s : SE) : SA := fun Δ => (s Δ).bind fun d => (ofO (dctOf d)).bind fun q => .ret (q.1.map keyD)
theorem n_keys (h : IE γ X e s) : II γ X tg e (aKeys s) := .mk fun b u M0 Δ Δr M n k S w =>
  it_keys (h.go b u M0 Δ Δr M n _ S ((wpB_bind.1 w).mono fun d n1 w1 M1 A1 => by
    obtain ⟨⟨ks, ds⟩, h1, w1a⟩ := wpB_ofO (wpB_bind.1 w1)
    have hd := dctOf_is h1
    subst hd
    have hk := w1a M1 A1
    rw [rn_keys] at hk
    exact ⟨_, _, rn_dct _ _, hk⟩))
/-! enumerate of any sequence -/
def aEnumA (s : SE) : SA := fun Δ => (s Δ).bind fun d => (ofO (seqAny d)).bind fun ds => .ret (enumD ds)
theorem seqAny_rn {ρ : Nat → Addr} {d : D} {ds : List D} (h : seqAny d = some ds) : seqAny (rn ρ d) = some (rnL ρ ds) := by
  unfold seqAny at h
  split at h
  · cases h; rw [rn_lst]; rfl
  · cases h; rw [rn_frl]; rfl
  · cases h; rw [rn_tup]; rfl
  · cases h
theorem n_enumA {elts : List Expr} {kk : Nat} {tpos : Pos} (hg : Gl X "enumerate") (hm : X.mg "enumerate" = none) (h : IE γ X e s) (hs : starEach [e] X.env = [(false, eval e X.env)] := by rfl) : II γ X (.Tuple elts kk tpos) (.Call (.Name "enumerate" p) [e] [] pos) (aEnumA s) := .mk fun b u M0 Δ Δr M n k S w =>
  it_enumA hg hm (h.go b u M0 Δ Δr M n _ S ((wpB_bind.1 w).mono fun d n1 w1 M1 A1 => by
    obtain ⟨ds, h1, w1⟩ := wpB_ofO (wpB_bind.1 w1)
    have hk := w1 M1 A1
    rw [rn_enum] at hk
    exact ⟨_, seqAny_rn h1, hk⟩)) hs
/-! t[:-1].count(x) -/
theorem strL1_rn {ρ : Nat → Addr} : ∀ {ds : List D} {zs : List Str}, strL1 ds = some zs → rnL ρ ds = ds
  | [], _, _ => by unfold rnL; rfl
  | .str x :: ds, zs, h => by
    obtain ⟨ys, h1, h2⟩ := Option.map_eq_some_iff.mp h
    unfold rnL
    rw [rn_str, strL1_rn h1]
def tupStr : D → Option (List Str)
  | .tup ds => (strL1 ds).bind fun zs => if zs.isEmpty then none else some zs
  | _ => none
def cCnt (s t : SE) : SE := fun Δ => (s Δ).bind fun d => (ofO (tupStr d)).bind fun zs => (t Δ).bind fun y => match y with
  | .str z => .ret (.int (zs.dropLast.count z : Nat))
  | _ => .fail
theorem i_cutCnt {j : Nat} {p1 p2 p3 sp cpos : Pos} (ha : IE γ X a s) (he : IE γ X e t)
    (hfew : ((backTo cpos (starEach [e] X.env)).all (fun x => !x.1) && (backToKw cpos (keywordEach [] X.env)).all (fun x => x.1.isSome) && decide ([e].length + ([] : List Keyword).length + (if ([] : List Keyword).isEmpty then 0 else 1) < 30)) = true := by rfl)
    (hline : (apos.endLine == cpos.line) = true := by rfl) (hs : starEach [e] X.env = [(false, eval e X.env)] := by rfl)
    (hbase : attributeBase (.Subscript a (.Slice none (some (.UnaryOp .USub (.Constant (.int 1) j p1) p2)) none p3) sp) "count" X.env (eval (.Subscript a (.Slice none (some (.UnaryOp .USub (.Constant (.int 1) j p1) p2)) none p3) sp) X.env) = eval (.Subscript a (.Slice none (some (.UnaryOp .USub (.Constant (.int 1) j p1) p2)) none p3) sp) X.env := by rfl) :
    IE γ X (.Call (.Attribute (.Subscript a (.Slice none (some (.UnaryOp .USub (.Constant (.int 1) j p1) p2)) none p3) sp) "count" apos) [e] [] cpos) (cCnt s t) := .mk fun b u M0 Δ Δr M n k S w => by
  refine ev_cutCnt (ha.go b u M0 Δ Δr M n _ S ((wpB_bind.1 w).mono fun d n1 w1 M1 A1 => ?_)) hfew hline hs hbase
  obtain ⟨zs, h1, w1a⟩ := wpB_ofO (wpB_bind.1 w1)
  unfold tupStr at h1
  split at h1
  · rename_i ds
    obtain ⟨ys, h2, h3⟩ := Option.bind_eq_some_iff.mp h1
    split at h3
    · cases h3
    · rename_i ne
      cases h3
      rw [rn_tup, strL1_rn h2]
      refine ⟨⟨ds, zs, rfl, h2, fun z => ne (by rw [z]; rfl)⟩, he.go b u M0 Δ Δr M1 n1 _ (S.aft A1) ((wpB_bind.1 w1a).mono fun y n2 w2 M2 A2 => ?_)⟩
      split at w2
      · rename_i z
        have w3 := w2 M2 (A1.trans A2)
        rw [rn_int] at w3
        refine ⟨_, ?_, w3⟩
        rw [rn_str]
        show (strL1 ds).bind _ = _
        rw [h2]
        show (if zs.isEmpty then none else _) = _
        rw [if_neg ne]
      · exact w2.elim
  · cases h1
theorem i_smul (ha : IE γ X a s) (hc : IE γ X c t) : IE γ X (.BinOp a .Mult c pos) (c2 smulO s t) := i_two (PP := fun d1 d2 M2 k => ∃ r, smulO d1 d2 = some r ∧ k r M2) (fun _ _ _ h => ev_smul h) (fun ρ x y d M k h hk => by
  unfold smulO at h
  split at h
  · split at h
    · rename_i cc
      cases h
      rw [rn_str] at *
      rw [rn_int]
      exact ⟨_, if_pos cc, hk⟩
    · cases h
  · cases h) ha hc
/-! ### dict comprehensions -/
theorem dputD_rn {ρ : Nat → Addr} (ks : List Key) (ds : List D) (k : Key) (r : D) : dputD ks (rnL ρ ds) k (rn ρ r) = ((dputD ks ds k r).1, rnL ρ (dputD ks ds k r).2) := by
  unfold dputD
  split
  · rw [rnL_map, rnL_map, List.map_map, List.zip_map_right, List.map_map]
    congr 1
    apply List.map_congr_left
    intro q _
    show (if q.1 = k then rn ρ r else rn ρ q.2) = rn ρ (if q.1 = k then r else q.2)
    split <;> rfl
  · rw [rnL_app]
    simp only [rnL]
def dcP (tg : Tg) (t : SB) (kx vx : SE) (Δ : List Sl) : List Key → List D → List D → Pg D
  | ck, cd, [] => .ret (.dct ck cd)
  | ck, cd, d :: ds => (ofO (tgS tg d Δ)).bind fun Δ1 => (t Δ1).bind fun c => if c = true then (kx Δ1).bind fun r => (ofO (keyOf r)).bind fun q => (vx Δ1).bind fun v => dcP tg t kx vx Δ (dputD ck cd q v).1 (dputD ck cd q v).2 ds else dcP tg t kx vx Δ ck cd ds
def cDc (tg : Tg) (vs : List Nat) (it : SA) (t : SB) (kx vx : SE) : SE := fun Δ => (it Δ).bind fun ds => if ds.length ≤ lim then dcP tg t kx vx (wipeS Δ vs) [] [] ds else .fail
theorem dput_len1 (ks : List Key) (ds : List D) (k : Key) (r : D) : (dputD ks ds k r).1.length ≤ ks.length + 1 := by
  unfold dputD
  split
  · show ks.length ≤ _; omega
  · simp
theorem i_dc {scope : Scope} {own : List (Str × Nat)} {kx vx iter : Expr} {ifs : List Expr} {sl : List Nat} {tgt : Tg} {it : SA} {tb : SB} {sk sv : SE} (hc : X.calm = true) (hN : X.N.Nodup) (ok : BlkOk X.N X.env.scope scope own) (hl : ifs.length ≤ 1) (hI : II γ X tg iter it) (hsl : ∀ j ∈ sl, j ∈ own.map (·.2))
    (hG : ∀ s H C cl fp, GT (Blk X scope s H C cl fp) tg tgt sl) (hT : ∀ s H C cl fp, ITs γ (Blk X scope s H C cl fp) ifs tb) (hK : ∀ s H C cl fp, IE γ (Blk X scope s H C cl fp) kx sk) (hE : ∀ s H C cl fp, IE γ (Blk X scope s H C cl fp) vx sv)
    (hs : ∀ x, foldedSetIterable iter X.env x = pure x := by intro _; rfl) : IE γ X (.DictComp kx vx [⟨tg, iter, ifs, 0⟩] scope pos) (cDc tgt (own.map (·.2)) it tb sk sv) := .mk fun b u M0 Δ Δr M n k S w => by
  refine ev_dc hc hN ok hl (hI.go b u M0 Δ Δr M n _ S ((wpB_bind.1 w).mono fun ds n1 w1 M1 A1 => ?_)) hs
  generalize own.map (·.2) = vs at *
  split at w1
  · rename_i hlim
    refine ⟨fun i ck cd M' => ∃ n' cd0, cd = rnL (rho γ u) cd0 ∧ Aft b u M M' n' ∧ ck.length ≤ i ∧ wpB b n' (dcP tgt tb sk sv (wipeS Δ vs) ck cd0 (ds.drop i)) fun r n2 => ∀ M2, Aft b u M M2 n2 → k (rn (rho γ u) r) M2, ⟨n1, [], by unfold rnL; rfl, A1, Nat.le_refl _, by rw [List.drop_zero]; exact w1⟩, ?_, ?_⟩
    · rintro i d ck cd M' hd ⟨n', cd0, rfl, A, hlen, w2⟩
      rw [rnL_get] at hd
      obtain ⟨d0, hd0, rfl⟩ := Option.map_eq_some_iff.mp hd
      have hi := (List.getElem?_eq_some_iff.mp hd0).1
      have hdr : ds.drop i = d0 :: ds.drop (i + 1) := by
        rw [List.drop_eq_getElem_cons hi]
        congr 1
        exact (List.getElem?_eq_some_iff.mp hd0).2
      rw [hdr] at w2
      obtain ⟨Δ1, h1, w3⟩ := wpB_ofO (wpB_bind.1 w2)
      have S2 : Rel (rho γ u) u.2 b M0 (wipeS Δ vs) (wipeD Δr vs) M' := (S.rel.keep A.keep).wipe vs
      obtain ⟨f1, r1⟩ := tg_rel S2 h1
      have S3 : SI γ b u M0 Δ1 (tgR tgt (rn (rho γ u) d0) (wipeD Δr vs)) M' n' := ⟨r1, A.urn, S.k0.trans A.keep⟩
      refine ⟨by rw [lim_eq]; omega, _, sl, hsl, fun s H C cl fp => hG s H C cl fp _ _ f1, (fun c M2 => ∃ n2, Aft b u M' M2 n2 ∧ wpB b n2 (if c = true then (sk Δ1).bind fun r => (ofO (keyOf r)).bind fun q => (sv Δ1).bind fun v => dcP tgt tb sk sv (wipeS Δ vs) (dputD ck cd0 q v).1 (dputD ck cd0 q v).2 (ds.drop (i + 1)) else dcP tgt tb sk sv (wipeS Δ vs) ck cd0 (ds.drop (i + 1))) fun r n2 => ∀ M2, Aft b u M M2 n2 → k (rn (rho γ u) r) M2), fun s H C cl fp => ?_, ?_⟩
      · exact (hT s H C cl fp).go b u M0 Δ1 _ M' n' _ S3 ((wpB_bind.1 w3).mono fun c n2 w4 M2 A2 => ⟨n2, A2, w4⟩)
      · rintro c M2 ⟨n2, A2, w4⟩
        have S4 := S3.aft A2
        cases c with
        | true =>
          rw [if_pos rfl] at w4 ⊢
          refine ⟨fun r M3 => ∃ r0 n3, r = rn (rho γ u) r0 ∧ Aft b u M2 M3 n3 ∧ wpB b n3 ((ofO (keyOf r0)).bind fun q => (sv Δ1).bind fun v => dcP tgt tb sk sv (wipeS Δ vs) (dputD ck cd0 q v).1 (dputD ck cd0 q v).2 (ds.drop (i + 1))) fun r n2 => ∀ M2, Aft b u M M2 n2 → k (rn (rho γ u) r) M2, fun s H C cl fp => ?_, ?_⟩
          · exact (hK s H C cl fp).go b u M0 Δ1 _ M2 n2 _ S4 ((wpB_bind.1 w4).mono fun r n3 w5 M3 A3 => ⟨r, n3, rfl, A3, w5⟩)
          · rintro r M3 ⟨r0, n3, rfl, A3, w5⟩
            obtain ⟨q, hq, w6⟩ := wpB_ofO (wpB_bind.1 w5)
            have S5 := S4.aft A3
            refine ⟨q, by rw [keyOf_rn hq]; exact hq, fun r M4 => ∃ v0 n4, r = rn (rho γ u) v0 ∧ Aft b u M3 M4 n4 ∧ wpB b n4 (dcP tgt tb sk sv (wipeS Δ vs) (dputD ck cd0 q v0).1 (dputD ck cd0 q v0).2 (ds.drop (i + 1))) fun r n2 => ∀ M2, Aft b u M M2 n2 → k (rn (rho γ u) r) M2, fun s H C cl fp => ?_, ?_⟩
            · exact (hE s H C cl fp).go b u M0 Δ1 _ M3 n3 _ S5 ((wpB_bind.1 w6).mono fun v n4 w7 M4 A4 => ⟨v, n4, rfl, A4, w7⟩)
            · rintro r2 M4 ⟨v0, n4, rfl, A4, w7⟩
              rw [dputD_rn]
              exact ⟨n4, _, rfl, ((A.trans A2).trans A3).trans A4, Nat.le_trans (dput_len1 _ _ _ _) (by omega), w7⟩
        | false =>
          rw [if_neg Bool.false_ne_true] at w4 ⊢
          exact ⟨n2, cd0, rfl, A.trans A2, by omega, w4⟩
    · rintro ck cd M' ⟨n', cd0, rfl, A, hlen, w2⟩
      rw [rnL_len, List.drop_length] at w2
      have w3 := w2 M' A
      rw [rn_dct] at w3
      exact w3
  · exact w1.elim
end
end DL
end
section
set_option Elab.async false
set_option linter.all false
set_option maxRecDepth 100000
/-! DP: more rules -/
namespace DL
open PySem L2
/-- lists that can be joined (not those of the script) -/
def cl1 (M : Store) : D → Option (List D)
  | .lst ds => some ds
  | .cell a => match M a with
    | some (.lst ds) => some ds
    | _ => none
  | _ => none
theorem cl_of {M : Store} {K : PySem.W.Frag} {F H : Hp} (ok : Ok K F M H) {d : D} {ds : List D} {v : V} (h : cl1 M d = some ds) (i : Is K F d v) : ∃ a vs, v = .ref a ∧ H a = some (.lst vs) ∧ IsL K F ds vs := by
  unfold cl1 at h
  split at h
  · cases h; obtain ⟨a, vs, e, h1, h2⟩ := is_lst.1 i; exact ⟨a, vs, e, ok.lst h1, h2⟩
  · rename_i a
    split at h
    · rename_i m xs e
      cases h
      obtain ⟨_, o, h1, vs, h2, h3⟩ := ok.mem a _ e
      subst h2
      exact ⟨a, vs, is_cell.1 i, h1, h3⟩
    · cases h
  · cases h
section
variable {γ : Nat → Addr} {X : Cx} {a c e tg : Expr} {pos : Pos} {s t : SE} {Δ : DS} {M : Store}
theorem el_cat {ka : AK} (h : EvD X a Δ M fun d1 M1 => EvD X c Δ M1 fun d2 M2 => ∃ xs ys, cl1 M2 d1 = some xs ∧ cl1 M2 d2 = some ys ∧ xs.length + ys.length ≤ sizeLine ∧ ka (xs ++ ys) M2) : EvL X (.BinOp a .Add c pos) Δ M ka := fun F H σ Q hs ok post =>
  sem_of (pe_op op_cat pe_sem pe_sem) (two h hs ok fun d1 d2 M' F' H' x y ⟨xs, ys, h1, h2, hl, hk⟩ st ok' i1 i2 => by
    obtain ⟨p, vs, e1, q1, l1⟩ := cl_of ok' h1 i1
    obtain ⟨q, ws, e2, q2, l2⟩ := cl_of ok' h2 i2
    exact ⟨p, q, vs, ws, e1, e2, q1, q2, by rw [← l1.length, ← l2.length]; exact hl, fun r hr => post.new st ok' hk hr (l1.app l2)⟩)
def lstV : D → Option (List D)
  | .lst ds => some ds
  | _ => none
theorem vw_cl {ρ : Nat → Addr} {b : Bool} {M : Store} {d dr : D} {ds : List D} (h : lstV d = some ds) (v : Vw ρ b M d dr) : cl1 M dr = some (rnL ρ ds) := by
  unfold lstV at h
  split at h
  · cases h
    rcases v with rfl | ⟨q, es, rfl, e, h2, _⟩
    · rw [rn_lst]; rfl
    · cases e; simp only [cl1, h2]
  · cases h
def aAdd (s t : SE) : SA := fun Δ => (s Δ).bind fun x => (t Δ).bind fun y => (ofO (lstV x)).bind fun xs => (ofO (lstV y)).bind fun ys => if xs.length + ys.length ≤ lim then .ret (xs ++ ys) else .fail
theorem l_add (ha : IV γ X a s) (hc : IV γ X c t) : IL γ X (.BinOp a .Add c pos) (aAdd s t) := .mk fun b u M0 Δ Δr M n k S w =>
  el_cat (ha.go b u M0 Δ Δr M n _ S ((wpB_bind.1 w).mono fun x n1 w1 M1 xr A1 V1 => hc.go b u M0 Δ Δr M1 n1 _ (S.aft A1) ((wpB_bind.1 w1).mono fun y n2 w2 M2 yr A2 V2 => by
    obtain ⟨xs, h1, w2⟩ := wpB_ofO (wpB_bind.1 w2)
    obtain ⟨ys, h2, w2⟩ := wpB_ofO (wpB_bind.1 w2)
    split at w2
    · rename_i hl
      have hk := w2 M2 (A1.trans A2)
      rw [rnL_app] at hk
      exact ⟨_, _, vw_cl h1 (V1.keep A2.keep), vw_cl h2 V2, by rw [lim_eq, rnL_len, rnL_len]; exact hl, hk⟩
    · exact w2.elim)))
end
end DL
end
section
set_option Elab.async false
set_option linter.all false
set_option maxRecDepth 100000
/-! TY: typed readings of the programs -/
namespace DL
open PySem L2
@[reducible] def eI : Int → D := D.int
@[reducible] def eB : Bool → D := D.bl
@[reducible] def eS : Str → D := D.str
@[reducible] def eD : D → D := fun d => d
@[reducible] def eU : Unit → D := fun _ => .cell 0
def eL {α : Type} (f : α → D) (xs : List α) : D := .lst (xs.map f)
def eF {α : Type} (f : α → D) (xs : List α) : D := .frl (xs.map f)
def eT {α : Type} (f : α → D) (xs : List α) : D := .tup (xs.map f)
def e2 {α β : Type} (f : α → D) (g : β → D) (p : α × β) : D := .tup [f p.1, g p.2]
def e3 {α β γ : Type} (f : α → D) (g : β → D) (h : γ → D) (p : α × β × γ) : D := .tup [f p.1, g p.2.1, h p.2.2]
def eO {α : Type} (f : α → D) : Option α → D
  | none => .non
  | some a => f a
def eM {α : Type} (f : α → D) (m : List (Str × α)) : D := .dct (m.map fun p => .inr p.1) (m.map fun p => f p.2)
section
variable {Δ : List Sl} {s t r : SE} {i j : Nat} {d e c : D} {ds es : List D} {A : SA} {T U : SB} {α β δ : Type} {f : α → D} {g : β → D} {xs ys : List α}
theorem q_var (h : Δ[i]? = some (.v d)) : cVar i Δ = .ret d := by unfold cVar; rw [h]
theorem q_vw (h : Δ[i]? = some (.v d)) : cVw i Δ = .ret d := by unfold cVw; rw [h]
theorem q_vo (h : Δ[i]? = some (.o (.lst ds))) : cVw i Δ = .ret (.lst ds) := by unfold cVw; rw [h]
theorem q_voL (h : Δ[i]? = some (.o (.lst (xs.map f)))) : cVw i Δ = .ret (eL f xs) := by unfold cVw; rw [h]; rfl
theorem q_vww (h : Δ[i]? = some (.w d)) : cVw i Δ = .ret d := by unfold cVw; rw [h]
theorem q_C : cC d Δ = .ret d := rfl
theorem q_1 {o : D → Option D} (hs : s Δ = .ret d) (hg : o d = some e) : c1 o s Δ = .ret e := by
  show (s Δ).bind _ = _
  rw [hs, bind_ret, hg]
  rfl
theorem q_2 {o : D → D → Option D} (hs : s Δ = .ret d) (ht : t Δ = .ret e) (hg : o d e = some c) : c2 o s t Δ = .ret c := by
  show (s Δ).bind _ = _
  rw [hs, bind_ret, ht, bind_ret, hg]
  rfl
theorem q_aN : aN Δ = .ret [] := rfl
theorem q_aC (hs : s Δ = .ret d) (ht : A Δ = .ret ds) : aC s A Δ = .ret (d :: ds) := by
  show (s Δ).bind _ = _
  rw [hs, bind_ret, ht]
  rfl
theorem q_call {F : List D → Pg D} (ha : A Δ = .ret ds) (hF : F ds = .ret d) : cCall F A Δ = .ret d := by
  show (A Δ).bind F = _
  rw [ha]; exact hF
theorem q_tup (ha : A Δ = .ret ds) (hl : ds.length ≤ lim := by exact Nat.le_of_ble_eq_true rfl) : cTup A Δ = .ret (.tup ds) := by
  show (A Δ).bind _ = _
  rw [ha, bind_ret, if_pos hl]
theorem q_tupT (ha : A Δ = .ret (xs.map f)) (hl : xs.length ≤ lim) : cTup A Δ = .ret (eT f xs) := by
  show (A Δ).bind _ = _
  rw [ha, bind_ret, if_pos (by rw [List.length_map]; exact hl)]
  rfl
theorem q_aL (ha : A Δ = .ret ds) (hl : ds.length ≤ lim := by exact Nat.le_of_ble_eq_true rfl) : aL A Δ = .ret ds := by
  show (A Δ).bind _ = _
  rw [ha, bind_ret, if_pos hl]
theorem q_cL (ha : A Δ = .ret ds) : cL A Δ = .ret (.lst ds) := by
  show (A Δ).bind _ = _
  rw [ha]; rfl
theorem q_cLL (ha : A Δ = .ret (xs.map f)) : cL A Δ = .ret (eL f xs) := q_cL ha
/-! tests -/
theorem q_tB {b : Bool} (hs : s Δ = .ret (.bl b)) : tB s Δ = .ret b := by
  show (s Δ).bind _ = _
  rw [hs]; rfl
theorem q_tT {b : Bool} (hs : s Δ = .ret d) (h : truO d = some b) : tT s Δ = .ret b := by
  show (s Δ).bind _ = _
  rw [hs, bind_ret, h]; rfl
theorem q_tNot {b : Bool} (hs : T Δ = .ret b) : tNot T Δ = .ret (!b) := by
  show (T Δ).bind _ = _
  rw [hs]; rfl
theorem q_tAnd {b c : Bool} (hs : T Δ = .ret b) (ht : b = true → U Δ = .ret c) : tAnd T U Δ = .ret (b && c) := by
  show (T Δ).bind _ = _
  rw [hs, bind_ret]
  cases b with
  | true => exact ht rfl
  | false => rfl
theorem q_tOr {b c : Bool} (hs : T Δ = .ret b) (ht : b = false → U Δ = .ret c) : tOr T U Δ = .ret (b || c) := by
  show (T Δ).bind _ = _
  rw [hs, bind_ret]
  cases b with
  | true => rfl
  | false => exact ht rfl
theorem q_yes : DL.tYes Δ = .ret true := rfl
theorem q_eAnd {b c : Bool} (hs : s Δ = .ret (.bl b)) (ht : b = true → t Δ = .ret (.bl c)) : eAnd s t Δ = .ret (.bl (b && c)) := by
  show (s Δ).bind _ = _
  rw [hs]
  cases b with
  | true => exact ht rfl
  | false => rfl
theorem q_eOr {b c : Bool} (hs : s Δ = .ret (.bl b)) (ht : b = false → t Δ = .ret (.bl c)) : eOr s t Δ = .ret (.bl (b || c)) := by
  show (s Δ).bind _ = _
  rw [hs]
  cases b with
  | true => rfl
  | false => exact ht rfl
theorem q_cNot {b : Bool} (hs : s Δ = .ret (.bl b)) : cNot s Δ = .ret (.bl (!b)) := by
  show (s Δ).bind _ = _
  rw [hs]; rfl
theorem q_cIf {b : Bool} {x y : α} (ht : T Δ = .ret b) (hs : b = true → s Δ = .ret (f x)) (hr : b = false → t Δ = .ret (f y)) : cIf T s t Δ = .ret (f (if b = true then x else y)) := by
  show (T Δ).bind _ = _
  rw [ht, bind_ret]
  cases b with
  | true => exact hs rfl
  | false => exact hr rfl
/-! what the operators make of typed things -/
theorem o_addI {a b : Int} : addO (.int a) (.int b) = some (.int (a + b)) := rfl
theorem o_subI {a b : Int} : subO (.int a) (.int b) = some (.int (a - b)) := rfl
theorem o_negI {a : Int} : negO (.int a) = some (.int (-a)) := rfl
def mulOk (i j : Int) : Prop := nsm 18446744073709551615 j = true ∨ i.natAbs.log2 + j.natAbs.log2 < 1000000
theorem o_mulI {a b : Int} (h : mulOk a b) : mulO (.int a) (.int b) = some (.int (a * b)) := if_pos h
theorem o_modI {a b : Int} (h : 0 < b) : modO (.int a) (.int b) = some (.int (a % b)) := if_pos h
theorem o_fdivI {a b : Int} (h : 0 < b ∧ b.natAbs.log2 < 9000) : fdivO (.int a) (.int b) = some (.int (a / b)) := if_pos h
theorem o_addS {a b : Str} (h : a.length + b.length ≤ lim) : addO (.str a) (.str b) = some (.str (a ++ b)) := if_pos h
theorem o_addL (h : xs.length + ys.length ≤ lim) : addO (eL f xs) (eL f ys) = some (eL f (xs ++ ys)) := by
  unfold eL
  rw [List.map_append]
  exact if_pos (by rw [List.length_map, List.length_map]; exact h)
theorem o_addT (h : xs.length + ys.length ≤ lim) : addO (eT f xs) (eT f ys) = some (eT f (xs ++ ys)) := by
  unfold eT
  rw [List.map_append]
  exact if_pos (by rw [List.length_map, List.length_map]; exact h)
theorem o_ltI {a b : Int} : coO .Lt (.int a) (.int b) = some (.bl (decide (a < b))) := rfl
theorem o_leI {a b : Int} : coO .LtE (.int a) (.int b) = some (.bl (decide (a ≤ b))) := rfl
theorem o_gtI {a b : Int} : coO .Gt (.int a) (.int b) = some (.bl (decide (b < a))) := rfl
theorem o_geI {a b : Int} : coO .GtE (.int a) (.int b) = some (.bl (decide (b ≤ a))) := rfl
theorem o_eqI {a b : Int} : eqO false (.int a) (.int b) = some (.bl (decide (a = b))) := rfl
theorem o_neI {a b : Int} : eqO true (.int a) (.int b) = some (.bl (!decide (a = b))) := rfl
theorem o_eqS {a b : Str} : eqO false (.str a) (.str b) = some (.bl (decide (a = b))) := rfl
theorem o_neS {a b : Str} : eqO true (.str a) (.str b) = some (.bl (!decide (a = b))) := rfl
theorem o_eqB {a b : Bool} : eqO false (.bl a) (.bl b) = some (.bl (decide (a = b))) := rfl
theorem o_neB {a b : Bool} : eqO true (.bl a) (.bl b) = some (.bl (!decide (a = b))) := rfl
theorem o_nonO {neg : Bool} {a : Option α} (h : ∀ x, isNon (f x) = false) : nonO neg (eO f a) = some (.bl (if neg = true then !a.isNone else a.isNone)) := by
  unfold nonO
  cases a with
  | none => cases neg <;> rfl
  | some x =>
    show some (D.bl (if neg then !isNon (f x) else isNon (f x))) = _
    rw [h x]
    cases neg <;> rfl
theorem o_lenL : lenO' (eL f xs) = some (.int (xs.length : Nat)) := by
  show some (D.int ((xs.map f).length : Nat)) = _
  rw [List.length_map]
theorem o_lenT : lenO' (eT f xs) = some (.int (xs.length : Nat)) := by
  show some (D.int ((xs.map f).length : Nat)) = _
  rw [List.length_map]
theorem o_lenS {z : Str} (h : z.length ≤ lim) : lenO' (.str z) = some (.int (z.length : Nat)) := if_pos h
theorem o_tupL : tupO (eL f xs) = some (eT f xs) := rfl
theorem o_tupT : tupO (eT f xs) = some (eT f xs) := rfl
theorem o_truL : truO (eL f xs) = some (!xs.isEmpty) := by cases xs <;> rfl
theorem o_truB {b : Bool} : truO (.bl b) = some b := rfl
theorem o_sum {ns : List Int} : sumO (eL D.int ns) = some (.int ns.sum) := by
  show ((unI (ns.map D.int)).map _) = _
  rw [unI_map]; rfl
theorem o_all {ns : List Bool} : allO (eL D.bl ns) = some (.bl (ns.all id)) := by
  show ((unB (ns.map D.bl)).map _) = _
  rw [unB_map]; rfl
theorem o_any {ns : List Bool} : anyO (eL D.bl ns) = some (.bl (ns.any id)) := by
  show ((unB (ns.map D.bl)).map _) = _
  rw [unB_map]; rfl
theorem o_max {a b : Int} : maxO (.int a) (.int b) = some (.int (if a < b then b else a)) ∨ True := .inr trivial
theorem o_inSL {x : Str} {zs : List Str} : inO false (.str x) (eL D.str zs) = some (.bl (decide (x ∈ zs))) := in_strs (neg := false) rfl
theorem o_inST {x : Str} {zs : List Str} : inO false (.str x) (eT D.str zs) = some (.bl (decide (x ∈ zs))) := in_strs (neg := false) rfl
theorem o_ninSL {x : Str} {zs : List Str} : inO true (.str x) (eL D.str zs) = some (.bl (!decide (x ∈ zs))) := in_strs (neg := true) rfl
theorem o_ninST {x : Str} {zs : List Str} : inO true (.str x) (eT D.str zs) = some (.bl (!decide (x ∈ zs))) := in_strs (neg := true) rfl
/-! items, slices -/
theorem atI_map {i : Int} : atI (xs.map f) i = (atI xs i).map f := by
  unfold atI
  rw [List.length_map]
  cases ixN xs.length i with
  | none => rfl
  | some j => simp
theorem o_ixL {i : Int} {x : α} (h : atI xs i = some x) : ixO (eL f xs) (.int i) = some (f x) := by
  show atI (xs.map f) i = _
  rw [atI_map, h]; rfl
theorem o_ixT {i : Int} {x : α} (h : atI xs i = some x) : ixO (eT f xs) (.int i) = some (f x) := by
  show atI (xs.map f) i = _
  rw [atI_map, h]; rfl
def ixD [Inhabited α] (xs : List α) (i : Int) : α := (atI xs i).getD default
theorem ixD_some [Inhabited α] {i : Int} (h : (atI xs i).isSome = true) : atI xs i = some (ixD xs i) := by
  unfold ixD
  cases q : atI xs i with
  | none => rw [q] at h; cases h
  | some x => rfl
theorem o_ixLD [Inhabited α] {i : Int} (h : (atI xs i).isSome = true) : ixO (eL f xs) (.int i) = some (f (ixD xs i)) := o_ixL (ixD_some h)
theorem o_ixTD [Inhabited α] {i : Int} (h : (atI xs i).isSome = true) : ixO (eT f xs) (.int i) = some (f (ixD xs i)) := o_ixT (ixD_some h)
def cutL (xs : List α) (lo hi : Option Int) : List α := (xs.drop (HT.sIx xs.length 0 lo)).take (HT.sIx xs.length xs.length hi - HT.sIx xs.length 0 lo)
theorem cut_map {lo hi : Option Int} : cutD (xs.map f) lo hi = (cutL xs lo hi).map f := by
  unfold cutD cutL
  rw [List.length_map, List.map_take, List.map_drop]
theorem o_slL {lo hi : Option Int} : slO (eL f xs) lo hi = some (eL f (cutL xs lo hi)) := by
  show some (D.lst (cutD (xs.map f) lo hi)) = _
  rw [cut_map]; rfl
theorem o_slT {lo hi : Option Int} : slO (eT f xs) lo hi = some (eT f (cutL xs lo hi)) := by
  show some (D.tup (cutD (xs.map f) lo hi)) = _
  rw [cut_map]; rfl
theorem q_sl {x y : Int} (h1 : s Δ = .ret d) (h2 : t Δ = .ret (.int x)) (h3 : r Δ = .ret (.int y)) (h : slO d (some x) (some y) = some e) : cSl s t r Δ = .ret e := by
  show (s Δ).bind _ = _
  rw [h1, bind_ret, h2, bind_ret]
  show (r Δ).bind _ = _
  rw [h3, bind_ret]
  show ofO (slO d (some x) (some y)) = _
  rw [h]; rfl
/-! iterables: the list of the items -/
theorem q_itL (hs : s Δ = .ret (eL f xs)) : aIt s Δ = .ret (xs.map f) := by
  show (s Δ).bind _ = _
  rw [hs]; rfl
theorem q_itT (hs : s Δ = .ret (eT f xs)) : aIt s Δ = .ret (xs.map f) := by
  show (s Δ).bind _ = _
  rw [hs]; rfl
def chrS (z : Str) : List Str := z.cps.toList.map fun c => ⟨#[c]⟩
theorem q_itS {z : Str} (hs : s Δ = .ret (.str z)) : aIt s Δ = .ret ((chrS z).map D.str) := by
  show (s Δ).bind _ = _
  rw [hs]
  show Pg.ret (signs z) = _
  unfold signs chrS
  rw [List.map_map]; rfl
def enumL (xs : List α) : List (Int × α) := xs.zipIdx.map fun q => ((q.2 : Nat), q.1)
theorem q_enumL (hs : s Δ = .ret (eL f xs)) : aEnumA s Δ = .ret ((enumL xs).map (e2 eI f)) := by
  show (s Δ).bind _ = _
  rw [hs]
  show Pg.ret (enumD (xs.map f)) = _
  unfold enumD enumL
  rw [List.zipIdx_map, List.map_map, List.map_map]; rfl
theorem q_enumT (hs : s Δ = .ret (eT f xs)) : aEnumA s Δ = .ret ((enumL xs).map (e2 eI f)) := by
  show (s Δ).bind _ = _
  rw [hs]
  show Pg.ret (enumD (xs.map f)) = _
  unfold enumD enumL
  rw [List.zipIdx_map, List.map_map, List.map_map]; rfl
theorem zip_enc {ys : List β} : zipD (xs.map f) (ys.map g) = (xs.zip ys).map (e2 f g) := by
  unfold zipD
  rw [List.zip_map, List.map_map]; rfl
theorem q_zipL {ys : List β} (hs : s Δ = .ret (eL f xs)) (ht : t Δ = .ret (eL g ys)) : aZip s t Δ = .ret ((xs.zip ys).map (e2 f g)) := by
  show (s Δ).bind _ = _
  rw [hs, bind_ret, ht]
  show Pg.ret (zipD (xs.map f) (ys.map g)) = _
  rw [zip_enc]
theorem q_zipT {ys : List β} (hs : s Δ = .ret (eT f xs)) (ht : t Δ = .ret (eT g ys)) : aZip s t Δ = .ret ((xs.zip ys).map (e2 f g)) := by
  show (s Δ).bind _ = _
  rw [hs, bind_ret, ht]
  show Pg.ret (zipD (xs.map f) (ys.map g)) = _
  rw [zip_enc]
def rngI (lo : Int) (n : Nat) : List Int := (List.range n).map fun i => lo + (i : Nat)
theorem rngD_is (lo : Int) (n : Nat) : rngD lo n = (rngI lo n).map D.int := by
  unfold rngD rngI
  rw [List.map_map]; rfl
theorem q_rg1 {n : Int} (hs : s Δ = .ret (.int n)) (h : inR n = true) : aRg1 s Δ = .ret ((rngI 0 n.toNat).map D.int) := by
  show (s Δ).bind _ = _
  rw [hs, bind_ret]
  show ofO (if inR n = true then some (rngD 0 n.toNat) else none) = _
  rw [if_pos h, rngD_is]; rfl
theorem q_rg2 {m n : Int} (hs : s Δ = .ret (.int m)) (ht : t Δ = .ret (.int n)) (h : inR m = true ∧ inR n = true) : aRg2 s t Δ = .ret ((rngI m (n - m).toNat).map D.int) := by
  show (s Δ).bind _ = _
  rw [hs, bind_ret, ht, bind_ret]
  show ofO (if inR m = true ∧ inR n = true then some (rngD m (n - m).toNat) else none) = _
  rw [if_pos h, rngD_is]; rfl
theorem q_listL (hs : s Δ = .ret (eL f xs)) : aList s Δ = .ret (xs.map f) := by
  show (s Δ).bind _ = _
  rw [hs]; rfl
theorem q_listT (hs : s Δ = .ret (eT f xs)) : aList s Δ = .ret (xs.map f) := by
  show (s Δ).bind _ = _
  rw [hs]; rfl
theorem q_revL (hs : s Δ = .ret (eL f xs)) : aRev s Δ = .ret (xs.reverse.map f) := by
  show (s Δ).bind _ = _
  rw [hs, List.map_reverse]; rfl
theorem q_sortS {zs : List Str} (hs : s Δ = .ret (eL D.str zs)) (h : srtO (zs.map D.str) = some ((sortT zs).map D.str)) : aSort s Δ = .ret ((sortT zs).map D.str) := by
  show (s Δ).bind _ = _
  rw [hs]
  show ofO (srtO (zs.map D.str)) = _
  rw [h]; rfl
theorem q_ssL {zs : List Str} (hs : s Δ = .ret (eL D.str zs)) (h : zs.length < 4000) : aSoSet s Δ = .ret ((ss zs).map D.str) := by
  show (s Δ).bind _ = _
  rw [hs]
  show ofO ((unS (zs.map D.str)).bind fun xs => if xs.length < 4000 then some ((ss xs).map D.str) else none) = _
  rw [unS_map]
  show ofO (if zs.length < 4000 then some ((ss zs).map D.str) else none) = _
  rw [if_pos h]; rfl
theorem q_ssT {zs : List Str} (hs : s Δ = .ret (eT D.str zs)) (h : zs.length < 4000) : aSoSet s Δ = .ret ((ss zs).map D.str) := by
  show (s Δ).bind _ = _
  rw [hs]
  show ofO ((unS (zs.map D.str)).bind fun xs => if xs.length < 4000 then some ((ss xs).map D.str) else none) = _
  rw [unS_map]
  show ofO (if zs.length < 4000 then some ((ss zs).map D.str) else none) = _
  rw [if_pos h]; rfl
/-! comprehensions -/
theorem q_lc {tg : Tg} {vs : List Nat} {p : α → Bool} {v : α → β} (hi : A Δ = .ret (xs.map f)) (hl : xs.length ≤ lim) (h : ∀ x ∈ xs, ∃ Δ1, tgS tg (f x) (wipeS Δ vs) = some Δ1 ∧ T Δ1 = .ret (p x) ∧ (p x = true → s Δ1 = .ret (g (v x)))) : aLc tg vs A T s Δ = .ret (((xs.filter p).map v).map g) := by
  show (A Δ).bind _ = _
  rw [hi, bind_ret, if_pos (by rw [List.length_map]; exact hl), List.map_map]
  exact lcP_plain f p (fun x => g (v x)) xs h
theorem q_lc0 {tg : Tg} {vs : List Nat} {v : α → β} (hi : A Δ = .ret (xs.map f)) (hl : xs.length ≤ lim) (h : ∀ x ∈ xs, ∃ Δ1, tgS tg (f x) (wipeS Δ vs) = some Δ1 ∧ s Δ1 = .ret (g (v x))) : aLc tg vs A DL.tYes s Δ = .ret ((xs.map v).map g) := by
  have q := q_lc (tg := tg) (vs := vs) (T := DL.tYes) (s := s) (p := fun _ => true) (v := v) (g := g) hi hl fun x hx => by
    obtain ⟨Δ1, h1, h2⟩ := h x hx
    exact ⟨Δ1, h1, rfl, fun _ => h2⟩
  rw [List.filter_eq_self.mpr (fun _ _ => rfl)] at q
  exact q
/-! dicts -/
def kget (m : List (Str × α)) (k : Str) : Option α := match m with
  | [] => none
  | p :: m => if p.1 = k then some p.2 else kget m k
def kput (m : List (Str × α)) (k : Str) (v : α) : List (Str × α) := if (m.any fun p => decide (p.1 = k)) = true then m.map fun p => if p.1 = k then (p.1, v) else p else m ++ [(k, v)]
theorem valD_map {k : Str} : ∀ m : List (Str × α), valD (m.map fun p => Sum.inr p.1) (m.map fun p => f p.2) (.inr k) = (kget m k).map f
  | [] => rfl
  | p :: m => by
    unfold kget
    rw [List.map_cons, List.map_cons]
    unfold valD
    by_cases h : p.1 = k
    · rw [if_pos (by rw [h]), if_pos h]; rfl
    · rw [if_neg (fun z => h (by cases z; rfl)), if_neg h]; exact valD_map m
theorem o_dinS {m : List (Str × α)} {k : Str} : dinO false (.str k) (eM f m) = some (.bl (kget m k).isSome) := by
  show some (D.bl (valD _ _ (.inr k)).isSome) = _
  rw [valD_map, Option.isSome_map]
theorem o_dninS {m : List (Str × α)} {k : Str} : dinO true (.str k) (eM f m) = some (.bl (!(kget m k).isSome)) := by
  show some (D.bl (!(valD _ _ (.inr k)).isSome)) = _
  rw [valD_map, Option.isSome_map]
theorem o_dix [Inhabited α] {m : List (Str × α)} {k : Str} (h : (kget m k).isSome = true) : dixO (eM f m) (.str k) = some (f ((kget m k).getD default)) := by
  show valD _ _ (.inr k) = _
  rw [valD_map]
  cases q : kget m k with
  | none => rw [q] at h; cases h
  | some x => rfl
theorem q_get {m : List (Str × α)} {k : Str} {z : α} (hs : s Δ = .ret (eM f m)) (ht : t Δ = .ret (.str k)) (hr : r Δ = .ret (f z)) : cGet s t r Δ = .ret (f ((kget m k).getD z)) := by
  show (s Δ).bind _ = _
  rw [hs, bind_ret]
  show (t Δ).bind _ = _
  rw [ht, bind_ret]
  show (r Δ).bind _ = _
  rw [hr, bind_ret]
  show Pg.ret ((valD _ _ (.inr k)).getD (f z)) = _
  rw [valD_map]
  cases kget m k <;> rfl
theorem q_keys {m : List (Str × α)} (hs : s Δ = .ret (eM f m)) : aKeys s Δ = .ret ((m.map fun p => p.1).map D.str) := by
  show (s Δ).bind _ = _
  rw [hs]
  show Pg.ret ((m.map fun p => Sum.inr p.1).map keyD) = _
  rw [List.map_map, List.map_map]; rfl
theorem q_cnt {zs : List Str} {z : Str} (hs : s Δ = .ret (eT D.str zs)) (ht : t Δ = .ret (.str z)) (hl : zs ≠ []) : cCnt s t Δ = .ret (.int (zs.dropLast.count z : Nat)) := by
  have e : ∀ zs : List Str, strL1 (zs.map D.str) = some zs := fun zs => by
    induction zs with
    | nil => rfl
    | cons a zs ih =>
      show (strL1 (zs.map D.str)).map _ = _
      rw [ih]; rfl
  show (s Δ).bind _ = _
  rw [hs, bind_ret]
  show (ofO ((strL1 (zs.map D.str)).bind fun zs => if zs.isEmpty then none else some zs)).bind _ = _
  rw [e]
  show (ofO (if zs.isEmpty then none else some zs)).bind _ = _
  rw [if_neg (by cases zs with | nil => exact absurd rfl hl | cons _ _ => exact Bool.false_ne_true)]
  show (t Δ).bind _ = _
  rw [ht]; rfl
theorem dput_map {m : List (Str × α)} {k : Str} {v : α} : dputD (m.map fun p => Sum.inr p.1) (m.map fun p => f p.2) (.inr k) (f v) = ((kput m k v).map fun p => Sum.inr p.1, (kput m k v).map fun p => f p.2) := by
  unfold dputD kput
  have e : ((m.map fun p => (Sum.inr p.1 : Key)).any fun c => decide (c = .inr k)) = m.any fun p => decide (p.1 = k) := by
    rw [List.any_map]
    congr 1
    funext p
    show decide ((Sum.inr p.1 : Key) = .inr k) = decide (p.1 = k)
    exact decide_eq_decide.mpr ⟨fun z => by cases z; rfl, fun z => by rw [z]⟩
  rw [e]
  split
  · rw [List.map_map, List.map_map]
    congr 1
    · refine List.map_congr_left fun p _ => ?_
      show (Sum.inr p.1 : Key) = Sum.inr (if p.1 = k then (p.1, v) else p).1
      split <;> rfl
    · have z : ∀ m : List (Str × α), ((m.map fun p => (Sum.inr p.1 : Key)).zip (m.map fun p => f p.2)) = m.map fun p => ((Sum.inr p.1 : Key), f p.2) := fun m => by
        induction m with
        | nil => rfl
        | cons p m ih => rw [List.map_cons, List.map_cons, List.zip_cons_cons, ih]; rfl
      rw [z, List.map_map]
      refine List.map_congr_left fun p _ => ?_
      show (if (Sum.inr p.1 : Key) = .inr k then f v else f p.2) = f (if p.1 = k then (p.1, v) else p).2
      by_cases h : p.1 = k
      · rw [if_pos (by rw [h]), if_pos h]
      · rw [if_neg (fun z => h (by cases z; rfl)), if_neg h]
  · rw [List.map_append, List.map_append]; rfl
theorem dcP_plain {tg : Tg} {kx : SE} {p : α → Bool} {kf : α → Str} {vf : α → β} : ∀ (xs : List α) (m : List (Str × β)), (∀ x ∈ xs, ∃ Δ1, tgS tg (f x) Δ = some Δ1 ∧ T Δ1 = .ret (p x) ∧ (p x = true → kx Δ1 = .ret (.str (kf x)) ∧ s Δ1 = .ret (g (vf x)))) → dcP tg T kx s Δ (m.map fun p => .inr p.1) (m.map fun p => g p.2) (xs.map f) = .ret (eM g ((xs.filter p).foldl (fun m x => kput m (kf x) (vf x)) m))
  | [], m, _ => rfl
  | x :: xs, m, h => by
    obtain ⟨Δ1, h1, h2, h3⟩ := h x (List.mem_cons_self ..)
    have hx : ∀ y ∈ xs, _ := fun y hy => h y (List.mem_cons_of_mem _ hy)
    show ((ofO (tgS tg (f x) Δ)).bind fun Δ1 => (T Δ1).bind fun c => if c = true then (kx Δ1).bind fun r => (ofO (keyOf r)).bind fun q => (s Δ1).bind fun v => dcP tg T kx s Δ (dputD (m.map fun p => .inr p.1) (m.map fun p => g p.2) q v).1 (dputD (m.map fun p => .inr p.1) (m.map fun p => g p.2) q v).2 (xs.map f) else dcP tg T kx s Δ (m.map fun p => .inr p.1) (m.map fun p => g p.2) (xs.map f)) = _
    rw [h1, ofO_some, bind_ret, h2, bind_ret]
    cases hp : p x with
    | true =>
      rw [ite_t, (h3 hp).1, bind_ret, List.filter_cons_of_pos hp]
      show ((s Δ1).bind _) = _
      rw [(h3 hp).2, bind_ret, dput_map]
      exact dcP_plain xs (kput m (kf x) (vf x)) hx
    | false =>
      rw [ite_f, List.filter_cons_of_neg (by rw [hp]; exact Bool.false_ne_true)]
      exact dcP_plain xs m hx
theorem q_dc {tg : Tg} {vs : List Nat} {kx : SE} {p : α → Bool} {kf : α → Str} {vf : α → β} (hi : A Δ = .ret (xs.map f)) (hl : xs.length ≤ lim) (h : ∀ x ∈ xs, ∃ Δ1, tgS tg (f x) (wipeS Δ vs) = some Δ1 ∧ T Δ1 = .ret (p x) ∧ (p x = true → kx Δ1 = .ret (.str (kf x)) ∧ s Δ1 = .ret (g (vf x)))) : cDc tg vs A T kx s Δ = .ret (eM g ((xs.filter p).foldl (fun m x => kput m (kf x) (vf x)) [])) := by
  show (A Δ).bind _ = _
  rw [hi, bind_ret, if_pos (by rw [List.length_map]; exact hl)]
  exact dcP_plain xs [] h
/-! statements -/
theorem q_set {S : ST} {P : α → Prop} {K : α → Pg Out} {v : α} (hs : s Δ = .ret (f v)) (hP : P v) (hr : ∀ x, P x → S (Δ.set i (.v (f x))) = K x) : DL.tSeq (tSet i (oV s)) S Δ = K v := by
  show (((s Δ).bind _).bind _).bind _ = _
  rw [hs]
  exact hr v hP
theorem z_seq {S1 S2 : ST} {Δ1 : List Sl} {o : Pg Out} (h1 : S1 Δ = .ret (.nx Δ1)) (h2 : S2 Δ1 = o) : DL.tSeq S1 S2 Δ = o := by
  show (S1 Δ).bind _ = _
  rw [h1]; exact h2
theorem z_seqr {S1 S2 : ST} (h1 : S1 Δ = .ret (.rt d)) : DL.tSeq S1 S2 Δ = .ret (.rt d) := by
  show (S1 Δ).bind _ = _
  rw [h1]; rfl
theorem z_set {Δ1 : List Sl} (hs : s Δ = .ret d) (h : Δ.set i (.v d) = Δ1 := by rfl) : tSet i (oV s) Δ = .ret (.nx Δ1) := by
  subst h
  show ((s Δ).bind _).bind _ = _
  rw [hs]; rfl
theorem z_setL {Δ1 : List Sl} (hs : A Δ = .ret ds) (h : Δ.set i (.o (.lst ds)) = Δ1 := by rfl) : tSet i (oL A) Δ = .ret (.nx Δ1) := by
  subst h
  show ((A Δ).bind _).bind _ = _
  rw [hs]; rfl
theorem z_nil : DL.tNil Δ = .ret (.nx Δ) := rfl
theorem z_ret (hs : s Δ = .ret d) : DL.tRet s Δ = .ret (.rt d) := by
  show (s Δ).bind _ = _
  rw [hs]; rfl
theorem z_retO (h : Δ[i]? = some (.o (.lst ds))) : tRetO i Δ = .ret (.rt (.lst ds)) := by unfold tRetO; rw [h]; rfl
theorem z_if {S1 S2 : ST} {b : Bool} {o1 o2 : Pg Out} (ht : T Δ = .ret b) (h1 : b = true → S1 Δ = o1) (h2 : b = false → S2 Δ = o2) : DL.tIf T S1 S2 Δ = if b = true then o1 else o2 := by
  show (T Δ).bind _ = _
  rw [ht]
  cases b with
  | true => exact h1 rfl
  | false => exact h2 rfl
theorem z_ifr {S1 S2 : ST} {b : Bool} {x y : α} (ht : T Δ = .ret b) (h1 : b = true → S1 Δ = .ret (.rt (f x))) (h2 : b = false → S2 Δ = .ret (.rt (f y))) : DL.tIf T S1 S2 Δ = .ret (.rt (f (if b = true then x else y))) := by
  rw [z_if ht h1 h2]
  cases b <;> rfl
/-- an early return -/
theorem z_ifre {S1 S : ST} {b : Bool} {x y : α} (ht : T Δ = .ret b) (h1 : b = true → S1 Δ = .ret (.rt (f x))) (h2 : b = false → S Δ = .ret (.rt (f y))) : DL.tSeq (DL.tIf T S1 DL.tNil) S Δ = .ret (.rt (f (if b = true then x else y))) := by
  show (DL.tIf T S1 DL.tNil Δ).bind _ = _
  rw [z_if ht h1 (fun _ => z_nil)]
  cases b with
  | true => rfl
  | false => exact h2 rfl
/-- both ways go on -/
theorem z_ifn {S1 S2 : ST} {b : Bool} (ΔF : Bool → List Sl) (ht : T Δ = .ret b) (h1 : b = true → S1 Δ = .ret (.nx (ΔF true))) (h2 : b = false → S2 Δ = .ret (.nx (ΔF false))) : DL.tIf T S1 S2 Δ = .ret (.nx (ΔF b)) := by
  rw [z_if ht h1 h2]
  cases b <;> rfl
theorem z_app {Δ1 : List Sl} (h : ownL Δ i = some ds) (hs : s Δ = .ret d) (hl : ds.length < lim) (h1 : Δ.set i (.o (.lst (ds ++ [d]))) = Δ1 := by rfl) : tX (xApp i (xE s)) Δ = .ret (.nx Δ1) := by
  subst h1
  show (((ofO (ownL Δ i)).bind fun _ => ((s Δ).bind fun d => .ret (d, Δ)).bind fun r => (ofO (ownL r.2 i)).bind fun ds => if ds.length < lim then Pg.ret (D.non, r.2.set i (.o (.lst (ds ++ [r.1])))) else .fail).bind _) = _
  rw [h, ofO_some, bind_ret, hs, bind_ret, bind_ret]
  show (((ofO (ownL Δ i)).bind _).bind _) = _
  rw [h, ofO_some, bind_ret, if_pos hl]; rfl
theorem z_frz {S : ST} {o : Pg Out} {Δ1 : List Sl} (h : frzS i Δ = Δ1) (hs : S Δ1 = o) : tFrz i S Δ = o := by
  subst h; exact hs
/-- a loop: I tells the state -/
theorem z_for {tg : Tg} {body : ST} {σ : Type} {I : σ → List Sl → Prop} {step : σ → α → σ} {ok : σ → α → Prop} (hb : ∀ z x Δ, I z Δ → ok z x → ∃ Δ', ((ofO (tgS tg (f x) Δ)).bind body = .ret (.nx Δ') ∨ (ofO (tgS tg (f x) Δ)).bind body = .ret (.ct Δ')) ∧ I (step z x) Δ') : ∀ (xs : List α) (z : σ) (Δ : List Sl), I z Δ → (∀ j x, xs[j]? = some x → ok ((xs.take j).foldl step z) x) → ∃ Δ', forP tg body (xs.map f) Δ = .ret (.nx Δ') ∧ I (xs.foldl step z) Δ'
  | [], z, Δ, hI, _ => ⟨Δ, rfl, hI⟩
  | x :: xs, z, Δ, hI, hok => by
    obtain ⟨Δ1, h1, h2⟩ := hb z x Δ hI (hok 0 x rfl)
    obtain ⟨Δ2, h3, h4⟩ := z_for hb xs (step z x) Δ1 h2 fun j y hy => hok (j + 1) y hy
    refine ⟨Δ2, ?_, h4⟩
    have e1 : forP tg body (f x :: xs.map f) Δ = (((ofO (tgS tg (f x) Δ)).bind body).bind fun o => match o with
      | .nx Δ2 => forP tg body (xs.map f) Δ2
      | .ct Δ2 => forP tg body (xs.map f) Δ2
      | .bk Δ2 => .ret (.nx Δ2)
      | .rt d => .ret (.rt d)) := by rw [bind_assoc]; rfl
    rw [List.map_cons, e1]
    rcases h1 with h1 | h1 <;> rw [h1] <;> exact h3
theorem z_forS {tg : Tg} {body : ST} {Δ1 : List Sl} (hi : A Δ = .ret ds) (h : forP tg body ds Δ = .ret (.nx Δ1)) : DL.tFor tg A body Δ = .ret (.nx Δ1) := by
  show (A Δ).bind _ = _
  rw [hi]; exact h
end
end DL
end
section
set_option Elab.async false
set_option linter.all false
set_option maxRecDepth 100000
namespace DL
open PySem L2
section
variable {Δ : List Sl} {s t r : SE} {i j : Nat} {d e c : D} {ds es : List D} {A : SA} {T U : SB} {α β δ : Type} {f : α → D} {g : β → D} {xs ys : List α}
theorem q_lcid {p : α → Bool} {m : Pg (List D)} (h : m = .ret (((xs.filter p).map fun y => y).map f)) : m = .ret ((xs.filter p).map f) := by
  rw [h, List.map_id']
theorem cut_last : cutL xs none (some (-1)) = xs.dropLast := by
  unfold cutL
  have e1 : HT.sIx xs.length 0 none = 0 := rfl
  have e2 : HT.sIx xs.length xs.length (some (-1)) = xs.length - 1 := by
    unfold HT.sIx
    simp
    omega
  rw [e1, e2, List.drop_zero, List.dropLast_eq_take]
  rfl
theorem cut_take {n : Nat} : cutL xs none (some (n : Int)) = xs.take n := by
  unfold cutL
  have e1 : HT.sIx xs.length 0 none = 0 := rfl
  have e2 : HT.sIx xs.length xs.length (some (n : Int)) = min n xs.length := by
    unfold HT.sIx
    simp
    omega
  rw [e1, e2, List.drop_zero, Nat.sub_zero]
  by_cases h : n ≤ xs.length
  · rw [Nat.min_eq_left h]
  · rw [Nat.min_eq_right (by omega), List.take_length, List.take_of_length_le (by omega)]
theorem cut_drop {n : Nat} : cutL xs (some (n : Int)) none = xs.drop n := by
  unfold cutL
  have e1 : HT.sIx xs.length xs.length none = xs.length := rfl
  have e2 : HT.sIx xs.length 0 (some (n : Int)) = min n xs.length := by
    unfold HT.sIx
    simp
    omega
  rw [e1, e2]
  by_cases h : n ≤ xs.length
  · rw [Nat.min_eq_left h, List.take_of_length_le (by rw [List.length_drop]; omega)]
  · rw [Nat.min_eq_right (by omega), Nat.sub_self, List.take_zero, List.drop_of_length_le (by omega)]
theorem o_cutLastL : sl01 (eL f xs) (.int (-1)) = some (eL f xs.dropLast) := by rw [← cut_last]; exact o_slL
theorem o_cutLastT : sl01 (eT f xs) (.int (-1)) = some (eT f xs.dropLast) := by rw [← cut_last]; exact o_slT
theorem o_cutTakeL {n : Nat} : sl01 (eL f xs) (.int (n : Nat)) = some (eL f (xs.take n)) := by rw [← cut_take]; exact o_slL
theorem o_cutTakeT {n : Nat} : sl01 (eT f xs) (.int (n : Nat)) = some (eT f (xs.take n)) := by rw [← cut_take]; exact o_slT
theorem o_cutDropL {n : Nat} : sl10 (eL f xs) (.int (n : Nat)) = some (eL f (xs.drop n)) := by rw [← cut_drop]; exact o_slL
theorem o_cutDropT {n : Nat} : sl10 (eT f xs) (.int (n : Nat)) = some (eT f (xs.drop n)) := by rw [← cut_drop]; exact o_slT
theorem o_maxI {a b : Int} : maxO (.int a) (.int b) = some (.int (max a b)) := by
  show some (D.int (if b > a then b else a)) = _
  congr 2
  split <;> omega
theorem o_minI {a b : Int} : minO (.int a) (.int b) = some (.int (min a b)) := by
  show some (D.int (if b < a then b else a)) = _
  congr 2
  split <;> omega
def srtOk (zs : List Str) : Prop := zs.length < 64
theorem q_sortS' {zs : List Str} (hs : s Δ = .ret (eL D.str zs)) (h : srtOk zs) : aSort s Δ = .ret ((sortT zs).map D.str) := q_sortS hs (by
  unfold srtO
  cases zs with
  | nil => rfl
  | cons z zs =>
    show ((unS ((z :: zs).map D.str)).bind fun xs => if xs.length < 64 then some ((sortT xs).map D.str) else none) = _
    rw [unS_map]
    exact if_pos h)
theorem q_prop {c : Nat} {F : List D → Pg D} (hs : s Δ = .ret d) (hc : isC c d = true) (hF : F [d] = .ret e) : cProp c F s Δ = .ret e := by
  show (s Δ).bind _ = _
  rw [hs, bind_ret, if_pos hc]; exact hF
theorem z_par_old {a b : List Sl → Pg Sl} {x y : Sl} {Δ0 Δ2 Δ1 : List Sl} (h1 : tSet i a Δ = .ret (.nx Δ0)) (h2 : tSet j b Δ = .ret (.nx Δ2)) (hx : ∀ z, a Δ = .ret z → ∀ w, b Δ = .ret w → (Δ.set i z).set j w = Δ1) : tPar i j a b Δ = .ret (.nx Δ1) := by
  show (a Δ).bind _ = _
  have g1 : ∃ z, a Δ = .ret z := by
    have : (a Δ).bind _ = _ := h1
    cases q : a Δ with
    | ret z => exact ⟨z, rfl⟩
    | fail => rw [q] at this; cases this
    | draw l f => rw [q] at this; cases this
  have g2 : ∃ z, b Δ = .ret z := by
    have : (b Δ).bind _ = _ := h2
    cases q : b Δ with
    | ret z => exact ⟨z, rfl⟩
    | fail => rw [q] at this; cases this
    | draw l f => rw [q] at this; cases this
  obtain ⟨z, hz⟩ := g1
  obtain ⟨w, hw⟩ := g2
  rw [hz, bind_ret, hw, bind_ret, hx z hz w hw]
theorem o_v (hs : s Δ = .ret d) : oV s Δ = .ret (.v d) := by
  show (s Δ).bind _ = _
  rw [hs]; rfl
theorem o_l (hs : A Δ = .ret ds) : oL A Δ = .ret (.o (.lst ds)) := by
  show (A Δ).bind _ = _
  rw [hs]; rfl
theorem z_par2 {a b : List Sl → Pg Sl} {x y : Sl} {Δ1 : List Sl} (h1 : a Δ = .ret x) (h2 : b Δ = .ret y) (h : (Δ.set i x).set j y = Δ1 := by rfl) : tPar i j a b Δ = .ret (.nx Δ1) := by
  show (a Δ).bind _ = _
  rw [h1, bind_ret, h2, bind_ret, h]
theorem z_par3 {k : Nat} {a b c : List Sl → Pg Sl} {x y z : Sl} {Δ1 : List Sl} (h1 : a Δ = .ret x) (h2 : b Δ = .ret y) (h3 : c Δ = .ret z) (h : ((Δ.set i x).set j y).set k z = Δ1 := by rfl) : tPar3 i j k a b c Δ = .ret (.nx Δ1) := by
  show (a Δ).bind _ = _
  rw [h1, bind_ret, h2, bind_ret, h3, bind_ret, h]
theorem z_asg {tg : Tg} {Δ1 : List Sl} (hs : s Δ = .ret d) (h : tgS tg d Δ = some Δ1 := by rfl) : DL.tAsg tg (xE s) Δ = .ret (.nx Δ1) := by
  show ((s Δ).bind _).bind _ = _
  rw [hs, bind_ret, bind_ret]
  show (ofO (tgS tg d Δ)).bind _ = _
  rw [h]; rfl
theorem z_appL {x : α} {Δ1 : List Sl} (h : ownL Δ i = some (xs.map f)) (hs : s Δ = .ret (f x)) (hl : xs.length < lim) (h1 : Δ.set i (.o (.lst ((xs ++ [x]).map f))) = Δ1 := by rfl) : tX (xApp i (xE s)) Δ = .ret (.nx Δ1) := by
  refine z_app h hs (by rw [List.length_map]; exact hl) ?_
  rw [← h1, List.map_append]; rfl
theorem z_loop {tg : Tg} {body : ST} {I : List Sl → Prop} (hi : A Δ = .ret ds) (h : ∃ Δ', forP tg body ds Δ = .ret (.nx Δ') ∧ I Δ') : ∃ Δ', DL.tFor tg A body Δ = .ret (.nx Δ') ∧ I Δ' := by
  obtain ⟨Δ', h1, h2⟩ := h
  exact ⟨Δ', z_forS hi h1, h2⟩
theorem z_loop0 {S : ST} {Δ1 : List Sl} (h : ∃ Δ', S Δ = .ret (.nx Δ') ∧ Δ' = Δ1) : S Δ = .ret (.nx Δ1) := by
  obtain ⟨Δ', h1, h2⟩ := h
  rw [h1, h2]
end
/-! equality of typed things -/
structure EqE {α : Type} [DecidableEq α] (f : α → D) (n : Nat) (S : α → Prop) : Prop where
  py : ∀ a, ∃ p, toPy (f a) = some p ∧ p.depth ≤ n ∧ (S a → p.canLay0 = true)
  eqv : ∀ a b p q, toPy (f a) = some p → toPy (f b) = some q → PyData.eqv p q = decide (a = b)
  o : ∀ neg a b, eqO neg (f a) (f b) = eqQ neg (f a) (f b) ∨ eqO neg (f a) (f b) = some (.bl (if neg then !decide (a = b) else decide (a = b)))
section
variable {α β γ : Type} [DecidableEq α] [DecidableEq β] [DecidableEq γ] {f : α → D} {g : β → D} {k : γ → D} {n m l : Nat} {S : α → Prop} {R : β → Prop} {Q : γ → Prop}
theorem EqE.atQ (h : EqE f n S) (hn : n ≤ 64) {neg : Bool} {a b : α} (ha : S a) (hb : S b) : eqQ neg (f a) (f b) = some (.bl (if neg then !decide (a = b) else decide (a = b))) := by
  obtain ⟨p, p1, p2, p3⟩ := h.py a
  obtain ⟨q, q1, q2, q3⟩ := h.py b
  unfold eqQ
  rw [p1, q1]
  show (if _ ∧ _ then _ else _) = _
  rw [if_pos ⟨by unfold SeqAt.shaped; rw [p3 ha, decide_eq_true (by omega)]; rfl, by unfold SeqAt.shaped; rw [q3 hb, decide_eq_true (by omega)]; rfl⟩, h.eqv a b p q p1 q1]
theorem EqE.at' (h : EqE f n S) (hn : n ≤ 64) {neg : Bool} {a b : α} (ha : S a) (hb : S b) : eqO neg (f a) (f b) = some (.bl (if neg then !decide (a = b) else decide (a = b))) := by
  rcases h.o neg a b with e | e
  · rw [e]; exact h.atQ hn ha hb
  · exact e
theorem EqE.at_eq (h : EqE f n S) {a b : α} (hs : S a ∧ S b) (hn : n ≤ 64 := by decide) : eqO false (f a) (f b) = some (.bl (decide (a = b))) := h.at' hn hs.1 hs.2
theorem EqE.at_ne (h : EqE f n S) {a b : α} (hs : S a ∧ S b) (hn : n ≤ 64 := by decide) : eqO true (f a) (f b) = some (.bl (!decide (a = b))) := h.at' hn hs.1 hs.2
theorem EqE.at_eqQ (h : EqE f n S) {a b : α} (hs : S a ∧ S b) (hn : n ≤ 64 := by decide) : eqQ false (f a) (f b) = some (.bl (decide (a = b))) := h.atQ hn hs.1 hs.2
theorem EqE.at_neQ (h : EqE f n S) {a b : α} (hs : S a ∧ S b) (hn : n ≤ 64 := by decide) : eqQ true (f a) (f b) = some (.bl (!decide (a = b))) := h.atQ hn hs.1 hs.2
theorem beq_dec {a b : α} : (a == b) = decide (a = b) := by by_cases h : a = b <;> simp [h]
theorem eqeI : EqE D.int 0 (fun _ => True) where
  py := fun a => ⟨.int a, rfl, Nat.le_refl _, fun _ => rfl⟩
  eqv := fun a b p q hp hq => by cases hp; cases hq; unfold PyData.eqv; exact beq_dec
  o := fun neg a b => .inr rfl
theorem eqeB : EqE D.bl 0 (fun _ => True) where
  py := fun a => ⟨.bool a, rfl, Nat.le_refl _, fun _ => rfl⟩
  eqv := fun a b p q hp hq => by cases hp; cases hq; unfold PyData.eqv; exact beq_dec
  o := fun neg a b => .inr rfl
theorem eqeS : EqE D.str 0 (fun z => PySem.PyData.strOk z = true) where
  py := fun a => ⟨.str a, rfl, Nat.le_refl _, fun h => by unfold PyData.canLay0; exact h⟩
  eqv := fun a b p q hp hq => by
    cases hp; cases hq; unfold PyData.eqv
    by_cases h : a = b <;> simp [h]
  o := fun neg a b => .inr rfl
theorem eqvL (h : EqE f n S) : ∀ (xs ys : List α) (ps qs : List PyData), toPyL (xs.map f) = some ps → toPyL (ys.map f) = some qs → PyData.eqvAll ps qs = decide (xs = ys)
  | [], [], ps, qs, hp, hq => by cases hp; cases hq; rfl
  | [], y :: ys, ps, qs, hp, hq => by
    cases hp
    unfold List.map toPyL at hq
    obtain ⟨q, h1, h2⟩ := Option.bind_eq_some_iff.mp hq
    obtain ⟨r, h3, h4⟩ := Option.map_eq_some_iff.mp h2
    subst h4; unfold PyData.eqvAll; rfl
  | x :: xs, [], ps, qs, hp, hq => by
    cases hq
    unfold List.map toPyL at hp
    obtain ⟨q, h1, h2⟩ := Option.bind_eq_some_iff.mp hp
    obtain ⟨r, h3, h4⟩ := Option.map_eq_some_iff.mp h2
    subst h4; unfold PyData.eqvAll; rfl
  | x :: xs, y :: ys, ps, qs, hp, hq => by
    unfold List.map toPyL at hp hq
    obtain ⟨p, h1, h2⟩ := Option.bind_eq_some_iff.mp hp
    obtain ⟨ps', h3, h4⟩ := Option.map_eq_some_iff.mp h2
    obtain ⟨q, h5, h6⟩ := Option.bind_eq_some_iff.mp hq
    obtain ⟨qs', h7, h8⟩ := Option.map_eq_some_iff.mp h6
    subst h4 h8
    unfold PyData.eqvAll
    rw [h.eqv x y p q h1 h5, eqvL h xs ys ps' qs' h3 h7]
    by_cases e1 : x = y <;> by_cases e2 : xs = ys <;> simp [e1, e2]
theorem pyL (h : EqE f n S) : ∀ xs : List α, ∃ ps, toPyL (xs.map f) = some ps ∧ PyData.depthAll ps ≤ n ∧ ((∀ x ∈ xs, S x) → PyData.canLayAll0 ps = true)
  | [] => ⟨[], rfl, Nat.zero_le _, fun _ => rfl⟩
  | x :: xs => by
    obtain ⟨p, h1, h2, h3⟩ := h.py x
    obtain ⟨ps, h4, h5, h6⟩ := pyL h xs
    refine ⟨p :: ps, ?_, ?_, fun hs => ?_⟩
    · unfold List.map toPyL
      rw [h1]
      show (toPyL (xs.map f)).map _ = _
      rw [h4]; rfl
    · unfold PyData.depthAll
      omega
    · unfold PyData.canLayAll0
      rw [h3 (hs x (List.mem_cons_self ..)), h6 fun y hy => hs y (List.mem_cons_of_mem _ hy)]
      rfl
theorem eqeL (h : EqE f n S) : EqE (eL f) (n + 1) (fun xs => ∀ x ∈ xs, S x) where
  py := fun xs => by
    obtain ⟨ps, h1, h2, h3⟩ := pyL h xs
    refine ⟨.list ps, ?_, ?_, fun hs => ?_⟩
    · unfold eL toPy; rw [h1]; rfl
    · unfold PyData.depth; omega
    · unfold PyData.canLay0; exact h3 hs
  eqv := fun a b p q hp hq => by
    unfold eL toPy at hp hq
    obtain ⟨ps, h1, rfl⟩ := Option.map_eq_some_iff.mp hp
    obtain ⟨qs, h2, rfl⟩ := Option.map_eq_some_iff.mp hq
    unfold PyData.eqv
    exact eqvL h a b ps qs h1 h2
  o := fun neg a b => .inl rfl
theorem eqeT (h : EqE f n S) : EqE (eT f) (n + 1) (fun xs => ∀ x ∈ xs, S x) where
  py := fun xs => by
    obtain ⟨ps, h1, h2, h3⟩ := pyL h xs
    refine ⟨.tuple ps, ?_, ?_, fun hs => ?_⟩
    · unfold eT toPy; rw [h1]; rfl
    · unfold PyData.depth; omega
    · unfold PyData.canLay0; exact h3 hs
  eqv := fun a b p q hp hq => by
    unfold eT toPy at hp hq
    obtain ⟨ps, h1, rfl⟩ := Option.map_eq_some_iff.mp hp
    obtain ⟨qs, h2, rfl⟩ := Option.map_eq_some_iff.mp hq
    unfold PyData.eqv
    exact eqvL h a b ps qs h1 h2
  o := fun neg a b => .inl rfl
theorem py2 {a b : D} {p q : PyData} (h1 : toPy a = some p) (h2 : toPy b = some q) : toPy (.tup [a, b]) = some (.tuple [p, q]) := by
  unfold toPy toPyL
  rw [h1]
  show ((toPyL [b]).map _).map _ = _
  unfold toPyL
  rw [h2]
  rfl
theorem py3 {a b c : D} {p q r : PyData} (h1 : toPy a = some p) (h2 : toPy b = some q) (h3 : toPy c = some r) : toPy (.tup [a, b, c]) = some (.tuple [p, q, r]) := by
  unfold toPy toPyL
  rw [h1]
  show ((toPyL [b, c]).map _).map _ = _
  unfold toPyL
  rw [h2]
  show (((toPyL [c]).map _).map _).map _ = _
  unfold toPyL
  rw [h3]
  rfl
theorem eqe2 (h : EqE f n S) (h' : EqE g m R) : EqE (e2 f g) (max n m + 1) (fun x => S x.1 ∧ R x.2) where
  py := fun x => by
    obtain ⟨p, p1, p2, p3⟩ := h.py x.1
    obtain ⟨q, q1, q2, q3⟩ := h'.py x.2
    refine ⟨.tuple [p, q], py2 p1 q1, ?_, fun hs => ?_⟩
    · simp only [PyData.depth, PyData.depthAll]; omega
    · simp only [PyData.canLay0, PyData.canLayAll0, p3 hs.1, q3 hs.2, Bool.and_self]
  eqv := fun a b p q hp hq => by
    obtain ⟨p, p1, p2, p3⟩ := h.py a.1
    obtain ⟨p', p1', p2', p3'⟩ := h'.py a.2
    obtain ⟨q, q1, q2, q3⟩ := h.py b.1
    obtain ⟨q', q1', q2', q3'⟩ := h'.py b.2
    have e1 := (py2 p1 p1').symm.trans hp
    have e2 := (py2 q1 q1').symm.trans hq
    cases e1; cases e2
    simp only [PyData.eqv, PyData.eqvAll, h.eqv _ _ _ _ p1 q1, h'.eqv _ _ _ _ p1' q1', Bool.and_true]
    cases a; cases b
    simp only [Prod.mk.injEq]
    exact (Bool.decide_and _ _).symm
  o := fun neg a b => .inl rfl
theorem eqe3 (h : EqE f n S) (h' : EqE g m R) (h'' : EqE k l Q) : EqE (e3 f g k) (max n (max m l) + 1) (fun x => S x.1 ∧ R x.2.1 ∧ Q x.2.2) where
  py := fun x => by
    obtain ⟨p, p1, p2, p3⟩ := h.py x.1
    obtain ⟨q, q1, q2, q3⟩ := h'.py x.2.1
    obtain ⟨r, r1, r2, r3⟩ := h''.py x.2.2
    refine ⟨.tuple [p, q, r], py3 p1 q1 r1, ?_, fun hs => ?_⟩
    · simp only [PyData.depth, PyData.depthAll]; omega
    · simp only [PyData.canLay0, PyData.canLayAll0, p3 hs.1, q3 hs.2.1, r3 hs.2.2, Bool.and_self]
  eqv := fun a b p q hp hq => by
    obtain ⟨p, p1, p2, p3⟩ := h.py a.1
    obtain ⟨p', p1', p2', p3'⟩ := h'.py a.2.1
    obtain ⟨p'', p1'', p2'', p3''⟩ := h''.py a.2.2
    obtain ⟨q, q1, q2, q3⟩ := h.py b.1
    obtain ⟨q', q1', q2', q3'⟩ := h'.py b.2.1
    obtain ⟨q'', q1'', q2'', q3''⟩ := h''.py b.2.2
    have e1 := (py3 p1 p1' p1'').symm.trans hp
    have e2 := (py3 q1 q1' q1'').symm.trans hq
    cases e1; cases e2
    simp only [PyData.eqv, PyData.eqvAll, h.eqv _ _ _ _ p1 q1, h'.eqv _ _ _ _ p1' q1', h''.eqv _ _ _ _ p1'' q1'', Bool.and_true]
    obtain ⟨a1, a2, a3⟩ := a
    obtain ⟨b1, b2, b3⟩ := b
    simp only [Prod.mk.injEq, Bool.decide_and]
  o := fun neg a b => .inl rfl
theorem eqeO (h : EqE f n S) (hp : ∀ a p, toPy (f a) = some p → p ≠ .none) (ho : ∀ neg a, (eqO neg .non (f a) = eqQ neg .non (f a) ∨ eqO neg .non (f a) = some (.bl neg)) ∧ (eqO neg (f a) .non = eqQ neg (f a) .non ∨ eqO neg (f a) .non = some (.bl neg))) : EqE (eO f) n (fun x => ∀ a, x = some a → S a) where
  py := fun x => by
    cases x with
    | none => exact ⟨.none, rfl, Nat.zero_le _, fun _ => rfl⟩
    | some a =>
      obtain ⟨p, h1, h2, h3⟩ := h.py a
      exact ⟨p, h1, h2, fun hs => h3 (hs a rfl)⟩
  eqv := fun a b p q h1 h2 => by
    have fin : ∀ p : PyData, p ≠ .none → PyData.eqv .none p = false ∧ PyData.eqv p .none = false := fun p hp => by
      cases p with
      | none => exact absurd rfl hp
      | _ => unfold PyData.eqv; exact ⟨rfl, rfl⟩
    cases a with
    | none =>
      cases h1
      cases b with
      | none => cases h2; unfold PyData.eqv; simp
      | some b => rw [(fin q (hp b q h2)).1]; simp
    | some a =>
      cases b with
      | none => cases h2; rw [(fin p (hp a p h1)).2]; simp
      | some b => rw [h.eqv a b p q h1 h2]; simp
  o := fun neg a b => by
    cases a with
    | none =>
      cases b with
      | none => right; cases neg <;> rfl
      | some b =>
        rcases (ho neg b).1 with e | e
        · exact .inl e
        · right; refine e.trans ?_; cases neg <;> rfl
    | some a =>
      cases b with
      | none =>
        rcases (ho neg a).2 with e | e
        · exact .inl e
        · right; refine e.trans ?_; cases neg <;> rfl
      | some b =>
        rcases h.o neg a b with e | e
        · exact .inl e
        · right; refine e.trans ?_; simp
theorem eqeOI : EqE (eO D.int) 0 (fun x => ∀ a, x = some a → True) := eqeO eqeI (fun a p h => by cases h; intro z; cases z) (fun neg a => ⟨.inr rfl, .inr rfl⟩)
theorem eqeOS : EqE (eO D.str) 0 (fun x => ∀ a, x = some a → PySem.PyData.strOk a = true) := eqeO eqeS (fun a p h => by cases h; intro z; cases z) (fun neg a => ⟨.inr rfl, .inr rfl⟩)
end
end DL
namespace DL
theorem z_setO {Δ : List Sl} {i : Nat} {a : List Sl → Pg Sl} {x : Sl} {Δ1 : List Sl} (h1 : a Δ = .ret x) (h : Δ.set i x = Δ1 := by rfl) : tSet i a Δ = .ret (.nx Δ1) := by
  show (a Δ).bind _ = _
  rw [h1, bind_ret, h]
end DL
namespace DL
theorem z_seqJ {Δ : List Sl} {S1 S2 : ST} {I : List Sl → Prop} {o : Pg Out} (h : ∃ Δ', S1 Δ = .ret (.nx Δ') ∧ I Δ') (k : ∀ Δ', I Δ' → S2 Δ' = o) : DL.tSeq S1 S2 Δ = o := by
  obtain ⟨Δ', h1, h2⟩ := h
  exact z_seq h1 (k Δ' h2)
end DL
end
section
set_option Elab.async false
set_option linter.all false
set_option maxRecDepth 100000
/-! typed readings of programs that draw -/
namespace DL
open PySem L2
structure Ref {α : Type} (p q : Pg α) : Prop where
  go : ∀ n k, wpB true n p k → wpB true n q k
open Classical in
noncomputable def asr {α : Type} (c : Prop) (p : Pg α) : Pg α := if c then p else .fail
/-- what a part of a program gives: it goes on (σ), or it returns (τ) -/
def mapP {α β : Type} (e : α → Pg β) : List α → Pg (List β)
  | [] => .ret []
  | x :: xs => (e x).bind fun r => (mapP e xs).bind fun rs => .ret (r :: rs)
def lcM {α β : Type} (t : α → Pg Bool) (e : α → Pg β) : List α → Pg (List β)
  | [] => .ret []
  | x :: xs => (t x).bind fun c => if c = true then (e x).bind fun r => (lcM t e xs).bind fun rs => .ret (r :: rs) else lcM t e xs
def loopM {α σ τ : Type} (step : σ → α → Pg (σ ⊕ τ)) : List α → σ → Pg (σ ⊕ τ)
  | [], z => .ret (.inl z)
  | x :: xs, z => (step z x).bind fun r => match r with
    | .inl z => loopM step xs z
    | .inr t => .ret (.inr t)
section
variable {α β σ τ ω ρ : Type} {Δ : List Sl} {s t r : SE} {i j : Nat} {d e : D} {ds es : List D} {A : SA} {T U : SB} {f : α → D} {g : β → D} {xs ys : List α} {p q : Pg ρ} {X : Pg τ} {R : τ → Pg ρ}
theorem Ref.refl : Ref p p := ⟨fun _ _ h => h⟩
theorem Ref.trans {p q r : Pg ρ} (h : Ref p q) (h' : Ref q r) : Ref p r := ⟨fun n k w => h'.go n k (h.go n k w)⟩
theorem Ref.bind {p q : Pg α} {f g : α → Pg β} (h : Ref p q) (hf : ∀ a, Ref (f a) (g a)) : Ref (p.bind f) (q.bind g) := ⟨fun n k w => wpB_bind.2 ((h.go n _ (wpB_bind.1 w)).mono fun a m w => (hf a).go m k w)⟩
theorem bind_pure : ∀ p : Pg α, p.bind .ret = p
  | .ret a => rfl
  | .fail => rfl
  | .draw l f => by
    show Pg.draw l _ = _
    congr 1
    funext d
    exact bind_pure (f d)
theorem m_end {v : τ} {q : Pg ρ} (h : Ref (R v) q) : Ref ((Pg.ret v).bind R) q := h
theorem m_asr {c : Prop} (h : c → Ref (X.bind R) q) : Ref ((asr c X).bind R) q := ⟨fun n k w => by
  unfold asr at w
  split at w
  · rename_i hc; exact (h hc).go n k w
  · exact w.elim⟩
theorem m_pure {y : Pg ρ} {s : List Sl → Pg ω} {d : ω} {G : ω → Pg ρ} (h : s Δ = .ret d) (hg : Ref y (G d)) : Ref y ((s Δ).bind G) := by
  rw [h]; exact hg
theorem m_mon {m : Pg α} {s : List Sl → Pg ω} {f : α → ω} {K : α → Pg τ} {G : ω → Pg ρ} (h : Ref (m.bind fun a => .ret (f a)) (s Δ)) (hk : ∀ b, Ref ((K b).bind R) (G (f b))) : Ref ((m.bind K).bind R) ((s Δ).bind G) := by
  have e : (m.bind K).bind R = m.bind fun a => (K a).bind R := bind_assoc _ _ _
  rw [e]
  refine Ref.trans ?_ (Ref.bind h (fun _ => Ref.refl))
  rw [bind_assoc]
  exact Ref.bind Ref.refl hk
theorem m_app {m : Pg α} {p : Pg ω} {f : α → ω} {K : α → Pg τ} {G : ω → Pg ρ} (h : Ref (m.bind fun a => .ret (f a)) p) (hk : ∀ b, Ref ((K b).bind R) (G (f b))) : Ref ((m.bind K).bind R) (p.bind G) := m_mon (Δ := []) (s := fun _ => p) h hk
theorem m_sub {y : Pg ρ} {C : (List Sl → Pg ω) → List Sl → Pg τ} {s : List Sl → Pg ω} {G : τ → Pg ρ} (hC : C s Δ = (s Δ).bind fun d => C (fun _ => .ret d) Δ) (h : Ref y ((s Δ).bind fun d => (C (fun _ => .ret d) Δ).bind G)) : Ref y ((C s Δ).bind G) := by
  rw [hC, bind_assoc]; exact h
theorem m_aN {y : Pg ρ} {G : List D → Pg ρ} (h : Ref y (G [])) : Ref y ((aN Δ).bind G) := h
theorem m_aC {y : Pg ρ} {G : List D → Pg ρ} (h : Ref y ((s Δ).bind fun d => (A Δ).bind fun ds => G (d :: ds))) : Ref y ((aC s A Δ).bind G) := by
  have e : (aC s A Δ).bind G = (s Δ).bind fun d => (A Δ).bind fun ds => G (d :: ds) := by
    show ((s Δ).bind fun d => (A Δ).bind fun ds => .ret (d :: ds)).bind G = _
    rw [bind_assoc]
    congr 1
    funext d
    rw [bind_assoc]
    rfl
  rw [e]; exact h
theorem m_reify {m : Pg τ} {p : Pg ρ} (h : Ref (m.bind R) (p.bind .ret)) : Ref (m.bind R) p := by rw [bind_pure] at h; exact h
theorem m_ite {c : Bool} {X1 X2 : Pg τ} {q1 q2 : Pg ρ} (h1 : c = true → Ref (X1.bind R) q1) (h2 : c = false → Ref (X2.bind R) q2) : Ref ((if c = true then X1 else X2).bind R) (if c = true then q1 else q2) := by
  cases c with
  | true => exact h1 rfl
  | false => exact h2 rfl
theorem m_andK {c : Bool} {m : Pg Bool} {b : Pg Bool} {K : Bool → Pg τ} {G : Bool → Pg ρ} (h : c = true → Ref (m.bind fun z => .ret z) b) (hk : ∀ z, Ref ((K z).bind R) (G z)) : Ref (((if c = true then m else .ret false).bind K).bind R) ((if c = true then b else .ret false).bind G) := by
  cases c with
  | true => exact m_app (f := fun z => z) (h rfl) hk
  | false => exact hk false
theorem m_orK {c : Bool} {m : Pg Bool} {b : Pg Bool} {K : Bool → Pg τ} {G : Bool → Pg ρ} (h : c = false → Ref (m.bind fun z => .ret z) b) (hk : ∀ z, Ref ((K z).bind R) (G z)) : Ref (((if c = true then .ret true else m).bind K).bind R) ((if c = true then .ret true else b).bind G) := by
  cases c with
  | true => exact hk true
  | false => exact m_app (f := fun z => z) (h rfl) hk
theorem m_ifK {c : Bool} {m1 m2 : Pg α} {a b : Pg ω} {f : α → ω} {K : α → Pg τ} {G : ω → Pg ρ} (h1 : c = true → Ref (m1.bind fun z => .ret (f z)) a) (h2 : c = false → Ref (m2.bind fun z => .ret (f z)) b) (hk : ∀ z, Ref ((K z).bind R) (G (f z))) : Ref (((if c = true then m1 else m2).bind K).bind R) ((if c = true then a else b).bind G) := by
  cases c with
  | true => exact m_app (h1 rfl) hk
  | false => exact m_app (h2 rfl) hk
/-! comprehensions -/
theorem mapP_ref {tg : Tg} {el : SE} {e : α → Pg β} : ∀ (xs : List α), (∀ x ∈ xs, ∃ Δ1, tgS tg (f x) Δ = some Δ1 ∧ Ref ((e x).bind fun a => .ret (g a)) (el Δ1)) → Ref ((mapP e xs).bind fun a => .ret (a.map g)) (lcP tg DL.tYes el Δ (xs.map f))
  | [], _ => Ref.refl
  | x :: xs, h => by
    obtain ⟨Δ1, h1, h2⟩ := h x (List.mem_cons_self ..)
    have ih := mapP_ref xs fun y hy => h y (List.mem_cons_of_mem _ hy)
    show Ref _ ((ofO (tgS tg (f x) Δ)).bind fun Δ1 => (Pg.ret true).bind fun c => if c = true then (el Δ1).bind fun r => (lcP tg DL.tYes el Δ (xs.map f)).bind fun rs => .ret (r :: rs) else lcP tg DL.tYes el Δ (xs.map f))
    rw [h1]
    show Ref (((e x).bind fun r => (mapP e xs).bind fun rs => .ret (r :: rs)).bind _) ((el Δ1).bind fun r => (lcP tg DL.tYes el Δ (xs.map f)).bind fun rs => .ret (r :: rs))
    refine m_app h2 fun b => ?_
    refine m_app ih fun bs => ?_
    exact Ref.refl
theorem lcM_ref {tg : Tg} {el : SE} {tb : SB} {t : α → Pg Bool} {e : α → Pg β} : ∀ (xs : List α), (∀ x ∈ xs, ∃ Δ1, tgS tg (f x) Δ = some Δ1 ∧ Ref ((t x).bind fun a => .ret a) (tb Δ1) ∧ Ref ((e x).bind fun a => .ret (g a)) (el Δ1)) → Ref ((lcM t e xs).bind fun a => .ret (a.map g)) (lcP tg tb el Δ (xs.map f))
  | [], _ => Ref.refl
  | x :: xs, h => by
    obtain ⟨Δ1, h1, h2, h3⟩ := h x (List.mem_cons_self ..)
    have ih := lcM_ref xs fun y hy => h y (List.mem_cons_of_mem _ hy)
    show Ref _ ((ofO (tgS tg (f x) Δ)).bind fun Δ1 => (tb Δ1).bind fun c => if c = true then (el Δ1).bind fun r => (lcP tg tb el Δ (xs.map f)).bind fun rs => .ret (r :: rs) else lcP tg tb el Δ (xs.map f))
    rw [h1]
    show Ref (((t x).bind fun c => if c = true then (e x).bind fun r => (lcM t e xs).bind fun rs => .ret (r :: rs) else lcM t e xs).bind _) ((tb Δ1).bind fun c => if c = true then (el Δ1).bind fun r => (lcP tg tb el Δ (xs.map f)).bind fun rs => .ret (r :: rs) else lcP tg tb el Δ (xs.map f))
    refine m_app (f := fun z => z) h2 fun c => ?_
    refine m_ite (fun _ => ?_) (fun _ => ih)
    refine m_app h3 fun b => ?_
    refine m_app ih fun bs => ?_
    exact Ref.refl
theorem m_lc {y : Pg ρ} {tg : Tg} {vs : List Nat} {tb : SB} {G : List D → Pg ρ} (h : Ref y ((A Δ).bind fun ds => (if ds.length ≤ lim then lcP tg tb s (wipeS Δ vs) ds else .fail).bind G)) : Ref y ((aLc tg vs A tb s Δ).bind G) := by
  have e : (aLc tg vs A tb s Δ).bind G = (A Δ).bind fun ds => (if ds.length ≤ lim then lcP tg tb s (wipeS Δ vs) ds else .fail).bind G := bind_assoc _ _ _
  rw [e]; exact h
theorem m_mapP {tg : Tg} {vs : List Nat} {e : α → Pg β} {K : List β → Pg τ} {G : List D → Pg ρ} (hl : xs.length ≤ lim) (h : ∀ x ∈ xs, ∃ Δ1, tgS tg (f x) (wipeS Δ vs) = some Δ1 ∧ Ref ((e x).bind fun a => .ret (g a)) (s Δ1)) (hk : ∀ b, Ref ((K b).bind R) (G (b.map g))) : Ref (((mapP e xs).bind K).bind R) ((if (xs.map f).length ≤ lim then lcP tg DL.tYes s (wipeS Δ vs) (xs.map f) else .fail).bind G) := by
  rw [if_pos (by rw [List.length_map]; exact hl)]
  exact m_app (mapP_ref xs h) hk
theorem m_lcM {tg : Tg} {vs : List Nat} {tb : SB} {t : α → Pg Bool} {e : α → Pg β} {K : List β → Pg τ} {G : List D → Pg ρ} (hl : xs.length ≤ lim) (h : ∀ x ∈ xs, ∃ Δ1, tgS tg (f x) (wipeS Δ vs) = some Δ1 ∧ Ref ((t x).bind fun a => .ret a) (tb Δ1) ∧ Ref ((e x).bind fun a => .ret (g a)) (s Δ1)) (hk : ∀ b, Ref ((K b).bind R) (G (b.map g))) : Ref (((lcM t e xs).bind K).bind R) ((if (xs.map f).length ≤ lim then lcP tg tb s (wipeS Δ vs) (xs.map f) else .fail).bind G) := by
  rw [if_pos (by rw [List.length_map]; exact hl)]
  exact m_app (lcM_ref xs h) hk
/-! draws -/
noncomputable def drawI (_ : Unit) (low : Int) : Pg Int := asr (lowOk low = true) (.draw low .ret)
theorem r_take (u : Unit) (low : Int) : Ref ((drawI u low).bind fun a => .ret (eI a)) (takeP [eU u, eI low]) := m_asr fun h => by
  show Ref ((Pg.draw low Pg.ret).bind fun a => Pg.ret (D.int a)) (if lowOk low = true then Pg.draw low (fun d => Pg.ret (D.int d)) else Pg.fail)
  rw [if_pos h]
  exact Ref.refl
/-! statements -/
theorem m_ret {y : Pg Out} (h : Ref y ((s Δ).bind fun d => .ret (.rt d))) : Ref y (DL.tRet s Δ) := h
theorem m_run {fl : List Bool} {np N : Nat} {S : ST} {X : Pg τ} {F : τ → D} {ds : List D} (Δ : List Sl) (hn : ds.length = np) (hΔ : startS fl N ds = Δ) (h : Ref (X.bind fun a => .ret (.rt (F a))) (S Δ)) : Ref (X.bind fun a => .ret (F a)) (runF fl np N S ds) := by
  rw [runF_at Δ hn hΔ]
  have e : (X.bind fun a => Pg.ret (F a)) = (X.bind fun a => Pg.ret (Out.rt (F a))).bind outP := by rw [bind_assoc]; rfl
  rw [e]
  exact Ref.bind h fun _ => Ref.refl
/-- what stands behind in a row -/
def goOn0 (S : ST) : Out → Pg Out
  | .nx Δ => S Δ
  | o => .ret o
@[irreducible] def goOn (S : ST) : Out → Pg Out := goOn0 S
theorem goOn_eq {S : ST} : goOn S = goOn0 S := by unfold goOn; rfl
theorem m_seq {y : Pg Out} {S1 S2 : ST} (h : Ref y ((S1 Δ).bind (goOn S2))) : Ref y (DL.tSeq S1 S2 Δ) := by
  have e : DL.tSeq S1 S2 Δ = (S1 Δ).bind (goOn S2) := by
    rw [goOn_eq]
    show (S1 Δ).bind _ = _
    congr 1
  rw [e]; exact h
theorem m_seqG {y : Pg ρ} {S1 S2 : ST} {G : Out → Pg ρ} (h : Ref y ((S1 Δ).bind fun o => (goOn S2 o).bind G)) : Ref y ((DL.tSeq S1 S2 Δ).bind G) := by
  have e : DL.tSeq S1 S2 Δ = (S1 Δ).bind (goOn S2) := by
    rw [goOn_eq]
    show (S1 Δ).bind _ = _
    congr 1
  rw [e, bind_assoc]; exact h
theorem m_set {y : Pg ρ} {G : Out → Pg ρ} (h : Ref y ((s Δ).bind fun d => G (.nx (Δ.set i (.v d))))) : Ref y ((tSet i (oV s) Δ).bind G) := by
  have e : (tSet i (oV s) Δ).bind G = (s Δ).bind fun d => G (.nx (Δ.set i (.v d))) := by
    show (((s Δ).bind fun d => .ret (.v d)).bind fun sl => .ret (.nx (Δ.set i sl))).bind G = _
    rw [bind_assoc, bind_assoc]; rfl
  rw [e]; exact h
theorem m_setL {y : Pg ρ} {G : Out → Pg ρ} (h : Ref y ((A Δ).bind fun ds => G (.nx (Δ.set i (.o (.lst ds)))))) : Ref y ((tSet i (oL A) Δ).bind G) := by
  have e : (tSet i (oL A) Δ).bind G = (A Δ).bind fun ds => G (.nx (Δ.set i (.o (.lst ds)))) := by
    show (((A Δ).bind fun d => .ret (.o (.lst d))).bind fun sl => .ret (.nx (Δ.set i sl))).bind G = _
    rw [bind_assoc, bind_assoc]; rfl
  rw [e]; exact h
theorem m_nxP {y : Pg ρ} {S : ST} {Δ1 : List Sl} {G : Out → Pg ρ} (h : S Δ = .ret (.nx Δ1)) (hg : Ref y (G (.nx Δ1))) : Ref y ((S Δ).bind G) := by
  rw [h]; exact hg
theorem m_xapp {y : Pg ρ} {G : Out → Pg ρ} (ho : ownL Δ i = some ds) (hl : ds.length < lim) (h : Ref y ((s Δ).bind fun d => G (.nx (Δ.set i (.o (.lst (ds ++ [d]))))))) : Ref y ((tX (xApp i (xE s)) Δ).bind G) := by
  have e : (tX (xApp i (xE s)) Δ).bind G = (s Δ).bind fun d => G (.nx (Δ.set i (.o (.lst (ds ++ [d]))))) := by
    show (((ofO (ownL Δ i)).bind fun _ => ((s Δ).bind fun d => Pg.ret (d, Δ)).bind fun r => (ofO (ownL r.2 i)).bind fun ds => if ds.length < lim then Pg.ret (D.non, r.2.set i (.o (.lst (ds ++ [r.1])))) else .fail).bind fun r => .ret (.nx r.2)).bind G = _
    rw [ho, ofO_some, bind_ret, bind_assoc, bind_assoc, bind_assoc]
    congr 1
    funext d
    rw [bind_ret]
    show (((ofO (ownL Δ i)).bind fun ds => if ds.length < lim then Pg.ret (D.non, Δ.set i (Sl.o (MO.lst (ds ++ [d])))) else Pg.fail).bind _) = _
    rw [ho, ofO_some, bind_ret, if_pos hl]
    rfl
  rw [e]; exact h
theorem m_if {y : Pg ρ} {S1 S2 : ST} {G : Out → Pg ρ} (h : Ref y ((T Δ).bind fun c => if c = true then (S1 Δ).bind G else (S2 Δ).bind G)) : Ref y ((DL.tIf T S1 S2 Δ).bind G) := by
  have e : (DL.tIf T S1 S2 Δ).bind G = (T Δ).bind fun c => if c = true then (S1 Δ).bind G else (S2 Δ).bind G := by
    show ((T Δ).bind fun c => if c = true then S1 Δ else S2 Δ).bind G = _
    rw [bind_assoc]
    congr 1
    funext c
    cases c <;> rfl
  rw [e]; exact h
/-- a join behind both ways -/
theorem m_join {m : Pg α} {K : α → Pg τ} (h : Ref (m.bind fun a => (K a).bind R) q) : Ref ((m.bind K).bind R) q := by
  rw [bind_assoc]; exact h
theorem m_retG {y : Pg ρ} {G : Out → Pg ρ} (h : Ref y ((s Δ).bind fun d => G (.rt d))) : Ref y ((DL.tRet s Δ).bind G) := by
  have e : (DL.tRet s Δ).bind G = (s Δ).bind fun d => G (.rt d) := bind_assoc _ _ _
  rw [e]; exact h
theorem m_frz {y : Pg ρ} {S : ST} {Δ1 : List Sl} {G : Out → Pg ρ} (h : frzS i Δ = Δ1) (hs : Ref y ((S Δ1).bind G)) : Ref y ((tFrz i S Δ).bind G) := by
  subst h; exact hs
/-! loops -/
/-- m tells how p ends: on with I, or back with what f makes of it -/
def RefJ (I : σ → List Sl → Prop) (f : α → D) (m : Pg (σ ⊕ α)) (p : Pg Out) : Prop := ∀ (ρ : Type) (R : σ ⊕ α → Pg ρ) (G : Out → Pg ρ), (∀ z Δ, I z Δ → Ref (R (.inl z)) (G (.nx Δ)) ) → (∀ z Δ, I z Δ → Ref (R (.inl z)) (G (.ct Δ)) ) → (∀ a, Ref (R (.inr a)) (G (.rt (f a)))) → Ref (m.bind R) (p.bind G)
theorem loop_ref {γ : Type} {tg : Tg} {body : ST} {e : γ → D} {I : σ → List Sl → Prop} {f : α → D} {step : σ → γ → Pg (σ ⊕ α)} (hb : ∀ z x Δ, I z Δ → RefJ I f (step z x) ((ofO (tgS tg (e x) Δ)).bind body)) : ∀ (xs : List γ) (z : σ) (Δ : List Sl), I z Δ → ∀ (ρ : Type) (R : σ ⊕ α → Pg ρ) (G : Out → Pg ρ), (∀ z Δ, I z Δ → Ref (R (.inl z)) (G (.nx Δ))) → (∀ a, Ref (R (.inr a)) (G (.rt (f a)))) → Ref ((loopM step xs z).bind R) ((forP tg body (xs.map e) Δ).bind G)
  | [], z, Δ, hI, ρ, R, G, h1, h2 => h1 z Δ hI
  | x :: xs, z, Δ, hI, ρ, R, G, h1, h2 => by
    have e1 : forP tg body (e x :: xs.map e) Δ = (((ofO (tgS tg (e x) Δ)).bind body).bind fun o => match o with
      | .nx Δ2 => forP tg body (xs.map e) Δ2
      | .ct Δ2 => forP tg body (xs.map e) Δ2
      | .bk Δ2 => .ret (.nx Δ2)
      | .rt d => .ret (.rt d)) := by rw [bind_assoc]; rfl
    rw [List.map_cons, e1, bind_assoc]
    unfold loopM
    rw [bind_assoc]
    refine hb z x Δ hI ρ _ _ (fun z' Δ' hI' => ?_) (fun z' Δ' hI' => ?_) (fun a => ?_)
    · exact loop_ref hb xs z' Δ' hI' ρ R G h1 h2
    · exact loop_ref hb xs z' Δ' hI' ρ R G h1 h2
    · exact h2 a
theorem m_for {y : Pg ρ} {tg : Tg} {body : ST} {G : Out → Pg ρ} (h : Ref y ((A Δ).bind fun ds => (forP tg body ds Δ).bind G)) : Ref y ((DL.tFor tg A body Δ).bind G) := by
  have e : (DL.tFor tg A body Δ).bind G = (A Δ).bind fun ds => (forP tg body ds Δ).bind G := bind_assoc _ _ _
  rw [e]; exact h
theorem m_loop {γ : Type} {tg : Tg} {body : ST} {e : γ → D} {I : σ → List Sl → Prop} {f : α → D} {step : σ → γ → Pg (σ ⊕ α)} {K : σ ⊕ α → Pg τ} {G : Out → Pg ρ} {xs : List γ} {z : σ} (hb : ∀ z x Δ, I z Δ → RefJ I f (step z x) ((ofO (tgS tg (e x) Δ)).bind body)) (hI : I z Δ) (h1 : ∀ z Δ, I z Δ → Ref ((K (.inl z)).bind R) (G (.nx Δ))) (h2 : ∀ a, Ref ((K (.inr a)).bind R) (G (.rt (f a)))) : Ref (((loopM step xs z).bind K).bind R) ((forP tg body (xs.map e) Δ).bind G) := by
  rw [bind_assoc]
  exact loop_ref hb xs z Δ hI ρ _ G h1 h2
/-! reasoning: at most c draws, then k -/
theorem Co.asr {b : Bool} {n : Nat} {c : Prop} {p : Pg α} {k : α → Prop} (hc : c) (h : Co b n p k) : Co b n (asr c p) k := by
  unfold DL.asr; rw [if_pos hc]; exact h
theorem Co.ref {n : Nat} {p q : Pg α} {k : α → Prop} (h : Ref p q) (hp : Co true n p k) : Co true n q k := fun m => h.go _ _ (hp m)
theorem Co.map {b : Bool} {n : Nat} {p : Pg α} {f : α → β} {k : β → Prop} (h : Co b n p fun a => k (f a)) : Co b n (p.bind fun a => .ret (f a)) k := by
  have q : Co b (n + 0) (p.bind fun a => .ret (f a)) k := Co.bind (c2 := 0) (h.mono fun a ha => Co.ret ha)
  exact q
theorem lowOk_of {low : Int} (h0 : 0 < low) (h1 : low < 2 ^ 64) : lowOk low = true := lowOk_is.2 ⟨h0, h1⟩
theorem co_drawI {u : Unit} {low : Int} {k : Int → Prop} (h0 : 0 < low) (h1 : low < 2 ^ 64) (h : ∀ d, 0 ≤ d → d < low → k d) : Co true 1 (drawI u low) k := Co.asr (lowOk_of h0 h1) (Co.draw (c := 0) h0 h1 fun d d0 d1 => Co.ret (h d d0 d1))
theorem co_mapP {b : Bool} {n : Nat} {e : α → Pg β} {P : β → Prop} : ∀ (xs : List α), (∀ x ∈ xs, Co b n (e x) P) → Co b (xs.length * n) (mapP e xs) fun ys => ys.length = xs.length ∧ ∀ y ∈ ys, P y
  | [], _ => by
    refine Co.ret ⟨rfl, fun y hy => ?_⟩
    cases hy
  | x :: xs, h => by
    have i := co_mapP xs fun y hy => h y (List.mem_cons_of_mem _ hy)
    unfold mapP
    rw [List.length_cons, Nat.succ_mul, Nat.add_comm]
    refine Co.bind ((h x (List.mem_cons_self ..)).mono fun a ha => ?_)
    have z : Co b (xs.length * n + 0) ((mapP e xs).bind fun rs => Pg.ret (a :: rs)) _ := Co.bind (i.mono fun ys hy => Co.ret (k := fun (ys : List β) => ys.length = xs.length + 1 ∧ ∀ y ∈ ys, P y) ⟨by simp [hy.1], fun y hy' => by
      rcases List.mem_cons.1 hy' with rfl | hy'
      · exact ha
      · exact hy.2 y hy'⟩)
    exact z
theorem co_loop {b : Bool} {n : Nat} {γ : Type} {step : σ → γ → Pg (σ ⊕ α)} {I : Nat → σ → Prop} : ∀ (xs : List γ) (j : Nat) (z : σ), I j z → (∀ j z x, I j z → Co b n (step z x) fun r => ∃ z', r = .inl z' ∧ I (j + 1) z') → Co b (xs.length * n) (loopM step xs z) fun r => ∃ z', r = .inl z' ∧ I (j + xs.length) z'
  | [], j, z, hI, _ => Co.ret ⟨z, rfl, hI⟩
  | x :: xs, j, z, hI, h => by
    unfold loopM
    rw [List.length_cons, Nat.succ_mul, Nat.add_comm (xs.length * n)]
    refine Co.bind ((h j z x hI).mono fun r ⟨z', hr, hI'⟩ => ?_)
    subst hr
    have q := co_loop xs (j + 1) z' hI' h
    rw [show j + (xs.length + 1) = j + 1 + xs.length by omega]
    exact q
end
end DL
namespace DL
section
variable {α σ τ ρ : Type} {Δ : List Sl} {s : SE} {i : Nat} {f : α → D} {xs : List α} {R : τ → Pg ρ}
theorem m_joinJ {p : Pg Out} {m : Pg σ} {K : σ → Pg τ} {G : Out → Pg ρ} (I : σ → List Sl → Prop) (hK : ∀ z Δ', I z Δ' → Ref ((K z).bind R) (G (.nx Δ'))) (h : ∀ (R' : σ → Pg ρ), (∀ z Δ', I z Δ' → Ref (R' z) (G (.nx Δ'))) → Ref (m.bind R') (p.bind G)) : Ref ((m.bind K).bind R) (p.bind G) := by
  rw [bind_assoc]; exact h _ hK
theorem m_xappL {y : Pg ρ} {G : Out → Pg ρ} (ho : ownL Δ i = some (xs.map f)) (hl : xs.length < lim) (h : Ref y ((s Δ).bind fun d => G (.nx (Δ.set i (.o (.lst (xs.map f ++ [d]))))))) : Ref y ((tX (xApp i (xE s)) Δ).bind G) := m_xapp ho (by rw [List.length_map]; exact hl) h
theorem m_appE {y : Pg ρ} {x : α} {G : Out → Pg ρ} (h : Ref y (G (.nx (Δ.set i (.o (.lst ((xs ++ [x]).map f))))))) : Ref y (G (.nx (Δ.set i (.o (.lst (xs.map f ++ [f x])))))) := by
  rw [List.map_append] at h; exact h
end
end DL
namespace DL
theorem m_stage {τ : Type} {m : Pg τ} {R : τ → Pg Out} {p : Pg Out} (h : Ref (m.bind R) p) : Ref (m.bind R) (p.bind .ret) := by rw [bind_pure]; exact h
theorem m_retO {ρ : Type} {y : Pg ρ} {Δ : List Sl} {i : Nat} {ds : List D} {G : Out → Pg ρ} (h : Δ[i]? = some (.o (.lst ds))) (hg : Ref y (G (.rt (.lst ds)))) : Ref y ((tRetO i Δ).bind G) := by
  rw [z_retO h]; exact hg
end DL
namespace DL
theorem m_go {ρ : Type} {y : Pg ρ} {Δ : List Sl} {S : ST} {G : Out → Pg ρ} (h : Ref y ((S Δ).bind G)) : Ref y ((goOn S (.nx Δ)).bind G) := by rw [goOn_eq]; exact h
theorem m_goR {ρ : Type} {y : Pg ρ} {d : D} {S : ST} {G : Out → Pg ρ} (h : Ref y (G (.rt d))) : Ref y ((goOn S (.rt d)).bind G) := by rw [goOn_eq]; exact h
end DL
namespace DL
theorem m_xappM {α τ ρ : Type} {Δ : List Sl} {s : SE} {i : Nat} {f : α → D} {xs : List α} {R : τ → Pg ρ} {m : Pg α} {K : α → Pg τ} {G : Out → Pg ρ} (ho : ownL Δ i = some (xs.map f)) (hl : xs.length < lim) (hs : Ref (m.bind fun a => .ret (f a)) (s Δ)) (hk : ∀ b, Ref ((K b).bind R) (G (.nx (Δ.set i (.o (.lst ((xs ++ [b]).map f))))))) : Ref ((m.bind K).bind R) ((tX (xApp i (xE s)) Δ).bind G) := by
  refine m_xappL ho hl (m_mon hs fun b => ?_)
  have h := hk b
  rw [List.map_append] at h
  exact h
end DL
end
section
set_option Elab.async false
set_option linter.all false
set_option maxRecDepth 100000
namespace DL
open PySem L2
section
variable {α ρ τ : Type} [Inhabited α] {Δ : List Sl} {s : SE} {i j : Nat} {f : α → D} {xs ys : List α} {ds es : List D}
theorem ownL_ne {m : Sl} (h : i ≠ j) : ownL (Δ.set j m) i = ownL Δ i := by
  unfold ownL
  rw [List.getElem?_set_ne (Ne.symm h)]
omit [Inhabited α] in
theorem erase_map : ∀ (xs : List α) (k : Nat), (xs.eraseIdx k).map f = (xs.map f).eraseIdx k
  | [], k => by simp
  | x :: xs, 0 => by simp
  | x :: xs, k + 1 => by simp [erase_map xs k]
theorem m_apop {y : Pg ρ} {G : Out → Pg ρ} (hj : ownL Δ j = some (xs.map f)) (hi : ownL Δ i = some (ys.map f)) (hij : i ≠ j) (h : Ref y ((s Δ).bind fun d => (tX (xApp i (xPop j (fun _ => .ret d))) Δ).bind G)) : Ref y ((tX (xApp i (xPop j s)) Δ).bind G) := by
  have e : (tX (xApp i (xPop j s)) Δ).bind G = (s Δ).bind fun d => (tX (xApp i (xPop j (fun _ => .ret d))) Δ).bind G := by
    show ((xApp i (xPop j s) Δ).bind _).bind G = _
    rw [xApp_e, hi, ofO_some, bind_ret, xPop_e, hj, ofO_some, bind_ret, bind_assoc, bind_assoc, bind_assoc]
    congr 1
    funext d
    show _ = ((xApp i (xPop j fun _ => .ret d) Δ).bind _).bind G
    rw [xApp_e, hi, ofO_some, bind_ret, xPop_e, hj, ofO_some, bind_ret, bind_ret]
    simp only [bind_assoc]
  rw [e]; exact h
theorem m_apopV {y : Pg ρ} {G : Out → Pg ρ} {v : Int} (hj : ownL Δ j = some (xs.map f)) (hi : ownL Δ i = some (ys.map f)) (hij : i ≠ j) (hv : 0 ≤ v ∧ v < (xs.length : Nat) ∧ inR v = true ∧ ys.length < lim) (h : Ref y (G (.nx ((Δ.set j (.o (.lst ((xs.eraseIdx v.toNat).map f)))).set i (.o (.lst ((ys ++ [ixD xs v]).map f))))))) : Ref y ((tX (xApp i (xPop j (fun _ => .ret (.int v)))) Δ).bind G) := by
  have hx : ixN xs.length v = some v.toNat := by
    unfold ixN
    rw [if_pos hv.1, if_pos hv.2.1]
  have hlt : v.toNat < xs.length := by omega
  have hx2 : ixD xs v = xs[v.toNat] := by
    unfold ixD atI
    rw [hx]
    show (xs[v.toNat]?).getD default = _
    rw [List.getElem?_eq_getElem hlt]; rfl
  have hs : seqIndex? v (xs.map f).length = some v.toNat := by
    rw [List.length_map]
    unfold seqIndex?
    simp
    omega
  have e : (tX (xApp i (xPop j (fun _ => .ret (.int v)))) Δ) = .ret (.nx ((Δ.set j (.o (.lst ((xs.eraseIdx v.toNat).map f)))).set i (.o (.lst ((ys ++ [ixD xs v]).map f))))) := by
    show ((xApp i (xPop j fun _ => .ret (.int v)) Δ).bind _) = _
    rw [xApp_e, hi, ofO_some, bind_ret, xPop_e, hj, ofO_some, bind_ret, bind_ret]
    show ((((if inR v = true then (ofO (seqIndex? v (xs.map f).length)).bind fun k => (ofO (xs.map f)[k]?).bind fun r => Pg.ret (r, Δ.set j (.o (.lst ((xs.map f).eraseIdx k)))) else .fail)).bind _).bind _) = _
    rw [if_pos hv.2.2.1, hs, ofO_some, bind_ret, List.getElem?_map, List.getElem?_eq_getElem hlt]
    show (((ofO (ownL (Δ.set j (.o (.lst ((xs.map f).eraseIdx v.toNat)))) i)).bind _).bind _) = _
    rw [ownL_ne hij, hi, ofO_some, bind_ret, if_pos (by rw [List.length_map]; exact hv.2.2.2), hx2, List.map_append, erase_map]
    rfl
  rw [e]; exact h
end
end DL
namespace DL
section
variable {ρ τ : Type} {Δ : List Sl} {s t r : SE} {A : SA} {T U : SB} {g : D → Option D} {g2 : D → D → Option D} {x y z : D} {F : List D → Pg D}
theorem m_callA {y : Pg ρ} {G : D → Pg ρ} (h : Ref y ((A Δ).bind fun ds => (F ds).bind G)) : Ref y ((cCall F A Δ).bind G) := by
  have e : (cCall F A Δ).bind G = (A Δ).bind fun ds => (F ds).bind G := bind_assoc _ _ _
  rw [e]; exact h
theorem m_appP {y : Pg ρ} {ω : Type} {p : Pg ω} {d : ω} {G : ω → Pg ρ} (h : p = .ret d) (hg : Ref y (G d)) : Ref y (p.bind G) := by
  rw [h]; exact hg
theorem m_tupA {y : Pg ρ} {G : D → Pg ρ} (h : Ref y ((A Δ).bind fun ds => (if ds.length ≤ lim then Pg.ret (D.tup ds) else Pg.fail).bind G)) : Ref y ((cTup A Δ).bind G) := by
  have e : (cTup A Δ).bind G = (A Δ).bind fun ds => (if ds.length ≤ lim then Pg.ret (D.tup ds) else Pg.fail).bind G := bind_assoc _ _ _
  rw [e]; exact h
theorem m_aLA {y : Pg ρ} {G : List D → Pg ρ} (h : Ref y ((A Δ).bind fun ds => (if ds.length ≤ lim then Pg.ret ds else Pg.fail).bind G)) : Ref y ((aL A Δ).bind G) := by
  have e : (aL A Δ).bind G = (A Δ).bind fun ds => (if ds.length ≤ lim then Pg.ret ds else Pg.fail).bind G := bind_assoc _ _ _
  rw [e]; exact h
theorem m_lenP {y : Pg ρ} {ω : Type} {ds : List D} {d : ω} {G : ω → Pg ρ} (hg : Ref y (G d)) (hl : ds.length ≤ lim := by exact Nat.le_of_ble_eq_true rfl) : Ref y ((if ds.length ≤ lim then Pg.ret d else .fail).bind G) := by
  rw [if_pos hl]; exact hg
theorem hC_c1_0 : c1 g s Δ = (s Δ).bind fun d => c1 g (fun _ => .ret d) Δ := rfl
theorem hC_c2_0 : c2 g2 s t Δ = (s Δ).bind fun d => c2 g2 (fun _ => .ret d) t Δ := rfl
theorem hC_c2_1 : c2 g2 (fun _ => .ret x) t Δ = (t Δ).bind fun d => c2 g2 (fun _ => .ret x) (fun _ => .ret d) Δ := rfl
theorem hC_cNot_0 : cNot s Δ = (s Δ).bind fun d => cNot (fun _ => .ret d) Δ := rfl
theorem hC_cSl_0 : cSl s t r Δ = (s Δ).bind fun d => cSl (fun _ => .ret d) t r Δ := rfl
theorem hC_cL_0 : cL A Δ = (A Δ).bind fun d => cL (fun _ => .ret d) Δ := rfl
theorem hC_tB_0 : tB s Δ = (s Δ).bind fun d => tB (fun _ => .ret d) Δ := rfl
theorem hC_tT_0 : tT s Δ = (s Δ).bind fun d => tT (fun _ => .ret d) Δ := rfl
theorem hC_tNot_0 : tNot T Δ = (T Δ).bind fun d => tNot (fun _ => .ret d) Δ := rfl
theorem hC_aIt_0 : aIt s Δ = (s Δ).bind fun d => aIt (fun _ => .ret d) Δ := rfl
theorem hC_aEnumA_0 : aEnumA s Δ = (s Δ).bind fun d => aEnumA (fun _ => .ret d) Δ := rfl
theorem hC_aSort_0 : aSort s Δ = (s Δ).bind fun d => aSort (fun _ => .ret d) Δ := rfl
theorem hC_aSoSet_0 : aSoSet s Δ = (s Δ).bind fun d => aSoSet (fun _ => .ret d) Δ := rfl
theorem hC_aList_0 : aList s Δ = (s Δ).bind fun d => aList (fun _ => .ret d) Δ := rfl
theorem hC_aRev_0 : aRev s Δ = (s Δ).bind fun d => aRev (fun _ => .ret d) Δ := rfl
theorem hC_aRg1_0 : aRg1 s Δ = (s Δ).bind fun d => aRg1 (fun _ => .ret d) Δ := rfl
theorem hC_aKeys_0 : aKeys s Δ = (s Δ).bind fun d => aKeys (fun _ => .ret d) Δ := rfl
theorem hC_aRg2_0 : aRg2 s t Δ = (s Δ).bind fun d => aRg2 (fun _ => .ret d) t Δ := rfl
theorem hC_aRg2_1 : aRg2 (fun _ => .ret x) t Δ = (t Δ).bind fun d => aRg2 (fun _ => .ret x) (fun _ => .ret d) Δ := rfl
theorem hC_aZip_0 : aZip s t Δ = (s Δ).bind fun d => aZip (fun _ => .ret d) t Δ := rfl
theorem hC_aZip_1 : aZip (fun _ => .ret x) t Δ = (t Δ).bind fun d => aZip (fun _ => .ret x) (fun _ => .ret d) Δ := rfl
theorem hC_cGet_0 : cGet s t r Δ = (s Δ).bind fun d => cGet (fun _ => .ret d) t r Δ := rfl
theorem hC_cProp_0 {c : Nat} : cProp c F s Δ = (s Δ).bind fun d => cProp c F (fun _ => .ret d) Δ := rfl
theorem hC_cIf : cIf T s t Δ = (T Δ).bind fun d => cIf (fun _ => .ret d) s t Δ := rfl
theorem hC_tAnd : tAnd T U Δ = (T Δ).bind fun d => tAnd (fun _ => .ret d) U Δ := rfl
theorem hC_tOr : tOr T U Δ = (T Δ).bind fun d => tOr (fun _ => .ret d) U Δ := rfl
end
end DL
end
section
set_option Elab.async false
set_option linter.all false
set_option maxRecDepth 100000
/-! two defs that stand in most laws: the same, and tuples for lists -/
namespace DL
open PySem L2
local macro_rules | `(tactic| tm_at "dp") => `(tactic| simp only [outP_rt, outP_nx, bind_draw, intOf_e, ownL_z, ownL_s, xApp_e, xPop_e, bind_ret, bind_fail, ofO_some, cVar_z, cVar_s, cVw_z, cVw_w, cVw_o, cVw_s, cC_e, c1_e, c2_e, aN_e, aC_e, cL_e, cCall_e, cMk_e, cIf_e, tB_e, tT_e, tNot_e, tAnd_e, tOr_e, eAnd_e, eOr_e, cNot_e, toB_e, truO_bl, cTup_e, aL_e, cProp_e, cOwn_e, cOwnIn_e, aLc_e, aIt_e, aSort_e, aRg1_e, aZip_e, aEnum_e, aList_e, tSeq_e, tNil_e, tRet_e, tIf_e, tSet_e, oV_e, oL_e, xE_e, tX_e, tAsg_e, tFor_e, tFrz_e, tPar_e, ite_t, ite_f, List.set_cons_zero, List.set_cons_succ, Bool.not_true, Bool.not_false, List.append_nil, ↓reduceIte, wipeS, Bool.and_self, List.cons_append, List.nil_append, Bool.false_eq_true, *])
def B_same (R : List D → Pg D) : ST := (DL.tSeq (DL.tIf (tT (cIsiT (cVar 1) (aC (cC (.ty "list")) (aC (cC (.ty "tuple")) aN)))) (DL.tSeq (DL.tIf (tOr (tB (c2 (eqO true) (c2 isiO (cVar 0) (cC (.ty "list"))) (c2 isiO (cVar 1) (cC (.ty "list"))))) (tB (c2 (eqO true) (c2 isiO (cVar 0) (cC (.ty "tuple"))) (c2 isiO (cVar 1) (cC (.ty "tuple")))))) (DL.tRet (cC (.bl false))) DL.tNil) (DL.tRet (eAnd (c2 (eqO false) (c1 lenO' (cVw 0)) (c1 lenO' (cVw 1))) (c1 allO (cL (aLc (.tp [(.nm 2), (.nm 3)]) [2, 3] (aZip (cVar 0) (cVar 1)) DL.tYes (cCall R (aC (cVar 2) (aC (cVar 3) aN))))))))) DL.tNil) (DL.tSeq (DL.tIf (tOr (tB (c1 (nonO false) (cVar 1))) (tT (cIsiT (cVar 1) (aC (cC (.ty "bool")) (aC (cC (.ty "str")) aN))))) (DL.tRet (eAnd (c2 (eqO false) (cVar 0) (cVar 1)) (eAnd (c2 (eqO false) (c2 isiO (cVar 0) (cC (.ty "bool"))) (c2 isiO (cVar 1) (cC (.ty "bool")))) (c2 (eqO false) (c1 (nonO false) (cVar 0)) (c1 (nonO false) (cVar 1)))))) DL.tNil) (DL.tRet (eAnd (c2 isiO (cVar 0) (cC (.ty "int"))) (eAnd (cNot (c2 isiO (cVar 0) (cC (.ty "bool")))) (c2 (eqO false) (cVar 0) (cVar 1)))))))
def F_same : Nat → List D → Pg D
  | 0 => fun _ => .fail
  | n + 1 => runF [] 2 4 (B_same (F_same n))
def B_tup (R : List D → Pg D) : ST := (DL.tRet (cIf (tT (cIsiT (cVar 0) (aC (cC (.ty "list")) (aC (cC (.ty "tuple")) aN)))) (c1 tupO (cL (aLc (.nm 1) [1] (aIt (cVar 0)) DL.tYes (cCall R (aC (cVar 1) aN))))) (cVar 0)))
def F_tup : Nat → List D → Pg D
  | 0 => fun _ => .fail
  | n + 1 => runF [] 1 2 (B_tup (F_tup n))
theorem cIsiT_e {s : SE} {t : SA} {Δ : List Sl} : cIsiT s t Δ = (s Δ).bind fun x => (t Δ).bind fun ds => ofO ((tyD x).bind fun z => (unT ds).bind fun ts => if ts.length ≤ 1000 then (ktAny z ts).map D.bl else none) := rfl
theorem same_non (R : List D → Pg D) : runF [] 2 4 (B_same R) [.non, .non] = .ret (.bl true) := rfl
theorem same_bl (R : List D → Pg D) (c : Bool) : runF [] 2 4 (B_same R) [.bl c, .bl c] = .ret (.bl true) := by cases c <;> rfl
theorem same_int (R : List D → Pg D) (i : Int) : runF [] 2 4 (B_same R) [.int i, .int i] = .ret (.bl true) := by
  have h : decide (i = i) = true := decide_eq_true rfl
  show Pg.ret (D.bl (decide (i = i))) = _
  rw [h]
theorem same_str (R : List D → Pg D) (z : Str) : runF [] 2 4 (B_same R) [.str z, .str z] = .ret (.bl true) := by
  have h : eqO false (.str z) (.str z) = some (.bl true) := by
    show some (D.bl (decide (z = z))) = _
    rw [decide_eq_true rfl]
  show ((((ofO (eqO false (.str z) (.str z))).bind _).bind _).bind _).bind _ = _
  rw [h]
  rfl
theorem zip_self' (ds : List D) : zipD ds ds = ds.map fun d => .tup [d, d] := zip_self ds
theorem same_row (R : List D → Pg D) (ds : List D) (x : D) (hx : x = .lst ds ∨ x = .tup ds) (hl : ds.length ≤ lim) (h : ∀ d ∈ ds, R [d, d] = .ret (.bl true)) : runF [] 2 4 (B_same R) [x, x] = .ret (.bl true) := by
  refine (runF_at [.v x, .v x, .e, .e] rfl rfl).trans ?_
  have e1 : ((tyD x).bind fun z => (unT [.ty "list", .ty "tuple"]).bind fun ts => if ts.length ≤ 1000 then (ktAny z ts).map D.bl else none) = some (.bl true) := by rcases hx with rfl | rfl <;> rfl
  have e2 : ∃ c, isiO x (.ty "list") = some (.bl c) := by rcases hx with rfl | rfl <;> exact ⟨_, rfl⟩
  have e3 : ∃ c, isiO x (.ty "tuple") = some (.bl c) := by rcases hx with rfl | rfl <;> exact ⟨_, rfl⟩
  obtain ⟨c2, e2⟩ := e2
  obtain ⟨c3, e3⟩ := e3
  have e4 : ∀ c : Bool, eqO true (.bl c) (.bl c) = some (.bl false) := fun c => by cases c <;> rfl
  have e5 : lenO' x = some (.int ds.length) := by rcases hx with rfl | rfl <;> rfl
  have e6 : eqO false (.int ds.length) (.int ds.length) = some (.bl true) := by
    show some (D.bl (decide ((ds.length : Int) = ds.length))) = _
    rw [decide_eq_true rfl]
  have e7 : zip2 x x = some (ds.map fun d => .tup [d, d]) := by rw [← zip_self']; rcases hx with rfl | rfl <;> rfl
  have e8 : (ds.map fun d => D.tup [d, d]).length ≤ lim := by rw [List.length_map]; exact hl
  have e9 : lcP (.tp [.nm 2, .nm 3]) DL.tYes (cCall R (aC (cVar 2) (aC (cVar 3) aN))) [.v x, .v x, .e, .e] (ds.map fun d => .tup [d, d]) = .ret ((ds.filter fun _ => true).map fun _ => .bl true) :=
    lcP_plain (fun d => .tup [d, d]) (fun _ => true) (fun _ => .bl true) ds fun d hd => ⟨[.v x, .v x, .v d, .v d], rfl, rfl, fun _ => h d hd⟩
  have ea : allO (.lst ((ds.filter fun _ => true).map fun _ => .bl true)) = some (.bl true) := by
    show ((unB ((ds.filter fun _ => true).map fun _ => D.bl true)).map fun ns => D.bl (ns.all id)) = _
    have : ((ds.filter fun _ => true).map fun _ => D.bl true) = ((ds.filter fun _ => true).map fun _ => true).map D.bl := by rw [List.map_map]; rfl
    rw [this, unB_map]
    simp
  have eb := @cIsiT_e
  unfold B_same
  clear hx hl h
  tm_at "dp"
theorem e_same : ∀ (n : Nat) (x : D), Pl n x → F_same (n + 1) [x, x] = .ret (.bl true)
  | n, .non, _ => same_non _
  | n, .bl c, _ => same_bl _ c
  | n, .int i, _ => same_int _ i
  | n, .str z, _ => same_str _ z
  | n + 1, .tup ds, h => by
    unfold Pl at h
    exact same_row _ ds _ (.inr rfl) (by rw [← lim_eq]; exact h.1) fun d hd => e_same n d (h.2 d hd)
  | n + 1, .lst ds, h => by
    unfold Pl at h
    exact same_row _ ds _ (.inl rfl) (by rw [← lim_eq]; exact h.1) fun d hd => e_same n d (h.2 d hd)
  | 0, .tup _, h => by unfold Pl at h; exact h.elim
  | 0, .lst _, h => by unfold Pl at h; exact h.elim
  | _, .ty _, h => by unfold Pl at h; exact h.elim
  | _, .frl _, h => by unfold Pl at h; exact h.elim
  | _, .dct _ _, h => by unfold Pl at h; exact h.elim
  | _, .ins _ _ _, h => by unfold Pl at h; exact h.elim
  | _, .cell _, h => by unfold Pl at h; exact h.elim
def sz1 (xs : List Str) : Prop := xs.length ≤ lim
def sz2 (xs : List (List Str)) : Prop := xs.length ≤ lim ∧ ∀ x ∈ xs, x.length ≤ lim
theorem tup_str (n : Nat) (x : Str) : F_tup (n + 1) [.str x] = .ret (.str x) := rfl
theorem t_tupG {n : Nat} {f g : D → D} (d : D) (ds es : List D) (hd : d = .lst ds ∨ d = .tup ds) (hl : ds.length ≤ lim) (he : ds.length = es.length) (h : ∀ p ∈ ds.zip es, F_tup n [p.1] = .ret p.2) : F_tup (n + 1) [d] = .ret (.tup es) := by
  refine (runF_at [.v d, .e] rfl rfl).trans ?_
  have lc : ∀ (ds es : List D), ds.length = es.length → (∀ p ∈ ds.zip es, F_tup n [p.1] = .ret p.2) → lcP (.nm 1) DL.tYes (cCall (F_tup n) (aC (cVar 1) aN)) [.v d, .e] ds = .ret es := by
    intro ds
    induction ds with
    | nil => intro es he _; cases es with
      | nil => rfl
      | cons _ _ => cases he
    | cons a ds ih =>
      intro es he h
      cases es with
      | nil => cases he
      | cons b es =>
        have h0 : F_tup n [a] = .ret b := h (a, b) (by rw [List.zip_cons_cons]; exact List.mem_cons_self ..)
        have i := ih es (by simpa using he) fun p hp => h p (by rw [List.zip_cons_cons]; exact List.mem_cons_of_mem _ hp)
        show ((F_tup n [a]).bind fun r => (lcP (.nm 1) DL.tYes (cCall (F_tup n) (aC (cVar 1) aN)) [.v d, .e] ds).bind fun rs => .ret (r :: rs)) = _
        rw [h0, i]
        rfl
  have l1 := lc ds es he h
  have it : itO d = some ds := by rcases hd with rfl | rfl <;> rfl
  have tr : (tT (cIsiT (cVar 0) (aC (cC (.ty "list")) (aC (cC (.ty "tuple")) aN)))) [.v d, .e] = .ret true := by rcases hd with rfl | rfl <;> rfl
  unfold B_tup
  have q : (c1 tupO (cL (aLc (.nm 1) [1] (aIt (cVar 0)) DL.tYes (cCall (F_tup n) (aC (cVar 1) aN))))) [.v d, .e] = .ret (.tup es) := by
    refine q_1 (q_cL (ds := es) ?_) rfl
    show (ofO (itO d)).bind _ = _
    rw [it, ofO_some, bind_ret, if_pos hl]
    exact l1
  show ((cIf _ _ _ [.v d, .e]).bind _).bind _ = _
  have z : (cIf (tT (cIsiT (cVar 0) (aC (cC (.ty "list")) (aC (cC (.ty "tuple")) aN)))) (c1 tupO (cL (aLc (.nm 1) [1] (aIt (cVar 0)) DL.tYes (cCall (F_tup n) (aC (cVar 1) aN))))) (cVar 0)) [.v d, .e] = .ret (.tup es) := by
    show ((tT _ _).bind _) = _
    rw [tr, bind_ret]
    exact q
  rw [z]
  rfl
theorem zip_encs {α : Type} (f g : α → D) : ∀ (xs : List α) (p : D × D), p ∈ (xs.map f).zip (xs.map g) → ∃ x ∈ xs, p = (f x, g x)
  | [], p, h => by cases h
  | x :: xs, p, h => by
    rw [List.map_cons, List.map_cons, List.zip_cons_cons] at h
    rcases List.mem_cons.1 h with h | h
    · exact ⟨x, List.mem_cons_self .., h⟩
    · obtain ⟨y, h1, h2⟩ := zip_encs f g xs p h
      exact ⟨y, List.mem_cons_of_mem _ h1, h2⟩
theorem t_tup1 (n : Nat) (d : D) (xs : List Str) (hd : d = .lst (xs.map D.str) ∨ d = .tup (xs.map D.str)) (h : sz1 xs) : F_tup (n + 2) [d] = .ret (eT eS xs) := t_tupG (f := id) (g := id) d _ _ hd (by rw [List.length_map]; exact h) rfl fun p hp => by
  obtain ⟨x, _, rfl⟩ := zip_encs _ _ xs p hp
  exact tup_str n x
theorem t_tupT (xs : List Str) (h : sz1 xs) : F_tup 5 [eT eS xs] = .ret (eT eS (id xs)) := t_tup1 3 _ xs (.inr rfl) h
theorem t_tupL (xs : List Str) (h : sz1 xs) : F_tup 5 [eL eS xs] = .ret (eT eS (id xs)) := t_tup1 3 _ xs (.inl rfl) h
theorem t_tup2 (d : D) (f : List Str → D) (hf : ∀ x, f x = .lst (x.map D.str) ∨ f x = .tup (x.map D.str)) (xs : List (List Str)) (hd : d = .lst (xs.map f) ∨ d = .tup (xs.map f)) (h : sz2 xs) : F_tup 5 [d] = .ret (eT (eT eS) xs) := t_tupG (f := id) (g := id) d _ _ hd (by rw [List.length_map]; exact h.1) (by rw [List.length_map, List.length_map]) fun p hp => by
  obtain ⟨x, hx, rfl⟩ := zip_encs _ _ xs p hp
  exact t_tup1 2 _ x (hf x) (h.2 x hx)
theorem t_tupTT (xs : List (List Str)) (h : sz2 xs) : F_tup 5 [eT (eT eS) xs] = .ret (eT (eT eS) (id xs)) := t_tup2 _ (eT eS) (fun x => .inr rfl) xs (.inr rfl) h
theorem t_tupLL (xs : List (List Str)) (h : sz2 xs) : F_tup 5 [eL (eL eS) xs] = .ret (eT (eT eS) (id xs)) := t_tup2 _ (eL eS) (fun x => .inl rfl) xs (.inl rfl) h

theorem pl_of {n : Nat} {α : Type} {f : α → D} {xs : List α} (hl : xs.length ≤ lim) (h : ∀ x ∈ xs, Pl n (f x)) : Pl (n + 1) (eL f xs) ∧ Pl (n + 1) (eT f xs) := by
  unfold eL eT Pl
  refine ⟨⟨by rw [List.length_map, lim_eq]; exact hl, ?_⟩, ⟨by rw [List.length_map, lim_eq]; exact hl, ?_⟩⟩ <;>
  · intro d hd
    obtain ⟨x, hx, rfl⟩ := List.mem_map.mp hd
    exact h x hx
theorem pl_int {n : Nat} {i : Int} : Pl n (.int i) := by cases n <;> (unfold Pl; trivial)
theorem pl_str {n : Nat} {i : Str} : Pl n (.str i) := by cases n <;> (unfold Pl; trivial)
theorem pl_bl {n : Nat} {i : Bool} : Pl n (.bl i) := by cases n <;> (unfold Pl; trivial)
theorem pl_non {n : Nat} : Pl n .non := by cases n <;> (unfold Pl; trivial)
/-- what the laws want of the two: that they are the same -/
def sameOk (a b : D) : Prop := a = b ∧ Pl 4 a
theorem t_same (a b : D) (h : sameOk a b) : F_same 5 [eD a, eD b] = .ret (eB true) := by
  obtain ⟨rfl, hp⟩ := h
  exact e_same 4 _ hp
end DL
namespace DL
open PySem L2
def sameF (_ _ : D) : Bool := true
section
variable {Δ : List Sl} {A C : SA} {ds es : List D} {d : D} {α : Type} {f : α → D} {xs : List α}
theorem q_callK {F : List D → Pg D} {g : List D → List D → List D} {k : Nat} (h1 : A Δ = .ret ds) (h2 : C Δ = .ret es) (hF : F (g ds es) = .ret d) (hk : es.length = k := by rfl) : cCallK F g k A C Δ = .ret d := by
  show (A Δ).bind _ = _
  rw [h1, bind_ret, h2, bind_ret, if_pos hk]; exact hF
theorem o_mulL {j : Int} (h : nsm 9223372036854775807 j = true ∧ xs.length * j.toNat ≤ lim) : mulO (eL f xs) (.int j) = some (eL f (List.replicate j.toNat xs).flatten) := by
  have e : eL f (List.replicate j.toNat xs).flatten = .lst (List.replicate j.toNat (xs.map f)).flatten := by
    unfold eL
    rw [List.map_flatten, List.map_replicate]
  rw [e]
  exact if_pos (by rw [List.length_map]; exact h)
end
end DL
end
section
set_option Elab.async false
set_option linter.all false
set_option maxRecDepth 1000000
/-! the first numbers of the script -/
namespace DL
open PySem L2
local macro_rules | `(tactic| tm_at "dp") => `(tactic| simp only [outP_rt, outP_nx, bind_draw, intOf_e, ownL_z, ownL_s, xApp_e, xPop_e, bind_ret, bind_fail, ofO_some, cVar_z, cVar_s, cVw_z, cVw_w, cVw_o, cVw_s, cC_e, c1_e, c2_e, aN_e, aC_e, cL_e, cCall_e, cMk_e, cIf_e, tB_e, tT_e, tNot_e, tAnd_e, tOr_e, eAnd_e, eOr_e, cNot_e, toB_e, truO_bl, cTup_e, aL_e, cProp_e, cOwn_e, cOwnIn_e, aLc_e, aIt_e, aSort_e, aRg1_e, aZip_e, aEnum_e, aList_e, tSeq_e, tNil_e, tRet_e, tIf_e, tSet_e, oV_e, oL_e, xE_e, tX_e, tAsg_e, tFor_e, tFrz_e, tPar_e, ite_t, ite_f, List.set_cons_zero, List.set_cons_succ, Bool.not_true, Bool.not_false, List.append_nil, ↓reduceIte, wipeS, Bool.and_self, List.cons_append, List.nil_append, Bool.false_eq_true, *])
def B_cells : ST := (DL.tSeq (tSet 2 (oOr (aList (c2 sl01 (cVw 0) (cVar 1))) (aL (aC (cC (.int 0)) aN)))) (DL.tSeq (DL.tFor (.tp [(.nm 3), (.nm 4)]) (aEnumA (cSl (cVw 0) (cVar 1) (cC (.int 63)))) (DL.tSeq (tSet 5 (oV (c2 modO (c1 intO (cVar 3)) (cVar 1)))) (tPut 2 (c2 addO (c2 ixO (cVw 2) (cVar 5)) (c2 mulO (cVar 4) (c2 addO (cVar 3) (cC (.int 2))))) (cVar 5)))) (tRetO 2)))
def F_cells : List D → Pg D := runF [] 2 6 B_cells
theorem cutL_len {α : Type} (xs : List α) (lo hi : Option Int) : (cutL xs lo hi).length ≤ xs.length := by
  unfold cutL
  rw [List.length_take, List.length_drop]
  omega
theorem cutL_from {α : Type} {xs : List α} {t : Nat} {hi : Option Int} {j : Nat} {v : α} (h : (cutL xs (some (t : Int)) hi)[j]? = some v) : t < xs.length := by
  have h1 := (List.getElem?_eq_some_iff.mp h).1
  unfold cutL at h1
  rw [List.length_take, List.length_drop] at h1
  have e2 : HT.sIx xs.length 0 (some (t : Int)) = min t xs.length := by
    unfold HT.sIx
    simp
    omega
  rw [e2] at h1
  omega
theorem Co.eq {α : Type} {c : Nat} {p : Pg α} {k : α → Prop} (h : Co false c p k) : ∃ a, p = .ret a ∧ k a := by
  have q := h 0
  cases p with
  | ret a => exact ⟨a, rfl, q.2⟩
  | fail => exact q.elim
  | draw low f => cases q.1
theorem Co.of_eq {α : Type} {b : Bool} {c : Nat} {p : Pg α} {a : α} {k : α → Prop} (e : p = .ret a) (h : k a) : Co b c p k := by rw [e]; exact Co.ret h
theorem ix_lst {α : Type} {f : α → D} {xs : List α} {j : Nat} {x : α} (h : xs[j]? = some x) : ixO (.lst (xs.map f)) (.int (j : Nat)) = some (f x) := by
  show L2.atI (xs.map f) (j : Nat) = _
  exact atI_nat (by rw [List.getElem?_map, h]; rfl)
theorem enum_map' {f : Int → D} {xs : List Int} {j : Nat} {d : D} (h : (enumD (xs.map f))[j]? = some d) : ∃ v, xs[j]? = some v ∧ d = .tup [.int (j : Nat), f v] := by
  unfold enumD at h
  rw [List.getElem?_map, List.getElem?_zipIdx, List.getElem?_map] at h
  cases hx : xs[j]? with
  | none => rw [hx] at h; cases h
  | some v =>
    rw [hx] at h
    refine ⟨v, rfl, ?_⟩
    simp at h
    exact h.symm
theorem ixN_pos' {n : Nat} {i : Int} (h0 : 0 ≤ i) (h1 : i < n) : L2.ixN n i = some i.toNat := by
  unfold L2.ixN
  rw [if_pos h0, if_pos h1]
theorem e_cells {ns : List Int} {t : Nat} (ht : 0 < t) (ht3 : t ≤ 3) (hl : ns.length ≤ 63) : ∃ cs : List Int, F_cells [.frl (ns.map D.int), .int (t : Nat)] = .ret (.lst (cs.map D.int)) ∧ 0 < cs.length ∧ cs.length ≤ t := by
  have e1 : sl01 (.frl (ns.map D.int)) (.int (t : Nat)) = some (.lst ((ns.take t).map D.int)) := by
    show some (D.lst (cutD (ns.map D.int) none (some (t : Int)))) = _
    rw [cut_map, cut_take]
  have e2 : slO (.frl (ns.map D.int)) (some (t : Int)) (some 63) = some (.lst ((cutL ns (some (t : Int)) (some 63)).map D.int)) := by
    show some (D.lst (cutD (ns.map D.int) (some (t : Int)) (some 63))) = _
    rw [cut_map]
  have start : ∃ cs : List Int, 0 < cs.length ∧ cs.length ≤ t ∧ (t < ns.length → cs.length = t) ∧ oOr (aList (c2 sl01 (cVw 0) (cVar 1))) (aL (aC (cC (.int 0)) aN)) [.v (.frl (ns.map D.int)), .v (.int (t : Nat)), .e, .e, .e, .e] = .ret (.o (.lst (cs.map D.int))) := by
    have f1 : ∀ l : List D, itemsV (.lst l) = some l := fun _ => rfl
    cases ns with
    | nil =>
      refine ⟨[0], by decide, (by show 1 ≤ t; omega), (fun h => by simp at h), ?_⟩
      show ((ofO (sl01 (.frl (([] : List Int).map D.int)) (.int (t : Nat)))).bind fun x => ofO (itemsV x)).bind _ = _
      rw [e1, List.take_nil]
      rfl
    | cons a r =>
      refine ⟨(a :: r).take t, by rw [List.length_take, List.length_cons]; omega, by rw [List.length_take]; omega, (fun h => by rw [List.length_take]; omega), ?_⟩
      show ((ofO (sl01 (.frl ((a :: r).map D.int)) (.int (t : Nat)))).bind fun x => ofO (itemsV x)).bind _ = _
      rw [e1]
      obtain ⟨t', rfl⟩ : ∃ t', t = t' + 1 := ⟨t - 1, by omega⟩
      rw [List.take_succ_cons]
      rfl
  obtain ⟨cs0, h0, h3, hL, es⟩ := start
  have lp := co_for (b := false) (tg := .tp [.nm 3, .nm 4]) (body := DL.tSeq (tSet 5 (oV (c2 modO (c1 intO (cVar 3)) (cVar 1)))) (tPut 2 (c2 addO (c2 ixO (cVw 2) (cVar 5)) (c2 mulO (cVar 4) (c2 addO (cVar 3) (cC (.int 2))))) (cVar 5))) (ds := enumD ((cutL ns (some (t : Int)) (some 63)).map D.int)) (I := fun _ Δ => ∃ (cs : List Int) (x3 x4 x5 : Sl), Δ = [.v (.frl (ns.map D.int)), .v (.int (t : Nat)), .o (.lst (cs.map D.int)), x3, x4, x5] ∧ cs.length = cs0.length) 0 0 [.v (.frl (ns.map D.int)), .v (.int (t : Nat)), .o (.lst (cs0.map D.int)), .e, .e, .e] ?_ ⟨cs0, .e, .e, .e, rfl, rfl⟩ (Nat.zero_le _)
  · rw [List.drop_zero] at lp
    obtain ⟨o, e3, Δ', e4, cs, x3, x4, x5, e5, e6⟩ := lp.eq
    subst e4 e5
    refine ⟨cs, ?_, by omega, by omega⟩
    show runF [] 2 6 B_cells _ = _
    refine (runF_at [.v (.frl (ns.map D.int)), .v (.int (t : Nat)), .e, .e, .e, .e] rfl rfl).trans ?_
    unfold B_cells
    show (((oOr (aList (c2 sl01 (cVw 0) (cVar 1))) (aL (aC (cC (.int 0)) aN)) [.v (.frl (ns.map D.int)), .v (.int (t : Nat)), .e, .e, .e, .e]).bind _).bind _).bind _ = _
    rw [es]
    show ((((ofO (slO (.frl (ns.map D.int)) (some (t : Int)) (some 63))).bind _).bind _).bind _).bind _ = _
    rw [e2]
    show (((forP (.tp [.nm 3, .nm 4]) _ (enumD ((cutL ns (some (t : Int)) (some 63)).map D.int)) [.v (.frl (ns.map D.int)), .v (.int (t : Nat)), .o (.lst (cs0.map D.int)), .e, .e, .e]).bind _)).bind _ = _
    rw [e3]
    rfl
  · rintro j d Δ hj ⟨cs, x3, x4, x5, rfl, hc⟩
    obtain ⟨v, hv, rfl⟩ := enum_map' hj
    have h4 : t < ns.length := cutL_from hv
    have hi : j < 63 := by
      have h5 := (List.getElem?_eq_some_iff.mp hv).1
      have h6 := cutL_len ns (some (t : Int)) (some 63)
      omega
    have hcs : cs.length = t := hc.trans (hL h4)
    have hp1 := Int.emod_nonneg (j : Int) (show ((t : Nat) : Int) ≠ 0 by omega)
    have hp2 := Int.emod_lt_of_pos (j : Int) (show (0 : Int) < ((t : Nat) : Int) by omega)
    have hm : ((j : Int) % (t : Nat)).toNat < cs.length := by omega
    have g1 : modO (.int (j : Nat)) (.int (t : Nat)) = some (.int ((j : Int) % (t : Nat))) := if_pos (by omega)
    have g2 : ixO (.lst (cs.map D.int)) (.int ((j : Int) % (t : Nat))) = some (.int cs[((j : Int) % (t : Nat)).toNat]) := by
      have q := ix_lst (f := D.int) (xs := cs) (j := ((j : Int) % (t : Nat)).toNat) (List.getElem?_eq_getElem hm)
      rw [Int.toNat_of_nonneg (by omega)] at q
      exact q
    have g3 : mulO (.int v) (.int ((j : Nat) + 2)) = some (.int (v * ((j : Nat) + 2))) := if_pos (.inl (Nat.ble_eq_true_of_le (by omega)))
    have g4 : L2.ixN (cs.map D.int).length ((j : Int) % (t : Nat)) = some ((j : Int) % (t : Nat)).toNat := ixN_pos' (by omega) (by rw [List.length_map]; omega)
    refine Co.of_eq (a := .nx [.v (.frl (ns.map D.int)), .v (.int (t : Nat)), .o (.lst ((cs.set ((j : Int) % (t : Nat)).toNat (cs[((j : Int) % (t : Nat)).toNat] + v * ((j : Nat) + 2))).map D.int)), .v (.int (j : Nat)), .v (.int v), .v (.int ((j : Int) % (t : Nat)))]) ?_ ⟨_, .inl rfl, _, _, _, _, rfl, by rw [List.length_set]; exact hc⟩
    have g5 : tgS (.tp [.nm 3, .nm 4]) (.tup [.int (j : Nat), .int v]) [.v (.frl (ns.map D.int)), .v (.int (t : Nat)), .o (.lst (cs.map D.int)), x3, x4, x5] = some [.v (.frl (ns.map D.int)), .v (.int (t : Nat)), .o (.lst (cs.map D.int)), .v (.int (j : Nat)), .v (.int v), x5] := rfl
    have g6 : ∀ {i : Nat} {s t : SE} {Δ : List Sl}, tPut i s t Δ = (s Δ).bind fun y => (ofO (ownL Δ i)).bind fun ds => (t Δ).bind fun z => (ofO (intOf z)).bind fun n => (ofO (L2.ixN ds.length n)).bind fun j => .ret (.nx (Δ.set i (.o (.lst (ds.set j y))))) := fun {i s t Δ} => rfl
    have g7 : ∀ a b : Int, addO (.int a) (.int b) = some (.int (a + b)) := fun _ _ => rfl
    have g8 : ∀ a : Int, intO (.int a) = some (.int a) := fun _ => rfl
    rw [List.map_set]
    clear hv hj e1 e2 es hL h0 h3 hl hc h4 hi hcs
    tm_at "dp"
end DL
namespace DL
open PySem L2
def B_tail (F : List D → Pg D) (t : Nat) : ST := DL.tSeq (tSet 1 (oV (cCall F (aC (cVar 0) (aC (cC (.int t)) aN))))) (DL.tRet (c1 allO (cL (aLc (.nm 2) [2] (aRg1 (c1 lenO' (cVw 1))) DL.tYes (cBox (cVar 1) (cVar 2))))))
theorem tail_ok {ns : List Int} {t : Nat} (ht : 0 < t) (ht3 : t ≤ 3) (hl : ns.length ≤ 63) : B_tail F_cells t [.v (.frl (ns.map D.int)), .e, .e] = .ret (.rt (.bl true)) := by
  obtain ⟨cs, e, h0, h3⟩ := e_cells ht ht3 hl
  refine z_seq (Δ1 := [.v (.frl (ns.map D.int)), .v (.lst (cs.map D.int)), .e]) (z_setO (o_v (q_call (q_aC (q_var rfl) (q_aC q_C q_aN)) e))) ?_
  refine z_ret ?_
  have q : (cL (aLc (.nm 2) [2] (aRg1 (c1 lenO' (cVw 1))) DL.tYes (cBox (cVar 1) (cVar 2)))) [.v (.frl (ns.map D.int)), .v (.lst (cs.map D.int)), .e] = .ret (eL eB ((rngI 0 (cs.length : Int).toNat).map fun _ => true)) := by
    refine q_cLL (q_lc0 (f := eI) (g := eB) (q_rg1 (q_1 (q_vw rfl) (o_lenL (f := D.int))) (inR_nat (by omega))) ?_ fun x hx => ⟨_, rfl, ?_⟩)
    · unfold rngI
      rw [List.length_map, List.length_range, lim]
      omega
    · unfold rngI at hx
      obtain ⟨i, hi, rfl⟩ := List.mem_map.mp hx
      have hi := List.mem_range.mp hi
      show (match unI (cs.map D.int) with
        | some ns => if (0 : Int) ≤ 0 + (i : Nat) ∧ (0 : Int) + (i : Nat) < ns.length ∧ (0 : Int) + (i : Nat) < 100 then Pg.ret (D.bl true) else .fail
        | none => .fail) = _
      rw [unI_map]
      exact if_pos ⟨by omega, by omega, by omega⟩
  refine q_1 q (o_all.trans ?_)
  have : ∀ xs : List Int, (xs.map fun _ => true).all id = true := fun xs => by simp
  rw [this]
def isT : Pg D → Bool
  | .ret (.bl true) => true
  | _ => false
theorem isT_is {p : Pg D} (h : isT p = true) : p = .ret (.bl true) := by
  unfold isT at h
  split at h
  · rfl
  · cases h
/-- the law, with what is given by hand inside of each turn -/
theorem law_in {F : List D → Pg D} {ns : List Int} {t : Nat} (hF : F = runF [] 1 3 (B_tail F_cells t)) (ht : 0 < t) (ht3 : t ≤ 3) (hl : ns.length ≤ 63) : F [.frl (ns.map D.int)] = .ret (.bl true) := by
  rw [hF]
  refine (runF_at [.v (.frl (ns.map D.int)), .e, .e] rfl rfl).trans ?_
  rw [tail_ok ht ht3 hl]
  rfl
/-- the law, with what is given by hand ahead -/
theorem law_ahead {F H : List D → Pg D} {ns : List Int} {t : Nat} (hF : F = runF [] 1 3 (DL.tSeq (DL.tIf (tNot (tT (cCall H aN))) (DL.tRet (cC (.bl false))) DL.tNil) (B_tail F_cells t))) (hH : H [] = .ret (.bl true)) (ht : 0 < t) (ht3 : t ≤ 3) (hl : ns.length ≤ 63) : F [.frl (ns.map D.int)] = .ret (.bl true) := by
  rw [hF]
  refine (runF_at [.v (.frl (ns.map D.int)), .e, .e] rfl rfl).trans ?_
  have e : (tNot (tT (cCall H aN))) [.v (.frl (ns.map D.int)), .e, .e] = .ret false := q_tNot (q_tT (q_call q_aN hH) rfl)
  have q : DL.tSeq (DL.tIf (tNot (tT (cCall H aN))) (DL.tRet (cC (.bl false))) DL.tNil) (B_tail F_cells t) [.v (.frl (ns.map D.int)), .e, .e] = .ret (.rt (.bl true)) := by
    refine z_seq (Δ1 := [.v (.frl (ns.map D.int)), .e, .e]) ?_ (tail_ok ht ht3 hl)
    show ((tNot (tT (cCall H aN))) _).bind _ = _
    rw [e]
    rfl
  rw [q]
  rfl
end DL
end
section
set_option Elab.async false
set_option linter.all false
/-! plain: dicts as lists of pairs, sums -/
namespace DL
open PySem L2
section
variable {α : Type}
theorem kget_map {m : List (Str × α)} {k : Str} {v : α} (x : Str) : kget (m.map fun p => if p.1 = k then (p.1, v) else p) x = if x = k then (kget m x).map (fun _ => v) else kget m x := by
  induction m with
  | nil => simp [kget]
  | cons p m ih =>
    rw [List.map_cons]
    unfold kget
    rw [ih]
    by_cases h1 : p.1 = k
    · by_cases h2 : x = k
      · simp [h1, h2]
      · have : ¬ k = x := fun z => h2 z.symm
        simp [h1, h2, this]
    · by_cases h2 : x = k
      · have : ¬ p.1 = x := fun z => h1 (z.trans h2)
        simp [h1, this, h2]
      · by_cases h3 : p.1 = x <;> simp [h1, h2, h3]
theorem kget_app {m n : List (Str × α)} (x : Str) : kget (m ++ n) x = (kget m x).or (kget n x) := by
  induction m with
  | nil => simp [kget]
  | cons p m ih =>
    rw [List.cons_append]
    by_cases h : p.1 = x
    · simp [kget, h]
    · simp only [kget, h, if_false]; exact ih
theorem kget_none {m : List (Str × α)} {x : Str} : kget m x = none ↔ ∀ p ∈ m, p.1 ≠ x := by
  induction m with
  | nil => simp [kget]
  | cons p m ih =>
    unfold kget
    by_cases h : p.1 = x
    · simp [h]
    · simp only [h, if_false, ih]
      simp [h]
theorem any_kget {m : List (Str × α)} {k : Str} : (m.any fun p => decide (p.1 = k)) = (kget m k).isSome := by
  induction m with
  | nil => rfl
  | cons p m ih =>
    rw [List.any_cons, ih]
    by_cases h : p.1 = k
    · simp [kget, h]
    · simp [kget, h]
theorem kget_kput {m : List (Str × α)} {k : Str} {v : α} (x : Str) : kget (kput m k v) x = if x = k then some v else kget m x := by
  unfold kput
  rw [any_kget]
  split
  · rename_i h
    rw [kget_map]
    by_cases e : x = k
    · subst e
      obtain ⟨w, hw⟩ := Option.isSome_iff_exists.mp h
      simp [hw]
    · simp [e]
  · rename_i h
    rw [kget_app]
    by_cases e : x = k
    · subst e
      have : kget m x = none := by simpa using h
      simp [this, kget]
    · have : ¬ k = x := fun z => e z.symm
      simp [e, kget, this]
theorem keys_kput {m : List (Str × α)} {k : Str} {v : α} : (kput m k v).map (·.1) = if (kget m k).isSome = true then m.map (·.1) else m.map (·.1) ++ [k] := by
  unfold kput
  rw [any_kget]
  split
  · rw [List.map_map]
    refine List.map_congr_left fun p _ => ?_
    show (if p.1 = k then (p.1, v) else p).1 = p.1
    split <;> rfl
  · simp
theorem mem_keys {m : List (Str × α)} {x : Str} : x ∈ m.map (·.1) ↔ (kget m x).isSome = true := by
  induction m with
  | nil => simp [kget]
  | cons p m ih =>
    rw [List.map_cons, List.mem_cons, ih]
    by_cases h : p.1 = x
    · simp [kget, h]
    · have : ¬ x = p.1 := fun z => h z.symm
      simp [kget, h, this]
theorem nodup_kput {m : List (Str × α)} {k : Str} {v : α} (h : (m.map (·.1)).Nodup) : ((kput m k v).map (·.1)).Nodup := by
  rw [keys_kput]
  split
  · exact h
  · rename_i hn
    refine List.nodup_append.mpr ⟨h, by simp, ?_⟩
    intro a ha b hb e
    rw [List.mem_singleton] at hb
    subst hb e
    exact hn (mem_keys.mp ha)
/-- what a dict comprehension makes -/
def dcm (xs : List Str) (f : Str → α) (m : List (Str × α)) : List (Str × α) := xs.foldl (fun m y => kput m y (f y)) m
theorem kget_dcm {f : Str → α} (x : Str) : ∀ (xs : List Str) (m : List (Str × α)), kget (dcm xs f m) x = if x ∈ xs then some (f x) else kget m x
  | [], m => by simp [dcm]
  | y :: xs, m => by
    show kget (dcm xs f (kput m y (f y))) x = _
    rw [kget_dcm x xs, kget_kput]
    by_cases h1 : x ∈ xs
    · simp [h1]
    · by_cases h2 : x = y
      · subst h2; simp
      · simp [h1, h2]
theorem nodup_dcm {f : Str → α} : ∀ (xs : List Str) (m : List (Str × α)), (m.map (·.1)).Nodup → ((dcm xs f m).map (·.1)).Nodup
  | [], m, h => h
  | y :: xs, m, h => nodup_dcm xs _ (nodup_kput h)
theorem len_kput {m : List (Str × α)} {k : Str} {v : α} : (kput m k v).length ≤ m.length + 1 := by
  unfold kput
  split <;> simp
theorem len_dcm {f : Str → α} : ∀ (xs : List Str) (m : List (Str × α)), (dcm xs f m).length ≤ m.length + xs.length
  | [], m => by simp [dcm]
  | y :: xs, m => by
    have h := len_dcm xs (kput m y (f y)) (f := f)
    have h2 := len_kput (m := m) (k := y) (v := f y)
    show (dcm xs f (kput m y (f y))).length ≤ _
    rw [List.length_cons]
    omega
end
/-! sums -/
theorem sum_perm {xs ys : List Int} (h : xs.Perm ys) : xs.sum = ys.sum := by
  induction h with
  | nil => rfl
  | cons a _ ih => simp [ih]
  | swap a b l => simp; omega
  | trans _ _ i1 i2 => exact i1.trans i2
theorem sum_mono {α : Type} {f g : α → Int} : ∀ (xs : List α), (∀ x ∈ xs, f x ≤ g x) → (xs.map f).sum ≤ (xs.map g).sum
  | [], _ => by simp
  | x :: xs, h => by
    have i := sum_mono xs fun y hy => h y (List.mem_cons_of_mem _ hy)
    have := h x (List.mem_cons_self ..)
    simp
    omega
theorem sum_add {α : Type} {f g : α → Int} : ∀ (xs : List α), (xs.map fun x => f x + g x).sum = (xs.map f).sum + (xs.map g).sum
  | [] => by simp
  | x :: xs => by
    have i := sum_add (f := f) (g := g) xs
    simp [i]
    omega
theorem sum_nonneg {α : Type} {f : α → Int} : ∀ (xs : List α), (∀ x ∈ xs, 0 ≤ f x) → 0 ≤ (xs.map f).sum
  | [], _ => by simp
  | x :: xs, h => by
    have i := sum_nonneg xs fun y hy => h y (List.mem_cons_of_mem _ hy)
    have := h x (List.mem_cons_self ..)
    simp
    omega
/-- of a part of a row without doubles -/
theorem sum_sub {α : Type} [DecidableEq α] {f : α → Int} : ∀ (xs ys : List α), xs.Nodup → (∀ x ∈ xs, x ∈ ys) → (∀ y ∈ ys, 0 ≤ f y) → (xs.map f).sum ≤ (ys.map f).sum
  | [], ys, _, _, h => by
    have := sum_nonneg ys h
    simpa using this
  | x :: xs, ys, hn, hs, h => by
    have hx := hs x (List.mem_cons_self ..)
    have hp := List.perm_cons_erase hx
    have e := sum_perm (hp.map f)
    rw [List.map_cons, List.sum_cons] at e
    have hnd := List.nodup_cons.mp hn
    have i := sum_sub xs (ys.erase x) hnd.2 (fun y hy => by
      have : y ≠ x := fun z => hnd.1 (z ▸ hy)
      exact (List.mem_erase_of_ne this).mpr (hs y (List.mem_cons_of_mem _ hy))) fun y hy => h y (List.mem_of_mem_erase hy)
    rw [List.map_cons, List.sum_cons, e]
    omega
/-- only those that count -/
theorem sum_filter {α : Type} {f : α → Int} {p : α → Bool} : ∀ (xs : List α), (∀ x ∈ xs, p x = false → f x = 0) → ((xs.filter p).map f).sum = (xs.map f).sum
  | [], _ => rfl
  | x :: xs, h => by
    have i := sum_filter xs fun y hy => h y (List.mem_cons_of_mem _ hy)
    cases hp : p x with
    | true => rw [List.filter_cons_of_pos hp]; simp [i]
    | false => rw [List.filter_cons_of_neg (by simp [hp])]; simp [i, h x (List.mem_cons_self ..) hp]
theorem filter_nodup {α : Type} {p : α → Bool} {xs : List α} (h : xs.Nodup) : (xs.filter p).Nodup := h.sublist List.filter_sublist
theorem perm_of {α : Type} {xs ys : List α} (hx : xs.Nodup) (hy : ys.Nodup) (h : ∀ a, a ∈ xs ↔ a ∈ ys) : xs.Perm ys := (List.perm_ext_iff_of_nodup hx hy).mpr h
/-- a loop that collects -/
theorem fold_filter {α β : Type} {p : α → Bool} {f : α → β} {step : List β → α → List β} (h : ∀ z x, step z x = if p x = true then z ++ [f x] else z) : ∀ (xs : List α) (z : List β), xs.foldl step z = z ++ (xs.filter p).map f
  | [], z => by simp
  | x :: xs, z => by
    rw [List.foldl_cons, h, fold_filter h xs]
    cases hp : p x with
    | true => simp [hp]
    | false => simp [hp]
theorem enumL_get {α : Type} {xs : List α} {j : Nat} : (enumL xs)[j]? = xs[j]?.map fun x => (((j : Nat) : Int), x) := by
  unfold enumL
  rw [List.getElem?_map, List.getElem?_zipIdx]
  cases xs[j]? <;> simp
theorem mem_enumL {α : Type} {xs : List α} {q : Int × α} : q ∈ enumL xs ↔ ∃ j : Nat, q.1 = (j : Nat) ∧ xs[j]? = some q.2 := by
  rw [List.mem_iff_getElem?]
  constructor
  · rintro ⟨j, hj⟩
    rw [enumL_get] at hj
    obtain ⟨x, hx, rfl⟩ := Option.map_eq_some_iff.mp hj
    exact ⟨j, rfl, hx⟩
  · rintro ⟨j, h1, h2⟩
    refine ⟨j, ?_⟩
    rw [enumL_get, h2]
    obtain ⟨a, b⟩ := q
    simp at h1
    simp [h1]
theorem len_enumL {α : Type} {xs : List α} : (enumL xs).length = xs.length := by unfold enumL; simp
theorem mem_rngI {n : Nat} {i : Int} : i ∈ rngI 0 n ↔ 0 ≤ i ∧ i < n := by
  unfold rngI
  rw [List.mem_map]
  constructor
  · rintro ⟨j, hj, rfl⟩
    have := List.mem_range.mp hj
    omega
  · rintro ⟨h0, h1⟩
    exact ⟨i.toNat, List.mem_range.mpr (by omega), by omega⟩
theorem len_rngI {lo : Int} {n : Nat} : (rngI lo n).length = n := by unfold rngI; simp
theorem atI_nat' {α : Type} {xs : List α} {j : Nat} : atI xs (j : Int) = xs[j]? := by
  unfold atI ixN
  by_cases h : j < xs.length
  · rw [if_pos (by omega), if_pos (by omega)]; simp
  · rw [if_pos (by omega), if_neg (by omega), List.getElem?_eq_none (by omega)]; rfl
theorem ixD_nat {α : Type} [Inhabited α] {xs : List α} {j : Nat} {x : α} (h : xs[j]? = some x) : ixD xs (j : Int) = x := by
  unfold ixD; rw [atI_nat', h]; rfl
theorem atI_last {α : Type} {xs : List α} {x : α} : atI (xs ++ [x]) (-1) = some x := by
  unfold atI ixN
  rw [if_neg (by decide), if_pos (by rw [List.length_append, List.length_singleton]; omega)]
  show (xs ++ [x])[((-1 : Int) + ((xs ++ [x]).length : Int)).toNat]? = _
  rw [List.length_append, List.length_singleton, show ((-1 : Int) + ((xs.length + 1 : Nat) : Int)).toNat = xs.length by omega, List.getElem?_append_right (Nat.le_refl _), Nat.sub_self]
  rfl
theorem ixD_last {α : Type} [Inhabited α] {xs : List α} {x : α} : ixD (xs ++ [x]) (-1) = x := by unfold ixD; rw [atI_last]; rfl
end DL
end
section
set_option Elab.async false
set_option linter.all false
/-! plain: the draws that stand in most laws -/
namespace DL
open PySem L2
section
variable {α τ : Type} [Inhabited α]
theorem lim_le {n : Nat} (h : n ≤ 100000) : n ≤ lim := Nat.le_trans h (by decide)
theorem lim_lt {n : Nat} (h : n ≤ 100000) : n < lim := Nat.lt_of_le_of_lt h (by decide)
theorem co_one {u : Unit} {xs : List α} (h0 : xs ≠ []) (h1 : xs.length ≤ 1000) : Co true 1 ((drawI u (xs.length : Int)).bind fun b => asr ((atI xs b).isSome = true) (.ret (ixD xs b))) fun x => x ∈ xs := by
  have hp : 0 < xs.length := List.length_pos_iff.mpr h0
  have q : Co true (1 + 0) ((drawI u (xs.length : Int)).bind fun b => asr ((atI xs b).isSome = true) (.ret (ixD xs b))) fun x => x ∈ xs := Co.bind (co_drawI (by omega) (by omega) fun d d0 d1 => by
    obtain ⟨k, rfl⟩ := Int.eq_ofNat_of_zero_le d0
    have hk : k < xs.length := by omega
    have hk2 := List.getElem?_eq_getElem hk
    refine Co.asr (by rw [atI_nat', hk2]; rfl) (Co.ret ?_)
    rw [ixD_nat hk2]
    exact List.getElem_mem hk)
  exact q
/-- one is taken out and put behind -/
noncomputable def pickStep (u : Unit) (z : List α × List α) (_ : Int) : Pg ((List α × List α) ⊕ τ) := (drawI u (z.1.length : Int)).bind fun b => asr (0 ≤ b ∧ b < (z.1.length : Int) ∧ inR b = true ∧ z.2.length < lim) (.ret (.inl ((z.1.eraseIdx b.toNat), (z.2 ++ [ixD z.1 b]))))
omit [Inhabited α] in
theorem perm_at : ∀ (xs : List α) (k : Nat) (h : k < xs.length), (xs[k] :: xs.eraseIdx k).Perm xs
  | [], k, h => by simp at h
  | x :: xs, 0, h => by simp
  | x :: xs, k + 1, h => by
    have i := perm_at xs k (by simpa using h)
    simp only [List.getElem_cons_succ, List.eraseIdx_cons_succ]
    exact (List.Perm.swap _ _ _).trans (i.cons x)
omit [Inhabited α] in
theorem perm_pick {xs ys : List α} {k : Nat} (h : k < xs.length) : ((ys ++ [xs[k]]) ++ xs.eraseIdx k).Perm (ys ++ xs) := by
  rw [List.append_assoc]
  exact List.Perm.append_left ys (perm_at xs k h)
omit [Inhabited α] in
theorem co_loopN {b : Bool} {n : Nat} {σ γ : Type} {step : σ → γ → Pg (σ ⊕ τ)} {I : Nat → σ → Prop} : ∀ (xs : List γ) (j : Nat) (z : σ), I j z → (∀ i z x, j ≤ i → i < j + xs.length → I i z → Co b n (step z x) fun r => ∃ z', r = .inl z' ∧ I (i + 1) z') → Co b (xs.length * n) (loopM step xs z) fun r => ∃ z', r = .inl z' ∧ I (j + xs.length) z'
  | [], j, z, hI, _ => Co.ret ⟨z, rfl, hI⟩
  | x :: xs, j, z, hI, h => by
    unfold loopM
    rw [List.length_cons, Nat.succ_mul, Nat.add_comm (xs.length * n)]
    refine Co.bind ((h j z x (Nat.le_refl _) (by rw [List.length_cons]; omega) hI).mono fun r ⟨z', hr, hI'⟩ => ?_)
    subst hr
    have q := co_loopN xs (j + 1) z' hI' fun i z x h1 h2 => h i z x (by omega) (by rw [List.length_cons]; omega)
    rw [show j + (xs.length + 1) = j + 1 + xs.length by omega]
    exact q
theorem co_picks {u : Unit} {pool : List α} {n : Nat} (hn : n ≤ pool.length) (hl : pool.length ≤ 1000) : Co true (n * 1) (loopM (pickStep (τ := τ) u) (rngI 0 n) (pool, [])) fun r => ∃ rest ys, r = .inl (rest, ys) ∧ (ys ++ rest).Perm pool ∧ ys.length = n := by
  have q := co_loopN (b := true) (n := 1) (step := pickStep (τ := τ) u) (I := fun j z => (z.2 ++ z.1).Perm pool ∧ z.2.length = j) (rngI 0 n) 0 (pool, []) ⟨by simp, rfl⟩ ?_
  · rw [len_rngI] at q
    refine q.mono fun r ⟨z, hr, h1, h2⟩ => ⟨z.1, z.2, hr, h1, by omega⟩
  · rintro j z x _ hj ⟨h1, h2⟩
    rw [len_rngI] at hj
    have hlen := h1.length_eq
    rw [List.length_append] at hlen
    have hq : Co true (1 + 0) (pickStep (τ := τ) u z x) fun r => ∃ z', r = .inl z' ∧ (z'.2 ++ z'.1).Perm pool ∧ z'.2.length = j + 1 := Co.bind (co_drawI (by omega) (by omega) fun d d0 d1 => by
      obtain ⟨k, rfl⟩ := Int.eq_ofNat_of_zero_le d0
      have hk : k < z.1.length := by omega
      refine Co.asr ⟨d0, d1, inR_nat (by omega), lim_lt (by omega)⟩ (Co.ret ⟨_, rfl, ?_, by rw [List.length_append, List.length_singleton, h2]⟩)
      rw [ixD_nat (List.getElem?_eq_getElem hk)]
      exact (perm_pick hk).trans h1)
    exact hq
end
end DL
end
section
set_option Elab.async false
set_option linter.all false
set_option maxRecDepth 100000
namespace Q76
open PySem L2 DL
def B_tupled (R : List D → Pg D) : ST := (tRet (cIf (tT (cIsiT (cVar 0) (aC (cC (.ty "list")) (aC (cC (.ty "tuple")) aN)))) (c1 tupO (cL (aLc (.nm 1) [1] (aIt (cVar 0)) tYes (cCall R (aC (cVar 1) aN))))) (cVar 0)))
def F_tupled : Nat → List D → Pg D
  | 0 => fun _ => .fail
  | n + 1 => runF [] 1 2 (B_tupled (F_tupled n))
def B_often_above : ST := (tRet (cDc (.nm 1) [1] (aIt (c2 sl01 (cVw 0) (c1 negO (cC (.int 1))))) tYes (cVar 1) (cCnt (cVar 0) (cVar 1))))
def F_often_above : List D → Pg D := runF [] 1 2 B_often_above
def B_more_above : ST := (tRet (cL (aLc (.nm 3) [3] (aKeys (cVar 1)) (tAnd (tB (c2 (eqO true) (cVar 3) (cVar 2))) (tB (c2 (coO .Gt) (c2 dixO (cVar 1) (cVar 3)) (cGet (cVar 0) (cVar 3) (cC (.int 0)))))) (cVar 3))))
def F_more_above : List D → Pg D := runF [] 3 4 B_more_above
def B_path_tells : ST := (tSeq (tPar 2 3 (oV (cCall (F_tupled 5) (aC (cVar 0) aN))) (oV (cCall (F_tupled 5) (aC (cVar 1) aN)))) (tSeq (tAsg (.tp [(.nm 4), (.nm 5), (.nm 6)]) (xE (cTup (aC (cCall F_often_above (aC (cVar 2) aN)) (aC (cCall F_often_above (aC (cVar 3) aN)) (aC (c2 ixO (cVw 2) (c1 negO (cC (.int 1)))) aN)))))) (tSeq (tIf (tOr (tB (c2 (eqO true) (c2 ixO (cVw 3) (c1 negO (cC (.int 1)))) (cVar 6))) (tT (c1 anyO (cL (aLc (.nm 8) [8] (aKeys (cVar 5)) (tB (c2 (eqO true) (cVar 8) (cVar 6))) (c2 (dinO true) (cVar 8) (cVar 4))))))) (tRet (cC (.bl false))) tNil) (tSeq (tSet 7 (oV (c1 sumO (cL (aLc (.nm 8) [8] (aIt (cCall F_more_above (aC (cVar 4) (aC (cVar 5) (aC (cVar 6) aN))))) tYes (c2 subO (c2 dixO (cVar 5) (cVar 8)) (cGet (cVar 4) (cVar 8) (cC (.int 0))))))))) (tRet (c2 (coO .LtE) (c2 addO (cGet (cVar 5) (cVar 6) (cC (.int 0))) (cVar 7)) (cGet (cVar 4) (cVar 6) (cC (.int 0)))))))))
def F_path_tells : List D → Pg D := runF [] 2 9 B_path_tells
def B_tellers : ST := (tSeq (tSet 1 (oV (cCall (F_tupled 5) (aC (cVar 0) aN)))) (tSeq (tSet 2 (oL (aL aN))) (tSeq (tFor (.tp [(.nm 3), (.nm 4)]) (aEnumA (cVar 1)) (tSeq (tSet 5 (oV (cL (aLc (.tp [(.nm 6), (.nm 7)]) [6, 7] (aEnumA (cVar 1)) (tAnd (tB (c2 (eqO true) (cVar 6) (cVar 3))) (tAnd (tT (cCall F_path_tells (aC (cVar 7) (aC (cVar 4) aN)))) (tOr (tB (c2 (coO .Lt) (cVar 6) (cVar 3))) (tNot (tT (cCall F_path_tells (aC (cVar 4) (aC (cVar 7) aN)))))))) (cVar 7))))) (tIf (tB (c2 (eqO false) (c1 lenO' (cVw 5)) (cC (.int 0)))) (tX (xApp 2 (xE (cVar 3)))) tNil))) (tFrz 2 (tRet (c1 tupO (cVw 2)))))))
def F_tellers : List D → Pg D := runF [] 1 8 B_tellers
def B__law_cells : ST := (tSeq (tSet 2 (oOr (aList (c2 sl01 (cVw 0) (cVar 1))) (aL (aC (cC (.int 0)) aN)))) (tSeq (tFor (.tp [(.nm 3), (.nm 4)]) (aEnumA (cSl (cVw 0) (cVar 1) (cC (.int 63)))) (tSeq (tSet 5 (oV (c2 modO (c1 intO (cVar 3)) (cVar 1)))) (tPut 2 (c2 addO (c2 ixO (cVw 2) (cVar 5)) (c2 mulO (cVar 4) (c2 addO (cVar 3) (cC (.int 2))))) (cVar 5)))) (tRetO 2)))
def F__law_cells : List D → Pg D := runF [] 2 6 B__law_cells
def B__law_of : ST := (tRet (c2 ixO (cVw 1) (cCall takeP (aC (cVar 0) (aC (c1 lenO' (cVw 1)) aN)))))
def F__law_of : List D → Pg D := runF [false, true] 2 2 B__law_of
def B__law_same (R : List D → Pg D) : ST := (tSeq (tIf (tT (cIsiT (cVar 1) (aC (cC (.ty "list")) (aC (cC (.ty "tuple")) aN)))) (tSeq (tIf (tOr (tB (c2 (eqO true) (c2 isiO (cVar 0) (cC (.ty "list"))) (c2 isiO (cVar 1) (cC (.ty "list"))))) (tB (c2 (eqO true) (c2 isiO (cVar 0) (cC (.ty "tuple"))) (c2 isiO (cVar 1) (cC (.ty "tuple")))))) (tRet (cC (.bl false))) tNil) (tRet (eAnd (c2 (eqO false) (c1 lenO' (cVw 0)) (c1 lenO' (cVw 1))) (c1 allO (cL (aLc (.tp [(.nm 2), (.nm 3)]) [2, 3] (aZip (cVar 0) (cVar 1)) tYes (cCall R (aC (cVar 2) (aC (cVar 3) aN))))))))) tNil) (tSeq (tIf (tOr (tB (c1 (nonO false) (cVar 1))) (tT (cIsiT (cVar 1) (aC (cC (.ty "bool")) (aC (cC (.ty "str")) aN))))) (tRet (eAnd (c2 (eqO false) (cVar 0) (cVar 1)) (eAnd (c2 (eqO false) (c2 isiO (cVar 0) (cC (.ty "bool"))) (c2 isiO (cVar 1) (cC (.ty "bool")))) (c2 (eqO false) (c1 (nonO false) (cVar 0)) (c1 (nonO false) (cVar 1)))))) tNil) (tRet (eAnd (c2 isiO (cVar 0) (cC (.ty "int"))) (eAnd (cNot (c2 isiO (cVar 0) (cC (.ty "bool")))) (c2 (eqO false) (cVar 0) (cVar 1)))))))
def F__law_same : Nat → List D → Pg D
  | 0 => fun _ => .fail
  | n + 1 => runF [] 2 4 (B__law_same (F__law_same n))
def B__law_pick : ST := (tSeq (tPar 3 4 (oL (aList (cVw 1))) (oL (aL aN))) (tSeq (tFor (.nm 5) (aRg1 (c2 minO (cVar 2) (c1 lenO' (cVw 3)))) (tX (xApp 4 (xPop 3 (cCall takeP (aC (cVar 0) (aC (c1 lenO' (cVw 3)) aN))))))) (tRetO 4)))
def F__law_pick : List D → Pg D := runF [] 3 6 B__law_pick
def B__law_tags : ST := (tRet (cL (aSort (cCall F__law_pick (aC (cVar 0) (aC (cL (aL (aC (cC (.str "a")) (aC (cC (.str "b")) (aC (cC (.str "c")) (aC (cC (.str "ab")) (aC (cC (.str "li")) (aC (cC (.str "zzzzzzzz")) (aC (cC (.str "p")) (aC (cC (.str "x")) aN)))))))))) (aC (cVar 1) aN)))))))
def F__law_tags : List D → Pg D := runF [] 2 2 B__law_tags
def B__law_trail : ST := (tRet (c1 tupO (cL (aLc (.nm 3) [3] (aRg1 (c2 addO (cC (.int 1)) (cCall takeP (aC (cVar 0) (aC (cVar 2) aN))))) tYes (cCall F__law_of (aC (cVar 0) (aC (cVw 1) aN)))))))
def F__law_trail : List D → Pg D := runF [] 3 4 B__law_trail
def B__law_above : ST := (tRet (c1 lenO' (cL (aLc (.nm 2) [2] (aIt (c2 sl01 (cVw 0) (c1 negO (cC (.int 1))))) (tB (c2 (eqO false) (cVar 2) (cVar 1))) (cVar 2)))))
def F__law_above : List D → Pg D := runF [] 2 3 B__law_above
def B__law_tells : ST := (tSeq (tSet 2 (oV (cL (aSoSet (cL (aLc (.nm 4) [4] (aIt (c2 sl01 (cVw 1) (c1 negO (cC (.int 1))))) (tB (c2 (eqO true) (cVar 4) (c2 ixO (cVw 0) (c1 negO (cC (.int 1)))))) (cVar 4))))))) (tSeq (tIf (tOr (tB (c2 (eqO true) (c2 ixO (cVw 1) (c1 negO (cC (.int 1)))) (c2 ixO (cVw 0) (c1 negO (cC (.int 1)))))) (tB (c2 (eqO true) (cL (aLc (.nm 4) [4] (aIt (cVar 2)) (tB (c2 (inO true) (cVar 4) (c2 sl01 (cVw 0) (c1 negO (cC (.int 1)))))) (cVar 4))) (cL (aL aN))))) (tRet (cC (.bl false))) tNil) (tSeq (tSet 3 (oV (c1 sumO (cL (aLc (.nm 4) [4] (aIt (cVar 2)) tYes (c2 maxO (cC (.int 0)) (c2 subO (cCall F__law_above (aC (cVar 1) (aC (cVar 4) aN))) (cCall F__law_above (aC (cVar 0) (aC (cVar 4) aN)))))))))) (tRet (c2 (coO .LtE) (c2 addO (cCall F__law_above (aC (cVar 1) (aC (c2 ixO (cVw 0) (c1 negO (cC (.int 1)))) aN))) (cVar 3)) (cCall F__law_above (aC (cVar 0) (aC (c2 ixO (cVw 0) (c1 negO (cC (.int 1)))) aN))))))))
def F__law_tells : List D → Pg D := runF [] 2 5 B__law_tells
def B__law_due : ST := (tSeq (tSet 1 (oL (aL aN))) (tSeq (tFor (.tp [(.nm 2), (.nm 3)]) (aEnumA (cVar 0)) (tSeq (tSet 4 (oV (cL (aLc (.nm 5) [5] (aRg1 (c1 lenO' (cVw 0))) (tAnd (tB (c2 (eqO true) (cVar 5) (cVar 2))) (tT (cCall F__law_tells (aC (c2 ixO (cVw 0) (cVar 5)) (aC (cVar 3) aN))))) (cVar 5))))) (tIf (tB (c2 (eqO false) (cL (aLc (.nm 5) [5] (aIt (cVar 4)) (tOr (tB (c2 (coO .Lt) (cVar 5) (cVar 2))) (tNot (tT (cCall F__law_tells (aC (cVar 3) (aC (c2 ixO (cVw 0) (cVar 5)) aN)))))) (cVar 5))) (cL (aL aN)))) (tX (xApp 1 (xE (cVar 2)))) tNil))) (tFrz 1 (tRet (c1 tupO (cVw 1))))))
def F__law_due : List D → Pg D := runF [] 1 6 B__law_due
def B__law_by_hand_right : ST := (tSeq (tSet 0 (oL (aL (aC (cTup (aC (cTup aN) (aC (cTup aN) aN))) (aC (cTup (aC (cTup (aC (cC (.str "a")) aN)) (aC (cTup (aC (cC (.int 0)) aN)) aN))) (aC (cTup (aC (cTup (aC (cC (.str "a")) (aC (cC (.str "ba")) (aC (cC (.str "aba")) (aC (cC (.str "bba")) aN))))) (aC (cTup (aC (cC (.int 2)) aN)) aN))) (aC (cTup (aC (cTup (aC (cC (.str "ba")) (aC (cC (.str "ca")) (aC (cC (.str "a")) aN)))) (aC (cTup (aC (cC (.int 0)) (aC (cC (.int 1)) aN))) aN))) (aC (cTup (aC (cTup (aC (cC (.str "ab")) (aC (cC (.str "ba")) aN))) (aC (cTup (aC (cC (.int 0)) (aC (cC (.int 1)) aN))) aN))) aN)))))))) (tSeq (tSet 0 (oL (aAdd (cVw 0) (cL (aL (aC (cTup (aC (cTup (aC (cC (.str "bca")) (aC (cC (.str "cba")) (aC (cC (.str "bca")) aN)))) (aC (cTup (aC (cC (.int 0)) aN)) aN))) (aC (cTup (aC (cTup (aC (cC (.str "a")) (aC (cC (.str "a")) aN))) (aC (cTup (aC (cC (.int 0)) aN)) aN))) (aC (cTup (aC (cTup (aC (cC (.str "bba")) (aC (cC (.str "aba")) aN))) (aC (cTup (aC (cC (.int 1)) aN)) aN))) (aC (cTup (aC (cTup (aC (cC (.str "aa")) (aC (cC (.str "aaa")) (aC (cC (.str "a")) aN)))) (aC (cTup (aC (cC (.int 1)) aN)) aN))) aN))))))))) (tSeq (tSet 0 (oL (aAdd (cVw 0) (cL (aL (aC (cTup (aC (cTup (aC (cC (.str "bcca")) (aC (cC (.str "bbca")) (aC (cC (.str "abca")) aN)))) (aC (cTup (aC (cC (.int 2)) aN)) aN))) (aC (cTup (aC (cTup (aC (cC (.str "bcca")) (aC (cC (.str "bbca")) aN))) (aC (cTup (aC (cC (.int 0)) (aC (cC (.int 1)) aN))) aN))) (aC (cTup (aC (cTup (aC (cC (.str "c")) (aC (cC (.str "cb")) (aC (cC (.str "bc")) (aC (cC (.str "bbc")) (aC (cC (.str "aabc")) (aC (cC (.str "cbc")) aN))))))) (aC (cTup (aC (cC (.int 1)) (aC (cC (.int 4)) (aC (cC (.int 5)) aN)))) aN))) aN)))))))) (tSeq (tX (xApp 0 (xE (cTup (aC (cL (aLc (.nm 1) [1] (aRg1 (cC (.int 30))) tYes (c2 addO (c2 smulO (cC (.str "b")) (cVar 1)) (cC (.str "a"))))) (aC (cTup (aC (cC (.int 29)) aN)) aN)))))) (tSeq (tX (xApp 0 (xE (cTup (aC (cL (aLc (.nm 1) [1] (aRg1 (cC (.int 30))) tYes (c2 addO (c2 smulO (cC (.str "b")) (c2 modO (cVar 1) (cC (.int 15)))) (c2 ixO (cC (.str "ac")) (c2 fdivO (cVar 1) (cC (.int 15))))))) (aC (cTup (aC (cC (.int 14)) (aC (cC (.int 29)) aN))) aN)))))) (tFrz 0 (tRet (c1 allO (cL (aLc (.tp [(.nm 3), (.nm 4)]) [3, 4] (aIt (cVar 0)) tYes (cCall (F__law_same 5) (aC (cCall F_tellers (aC (c1 tupO (cL (aLc (.nm 2) [2] (aIt (cVar 3)) tYes (c1 tupO (cVw 2))))) aN)) (aC (cVar 4) aN)))))))))))))
def F__law_by_hand_right : List D → Pg D := runF [] 0 5 B__law_by_hand_right
def B__law_right : ST := (tSeq (tFor (.nm 1) (aRg1 (cC (.int 12))) (tSeq (tSet 2 (oV (cCall F__law_tags (aC (cVar 0) (aC (c2 addO (cC (.int 2)) (cCall takeP (aC (cVar 0) (aC (cC (.int 2)) aN)))) aN))))) (tSeq (tSet 3 (oL (aLc (.nm 4) [4] (aRg1 (cCall takeP (aC (cVar 0) (aC (cC (.int 9)) aN)))) tYes (cCall F__law_trail (aC (cVar 0) (aC (cVar 2) (aC (cC (.int 5)) aN))))))) (tSeq (tIf (tAnd (tB (c2 (eqQ true) (cVw 3) (cL (aL aN)))) (tB (c2 (eqO false) (cCall takeP (aC (cVar 0) (aC (cC (.int 2)) aN))) (cC (.int 0))))) (tSeq (tSet 5 (oV (cCall F__law_of (aC (cVar 0) (aC (cVw 3) aN))))) (tX (xApp 3 (xE (c2 addO (c1 tupO (cCall F__law_pick (aC (cVar 0) (aC (c2 sl01 (cVw 5) (c1 negO (cC (.int 1)))) (aC (c1 lenO' (cVw 5)) aN))))) (c2 sl10 (cVw 5) (c1 negO (cC (.int 1))))))))) tNil) (tFrz 3 (tSeq (tSet 6 (oV (cCall F_tellers (aC (c1 tupO (cVw 3)) aN)))) (tSeq (tIf (tNot (tT (cCall (F__law_same 5) (aC (cL (aL (aC (cVar 6) (aC (cCallK F_tellers (fun a b => a ++ b) 1 aN (aC (cL (aLc (.nm 5) [5] (aIt (cVar 3)) tYes (cL (aList (cVw 5))))) aN)) aN)))) (aC (c2 mulO (cL (aL (aC (cCall F__law_due (aC (cVar 3) aN)) aN))) (cC (.int 2))) aN))))) (tRet (cC (.bl false))) tNil) (tIf (tNot (tT (c1 allO (cL (aLc (.nm 8) [8] (aRg1 (c1 lenO' (cVw 3))) tYes (c1 anyO (cL (aLc (.nm 7) [7] (aIt (cVar 6)) tYes (eOr (c2 (eqO false) (cVar 7) (cVar 8)) (cCall F_path_tells (aC (c2 ixO (cVw 3) (cVar 7)) (aC (c2 ixO (cVw 3) (cVar 8)) aN)))))))))))) (tRet (cC (.bl false))) tNil)))))))) (tRet (cC (.bl true))))
def F__law_right : List D → Pg D := runF [] 1 9 B__law_right
def B_law : ST := (tSeq (tIf (tNot (tT (cCall F__law_by_hand_right aN))) (tRet (cC (.bl false))) tNil) (tSeq (tSet 1 (oV (cCall F__law_cells (aC (cVar 0) (aC (cC (.int 3)) aN))))) (tRet (c1 allO (cL (aLc (.nm 2) [2] (aRg1 (c1 lenO' (cVw 1))) tYes (cBox (cVar 1) (cVar 2))))))))
def F_law : List D → Pg D := runF [] 1 3 B_law
end Q76
end
section
set_option Elab.async false
set_option linter.all false
set_option maxRecDepth 100000
set_option maxHeartbeats 1000000
namespace Q76
open PySem DL L2
theorem same_eq : ∀ n, F__law_same n = F_same n
  | 0 => rfl
  | n + 1 => by
    show runF [] 2 4 (B__law_same (F__law_same n)) = _
    rw [same_eq n]
    rfl
theorem tup_eq : ∀ n, F_tupled n = F_tup n
  | 0 => rfl
  | n + 1 => by
    show runF [] 1 2 (B_tupled (F_tupled n)) = _
    rw [tup_eq n]
    rfl
theorem u_tupT (xs : List Str) (h : sz1 xs) : F_tupled 5 [eT eS xs] = .ret (eT eS (id xs)) := by rw [tup_eq]; exact t_tupT xs h
theorem u_tupL (xs : List Str) (h : sz1 xs) : F_tupled 5 [eL eS xs] = .ret (eT eS (id xs)) := by rw [tup_eq]; exact t_tupL xs h
theorem u_tupTT (xs : List (List Str)) (h : sz2 xs) : F_tupled 5 [eT (eT eS) xs] = .ret (eT (eT eS) (id xs)) := by rw [tup_eq]; exact t_tupTT xs h
theorem u_tupLL (xs : List (List Str)) (h : sz2 xs) : F_tupled 5 [eL (eL eS) xs] = .ret (eT (eT eS) (id xs)) := by rw [tup_eq]; exact t_tupLL xs h
theorem u_same (a b : D) (h : sameOk a b) : F__law_same 5 [eD a, eD b] = .ret (eB (sameF a b)) := by rw [same_eq]; exact t_same a b h
def f_often_above (path : (List Str)) : (List (Str × Int)) := ((path.dropLast.filter fun y1 => true).foldl (fun m y1 => kput m y1 (path.dropLast.count y1 : Int)) [])
def vc_often_above (path : (List Str)) : Prop := (path.dropLast.length ≤ lim) ∧ (∀ y1 ∈ path.dropLast, (true = true → ((path ≠ []))))
theorem b_often_above (path : (List Str)) (h : vc_often_above path)  : (DL.tRet (cDc (.nm 1) [1] (aIt (c2 sl01 (cVw 0) (c1 negO (cC (.int 1))))) DL.tYes (cVar 1) (cCnt (cVar 0) (cVar 1)))) [.v ((eT eS) path), .e] = .ret (.rt ((eM eI) (f_often_above path))) := by
  exact (z_ret (q_dc (p := fun y1 => true) (kf := fun y1 => y1) (vf := fun y1 => (path.dropLast.count y1 : Int)) (g := eI) (q_itT (q_2 (q_vw rfl) (q_1 q_C o_negI) o_cutLastT)) h.1 (fun y1 hy1 => ⟨_, rfl, q_yes, fun e0 => ⟨(q_var rfl), (q_cnt (q_var rfl) (q_var rfl) ((h.2 y1 hy1) e0))⟩⟩)))
theorem t_often_above (path : (List Str)) (h : vc_often_above path) : F_often_above [(eT eS) path] = .ret ((eM eI) (f_often_above path)) := by
  refine (runF_at [.v ((eT eS) path), .e] rfl rfl).trans ?_
  unfold B_often_above
  rw [b_often_above path h]
  rfl

def f_more_above (mine : (List (Str × Int))) (its : (List (Str × Int))) (last : Str) : (List Str) := ((its.map fun p => p.1).filter fun y2 => ((!decide (y2 = last)) && (decide (((kget mine y2).getD (0 : Int)) < ((kget its y2).getD default)))))
def vc_more_above (mine : (List (Str × Int))) (its : (List (Str × Int))) (last : Str) : Prop := ((its.map fun p => p.1).length ≤ lim) ∧ (∀ y2 ∈ (its.map fun p => p.1), (((!decide (y2 = last)) = true → (((kget its y2).isSome = true)))))
theorem b_more_above (mine : (List (Str × Int))) (its : (List (Str × Int))) (last : Str) (h : vc_more_above mine its last)  : (DL.tRet (cL (aLc (.nm 3) [3] (aKeys (cVar 1)) (tAnd (tB (c2 (eqO true) (cVar 3) (cVar 2))) (tB (c2 (coO .Gt) (c2 dixO (cVar 1) (cVar 3)) (cGet (cVar 0) (cVar 3) (cC (.int 0)))))) (cVar 3)))) [.v ((eM eI) mine), .v ((eM eI) its), .v (eS last), .e] = .ret (.rt ((eL eS) (f_more_above mine its last))) := by
  exact (z_ret (q_cLL (q_lcid (q_lc (p := fun y2 => ((!decide (y2 = last)) && (decide (((kget mine y2).getD (0 : Int)) < ((kget its y2).getD default))))) (v := fun y2 => y2) (g := eS) (q_keys (q_var rfl)) h.1 (fun y2 hy2 => ⟨_, rfl, (q_tAnd (b := (!decide (y2 = last))) (c := (decide (((kget mine y2).getD (0 : Int)) < ((kget its y2).getD default)))) (q_tB (q_2 (q_var rfl) (q_var rfl) o_neS)) (fun e0 => (q_tB (q_2 (q_2 (q_var rfl) (q_var rfl) (o_dix ((h.2 y2 hy2) e0))) (q_get (q_var rfl) (q_var rfl) q_C) o_gtI)))), fun e0 => (q_var rfl)⟩)))))
theorem t_more_above (mine : (List (Str × Int))) (its : (List (Str × Int))) (last : Str) (h : vc_more_above mine its last) : F_more_above [(eM eI) mine, (eM eI) its, eS last] = .ret ((eL eS) (f_more_above mine its last)) := by
  refine (runF_at [.v ((eM eI) mine), .v ((eM eI) its), .v (eS last), .e] rfl rfl).trans ?_
  unfold B_more_above
  rw [b_more_above mine its last h]
  rfl

def f_path_tells_3 (v4 : (List (Str × Int))) (v5 : (List (Str × Int))) (v6 : Str) (v7 : Int) : Bool := (decide ((((kget v5 v6).getD (0 : Int)) + v7) ≤ ((kget v4 v6).getD (0 : Int))))
theorem b_path_tells_3 (v4 : (List (Str × Int))) (v5 : (List (Str × Int))) (v6 : Str) (v7 : Int) (j0 : Sl) (j1 : Sl) (j2 : Sl) (j3 : Sl) : (DL.tRet (c2 (coO .LtE) (c2 addO (cGet (cVar 5) (cVar 6) (cC (.int 0))) (cVar 7)) (cGet (cVar 4) (cVar 6) (cC (.int 0))))) [j0, j1, j2, j3, .v ((eM eI) v4), .v ((eM eI) v5), .v (eS v6), .v (eI v7), .e] = .ret (.rt (eB (f_path_tells_3 v4 v5 v6 v7))) := by
  exact (z_ret (q_2 (q_2 (q_get (q_var rfl) (q_var rfl) q_C) (q_var rfl) o_addI) (q_get (q_var rfl) (q_var rfl) q_C) o_leI))
def f_path_tells_2 (v3 : (List Str)) (v4 : (List (Str × Int))) (v5 : (List (Str × Int))) (v6 : Str) : Bool := (if ((!decide ((ixD v3 (-1 : Int)) = v6)) || ((((v5.map fun p => p.1).filter fun y3 => (!decide (y3 = v6))).map fun y3 => (!(kget v4 y3).isSome)).any id)) = true then false else (f_path_tells_3 v4 v5 v6 ((f_more_above v4 v5 v6).map fun y4 => (((kget v5 y4).getD default) - ((kget v4 y4).getD (0 : Int)))).sum))
def vc_path_tells_2 (v3 : (List Str)) (v4 : (List (Str × Int))) (v5 : (List (Str × Int))) (v6 : Str) : Prop := (((((atI v3 (-1 : Int)).isSome = true))) ∧ ((!decide ((ixD v3 (-1 : Int)) = v6)) = false → (((v5.map fun p => p.1).length ≤ lim)))) ∧ (((!decide ((ixD v3 (-1 : Int)) = v6)) || ((((v5.map fun p => p.1).filter fun y3 => (!decide (y3 = v6))).map fun y3 => (!(kget v4 y3).isSome)).any id)) = false → ((((vc_more_above v4 v5 v6)) ∧ ((f_more_above v4 v5 v6).length ≤ lim) ∧ (∀ y4 ∈ (f_more_above v4 v5 v6), (((kget v5 y4).isSome = true))))))
theorem b_path_tells_2 (v3 : (List Str)) (v4 : (List (Str × Int))) (v5 : (List (Str × Int))) (v6 : Str) (h : vc_path_tells_2 v3 v4 v5 v6) (j0 : Sl) (j1 : Sl) (j2 : Sl) : (DL.tSeq (DL.tIf (tOr (tB (c2 (eqO true) (c2 ixO (cVw 3) (c1 negO (cC (.int 1)))) (cVar 6))) (tT (c1 anyO (cL (aLc (.nm 8) [8] (aKeys (cVar 5)) (tB (c2 (eqO true) (cVar 8) (cVar 6))) (c2 (dinO true) (cVar 8) (cVar 4))))))) (DL.tRet (cC (.bl false))) DL.tNil) (DL.tSeq (tSet 7 (oV (c1 sumO (cL (aLc (.nm 8) [8] (aIt (cCall F_more_above (aC (cVar 4) (aC (cVar 5) (aC (cVar 6) aN))))) DL.tYes (c2 subO (c2 dixO (cVar 5) (cVar 8)) (cGet (cVar 4) (cVar 8) (cC (.int 0))))))))) (DL.tRet (c2 (coO .LtE) (c2 addO (cGet (cVar 5) (cVar 6) (cC (.int 0))) (cVar 7)) (cGet (cVar 4) (cVar 6) (cC (.int 0))))))) [j0, j1, j2, .v ((eT eS) v3), .v ((eM eI) v4), .v ((eM eI) v5), .v (eS v6), .e, .e] = .ret (.rt (eB (f_path_tells_2 v3 v4 v5 v6))) := by
  exact (z_ifre (f := eB) (x := false) (y := (f_path_tells_3 v4 v5 v6 ((f_more_above v4 v5 v6).map fun y4 => (((kget v5 y4).getD default) - ((kget v4 y4).getD (0 : Int)))).sum)) (b := ((!decide ((ixD v3 (-1 : Int)) = v6)) || ((((v5.map fun p => p.1).filter fun y3 => (!decide (y3 = v6))).map fun y3 => (!(kget v4 y3).isSome)).any id))) (q_tOr (b := (!decide ((ixD v3 (-1 : Int)) = v6))) (c := ((((v5.map fun p => p.1).filter fun y3 => (!decide (y3 = v6))).map fun y3 => (!(kget v4 y3).isSome)).any id)) (q_tB (q_2 (q_2 (q_vw rfl) (q_1 q_C o_negI) (o_ixTD h.1.1)) (q_var rfl) o_neS)) (fun e0 => (q_tT (q_1 (q_cLL (q_lc (p := fun y3 => (!decide (y3 = v6))) (v := fun y3 => (!(kget v4 y3).isSome)) (g := eB) (q_keys (q_var rfl)) (h.1.2 e0) (fun y3 hy3 => ⟨_, rfl, (q_tB (q_2 (q_var rfl) (q_var rfl) o_neS)), fun e1 => (q_2 (q_var rfl) (q_var rfl) o_dninS)⟩))) o_any) o_truB))) (fun e0 => (z_ret q_C)) (fun e0 => (z_seq (Δ1 := [j0, j1, j2, .v ((eT eS) v3), .v ((eM eI) v4), .v ((eM eI) v5), .v (eS v6), .v (eI ((f_more_above v4 v5 v6).map fun y4 => (((kget v5 y4).getD default) - ((kget v4 y4).getD (0 : Int)))).sum), .e]) (z_setO (o_v (d := eI ((f_more_above v4 v5 v6).map fun y4 => (((kget v5 y4).getD default) - ((kget v4 y4).getD (0 : Int)))).sum) (q_1 (q_cLL (q_lc0 (v := fun y4 => (((kget v5 y4).getD default) - ((kget v4 y4).getD (0 : Int)))) (g := eI) (q_itL (q_call (q_aC (q_var rfl) (q_aC (q_var rfl) (q_aC (q_var rfl) q_aN))) (t_more_above v4 v5 v6 (h.2 e0).1))) (h.2 e0).2.1 (fun y4 hy4 => ⟨_, rfl, (q_2 (q_2 (q_var rfl) (q_var rfl) (o_dix ((h.2 e0).2.2 y4 hy4))) (q_get (q_var rfl) (q_var rfl) q_C) o_subI)⟩))) o_sum))) (b_path_tells_3 v4 v5 v6 ((f_more_above v4 v5 v6).map fun y4 => (((kget v5 y4).getD default) - ((kget v4 y4).getD (0 : Int)))).sum  (j0) (j1) (j2) (.v ((eT eS) v3))))))
def f_path_tells_1 (v2 : (List Str)) (v3 : (List Str)) : Bool := (f_path_tells_2 v3 (f_often_above v2) (f_often_above v3) (ixD v2 (-1 : Int)))
def vc_path_tells_1 (v2 : (List Str)) (v3 : (List Str)) : Prop := (((vc_often_above v2)) ∧ ((vc_often_above v3)) ∧ (((atI v2 (-1 : Int)).isSome = true))) ∧ (vc_path_tells_2 v3 (f_often_above v2) (f_often_above v3) (ixD v2 (-1 : Int)))
theorem b_path_tells_1 (v2 : (List Str)) (v3 : (List Str)) (h : vc_path_tells_1 v2 v3) (j0 : Sl) (j1 : Sl) : (DL.tSeq (DL.tAsg (.tp [(.nm 4), (.nm 5), (.nm 6)]) (xE (cTup (aC (cCall F_often_above (aC (cVar 2) aN)) (aC (cCall F_often_above (aC (cVar 3) aN)) (aC (c2 ixO (cVw 2) (c1 negO (cC (.int 1)))) aN)))))) (DL.tSeq (DL.tIf (tOr (tB (c2 (eqO true) (c2 ixO (cVw 3) (c1 negO (cC (.int 1)))) (cVar 6))) (tT (c1 anyO (cL (aLc (.nm 8) [8] (aKeys (cVar 5)) (tB (c2 (eqO true) (cVar 8) (cVar 6))) (c2 (dinO true) (cVar 8) (cVar 4))))))) (DL.tRet (cC (.bl false))) DL.tNil) (DL.tSeq (tSet 7 (oV (c1 sumO (cL (aLc (.nm 8) [8] (aIt (cCall F_more_above (aC (cVar 4) (aC (cVar 5) (aC (cVar 6) aN))))) DL.tYes (c2 subO (c2 dixO (cVar 5) (cVar 8)) (cGet (cVar 4) (cVar 8) (cC (.int 0))))))))) (DL.tRet (c2 (coO .LtE) (c2 addO (cGet (cVar 5) (cVar 6) (cC (.int 0))) (cVar 7)) (cGet (cVar 4) (cVar 6) (cC (.int 0)))))))) [j0, j1, .v ((eT eS) v2), .v ((eT eS) v3), .e, .e, .e, .e, .e] = .ret (.rt (eB (f_path_tells_1 v2 v3))) := by
  exact (z_seq (Δ1 := [j0, j1, .v ((eT eS) v2), .v ((eT eS) v3), .v ((eM eI) (f_often_above v2)), .v ((eM eI) (f_often_above v3)), .v (eS (ixD v2 (-1 : Int))), .e, .e]) (z_asg (q_tup (q_aC (q_call (q_aC (q_var rfl) q_aN) (t_often_above v2 h.1.1)) (q_aC (q_call (q_aC (q_var rfl) q_aN) (t_often_above v3 h.1.2.1)) (q_aC (q_2 (q_vw rfl) (q_1 q_C o_negI) (o_ixTD h.1.2.2)) q_aN))))) (b_path_tells_2 v3 (f_often_above v2) (f_often_above v3) (ixD v2 (-1 : Int)) h.2 (j0) (j1) (.v ((eT eS) v2))))
def f_path_tells (path : (List Str)) (other : (List Str)) : Bool := (f_path_tells_1 (id path) (id other))
def vc_path_tells (path : (List Str)) (other : (List Str)) : Prop := (((sz1 path)) ∧ ((sz1 other))) ∧ (vc_path_tells_1 (id path) (id other))
theorem b_path_tells (path : (List Str)) (other : (List Str)) (h : vc_path_tells path other)  : (DL.tSeq (tPar 2 3 (oV (cCall (F_tupled 5) (aC (cVar 0) aN))) (oV (cCall (F_tupled 5) (aC (cVar 1) aN)))) (DL.tSeq (DL.tAsg (.tp [(.nm 4), (.nm 5), (.nm 6)]) (xE (cTup (aC (cCall F_often_above (aC (cVar 2) aN)) (aC (cCall F_often_above (aC (cVar 3) aN)) (aC (c2 ixO (cVw 2) (c1 negO (cC (.int 1)))) aN)))))) (DL.tSeq (DL.tIf (tOr (tB (c2 (eqO true) (c2 ixO (cVw 3) (c1 negO (cC (.int 1)))) (cVar 6))) (tT (c1 anyO (cL (aLc (.nm 8) [8] (aKeys (cVar 5)) (tB (c2 (eqO true) (cVar 8) (cVar 6))) (c2 (dinO true) (cVar 8) (cVar 4))))))) (DL.tRet (cC (.bl false))) DL.tNil) (DL.tSeq (tSet 7 (oV (c1 sumO (cL (aLc (.nm 8) [8] (aIt (cCall F_more_above (aC (cVar 4) (aC (cVar 5) (aC (cVar 6) aN))))) DL.tYes (c2 subO (c2 dixO (cVar 5) (cVar 8)) (cGet (cVar 4) (cVar 8) (cC (.int 0))))))))) (DL.tRet (c2 (coO .LtE) (c2 addO (cGet (cVar 5) (cVar 6) (cC (.int 0))) (cVar 7)) (cGet (cVar 4) (cVar 6) (cC (.int 0))))))))) [.v ((eT eS) path), .v ((eT eS) other), .e, .e, .e, .e, .e, .e, .e] = .ret (.rt (eB (f_path_tells path other))) := by
  exact (z_seq (Δ1 := [.v ((eT eS) path), .v ((eT eS) other), .v ((eT eS) (id path)), .v ((eT eS) (id other)), .e, .e, .e, .e, .e]) (z_par2 (Δ1 := [.v ((eT eS) path), .v ((eT eS) other), .v ((eT eS) (id path)), .v ((eT eS) (id other)), .e, .e, .e, .e, .e]) (o_v (d := (eT eS) (id path)) (q_call (q_aC (q_var rfl) q_aN) (u_tupT path h.1.1))) (o_v (d := (eT eS) (id other)) (q_call (q_aC (q_var rfl) q_aN) (u_tupT other h.1.2)))) (b_path_tells_1 (id path) (id other) h.2 (.v ((eT eS) path)) (.v ((eT eS) other))))
theorem t_path_tells (path : (List Str)) (other : (List Str)) (h : vc_path_tells path other) : F_path_tells [(eT eS) path, (eT eS) other] = .ret (eB (f_path_tells path other)) := by
  refine (runF_at [.v ((eT eS) path), .v ((eT eS) other), .e, .e, .e, .e, .e, .e, .e] rfl rfl).trans ?_
  unfold B_path_tells
  rw [b_path_tells path other h]
  rfl

def f_tellers_3 (v1 : (List (List Str))) (z : (List Int)) (x : (Int × (List Str))) : (List Int) := (if (decide (((((enumL v1).filter fun y5 => ((!decide (y5.1 = x.1)) && ((f_path_tells y5.2 x.2) && ((decide (y5.1 < x.1)) || (!(f_path_tells x.2 y5.2)))))).map fun y5 => y5.2).length : Int) = (0 : Int))) = true then (z ++ [x.1]) else z)
def vc_tellers_3 (v1 : (List (List Str))) (z : (List Int)) (x : (Int × (List Str))) : Prop := (((enumL v1).length ≤ lim) ∧ (∀ y5 ∈ (enumL v1), (((!decide (y5.1 = x.1)) = true → ((vc_path_tells y5.2 x.2)) ∧ ((f_path_tells y5.2 x.2) = true → ((decide (y5.1 < x.1)) = false → (vc_path_tells x.2 y5.2))))))) ∧ (((decide (((((enumL v1).filter fun y5 => ((!decide (y5.1 = x.1)) && ((f_path_tells y5.2 x.2) && ((decide (y5.1 < x.1)) || (!(f_path_tells x.2 y5.2)))))).map fun y5 => y5.2).length : Int) = (0 : Int))) = true → (z.length < lim)))
theorem b_tellers_3 (v1 : (List (List Str))) (k0 : Sl) (xs : List (Int × (List Str))) (z : (List Int)) (Δ : List Sl) (hI : (fun z Δ => ∃ w3 w4 w5 : Sl, Δ = [k0, .v ((eT (eT eS)) v1), .o (.lst (z.map eI)), w3, w4, w5, .e, .e]) z Δ) (h : ∀ (j : Nat) (x : (Int × (List Str))), xs[j]? = some x → vc_tellers_3 v1 ((xs.take j).foldl (f_tellers_3 v1) z) x) : ∃ Δ', forP (.tp [(.nm 3), (.nm 4)]) (DL.tSeq (tSet 5 (oV (cL (aLc (.tp [(.nm 6), (.nm 7)]) [6, 7] (aEnumA (cVar 1)) (tAnd (tB (c2 (eqO true) (cVar 6) (cVar 3))) (tAnd (tT (cCall F_path_tells (aC (cVar 7) (aC (cVar 4) aN)))) (tOr (tB (c2 (coO .Lt) (cVar 6) (cVar 3))) (tNot (tT (cCall F_path_tells (aC (cVar 4) (aC (cVar 7) aN)))))))) (cVar 7))))) (DL.tIf (tB (c2 (eqO false) (c1 lenO' (cVw 5)) (cC (.int 0)))) (tX (xApp 2 (xE (cVar 3)))) DL.tNil)) (xs.map (e2 eI (eT eS))) Δ = .ret (.nx Δ') ∧ (fun z Δ => ∃ w3 w4 w5 : Sl, Δ = [k0, .v ((eT (eT eS)) v1), .o (.lst (z.map eI)), w3, w4, w5, .e, .e]) (xs.foldl (f_tellers_3 v1) z) Δ' := by
  refine z_for (I := (fun z Δ => ∃ w3 w4 w5 : Sl, Δ = [k0, .v ((eT (eT eS)) v1), .o (.lst (z.map eI)), w3, w4, w5, .e, .e])) (step := f_tellers_3 v1) (ok := fun z x => vc_tellers_3 v1 z x) ?_ xs z Δ hI h
  rintro z x Δ ⟨w3, w4, w5, rfl⟩ h
  refine ⟨[k0, .v ((eT (eT eS)) v1), .o (.lst ((if (decide (((((enumL v1).filter fun y5 => ((!decide (y5.1 = x.1)) && ((f_path_tells y5.2 x.2) && ((decide (y5.1 < x.1)) || (!(f_path_tells x.2 y5.2)))))).map fun y5 => y5.2).length : Int) = (0 : Int))) = true then (z ++ [x.1]) else z).map eI)), .v (eI x.1), .v ((eT eS) x.2), .v ((eL (eT eS)) (((enumL v1).filter fun y5 => ((!decide (y5.1 = x.1)) && ((f_path_tells y5.2 x.2) && ((decide (y5.1 < x.1)) || (!(f_path_tells x.2 y5.2)))))).map fun y5 => y5.2)), .e, .e], .inl ?_, ?_⟩
  · show (DL.tSeq (tSet 5 (oV (cL (aLc (.tp [(.nm 6), (.nm 7)]) [6, 7] (aEnumA (cVar 1)) (tAnd (tB (c2 (eqO true) (cVar 6) (cVar 3))) (tAnd (tT (cCall F_path_tells (aC (cVar 7) (aC (cVar 4) aN)))) (tOr (tB (c2 (coO .Lt) (cVar 6) (cVar 3))) (tNot (tT (cCall F_path_tells (aC (cVar 4) (aC (cVar 7) aN)))))))) (cVar 7))))) (DL.tIf (tB (c2 (eqO false) (c1 lenO' (cVw 5)) (cC (.int 0)))) (tX (xApp 2 (xE (cVar 3)))) DL.tNil)) [k0, .v ((eT (eT eS)) v1), .o (.lst (z.map eI)), .v (eI x.1), .v ((eT eS) x.2), w5, .e, .e] = _
    exact (z_seq (Δ1 := [k0, .v ((eT (eT eS)) v1), .o (.lst (z.map eI)), .v (eI x.1), .v ((eT eS) x.2), .v ((eL (eT eS)) (((enumL v1).filter fun y5 => ((!decide (y5.1 = x.1)) && ((f_path_tells y5.2 x.2) && ((decide (y5.1 < x.1)) || (!(f_path_tells x.2 y5.2)))))).map fun y5 => y5.2)), .e, .e]) (z_setO (o_v (d := (eL (eT eS)) (((enumL v1).filter fun y5 => ((!decide (y5.1 = x.1)) && ((f_path_tells y5.2 x.2) && ((decide (y5.1 < x.1)) || (!(f_path_tells x.2 y5.2)))))).map fun y5 => y5.2)) (q_cLL (q_lc (p := fun y5 => ((!decide (y5.1 = x.1)) && ((f_path_tells y5.2 x.2) && ((decide (y5.1 < x.1)) || (!(f_path_tells x.2 y5.2)))))) (v := fun y5 => y5.2) (g := (eT eS)) (q_enumT (q_var rfl)) h.1.1 (fun y5 hy5 => ⟨_, rfl, (q_tAnd (b := (!decide (y5.1 = x.1))) (c := ((f_path_tells y5.2 x.2) && ((decide (y5.1 < x.1)) || (!(f_path_tells x.2 y5.2))))) (q_tB (q_2 (q_var rfl) (q_var rfl) o_neI)) (fun e0 => (q_tAnd (b := (f_path_tells y5.2 x.2)) (c := ((decide (y5.1 < x.1)) || (!(f_path_tells x.2 y5.2)))) (q_tT (q_call (q_aC (q_var rfl) (q_aC (q_var rfl) q_aN)) (t_path_tells y5.2 x.2 ((h.1.2 y5 hy5) e0).1)) o_truB) (fun e1 => (q_tOr (b := (decide (y5.1 < x.1))) (c := (!(f_path_tells x.2 y5.2))) (q_tB (q_2 (q_var rfl) (q_var rfl) o_ltI)) (fun e2 => (q_tNot (q_tT (q_call (q_aC (q_var rfl) (q_aC (q_var rfl) q_aN)) (t_path_tells x.2 y5.2 ((((h.1.2 y5 hy5) e0).2 e1) e2))) o_truB)))))))), fun e0 => (q_var rfl)⟩))))) (z_ifn (b := (decide (((((enumL v1).filter fun y5 => ((!decide (y5.1 = x.1)) && ((f_path_tells y5.2 x.2) && ((decide (y5.1 < x.1)) || (!(f_path_tells x.2 y5.2)))))).map fun y5 => y5.2).length : Int) = (0 : Int)))) (fun bb => [k0, .v ((eT (eT eS)) v1), .o (.lst ((if bb = true then (z ++ [x.1]) else z).map eI)), .v (eI x.1), .v ((eT eS) x.2), .v ((eL (eT eS)) (((enumL v1).filter fun y5 => ((!decide (y5.1 = x.1)) && ((f_path_tells y5.2 x.2) && ((decide (y5.1 < x.1)) || (!(f_path_tells x.2 y5.2)))))).map fun y5 => y5.2)), .e, .e]) (q_tB (q_2 (q_1 (q_vw rfl) o_lenL) q_C o_eqI)) (fun e0 => (z_appL (f := eI) (xs := z) (x := x.1) rfl (q_var rfl) (h.2 e0))) (fun e0 => z_nil)))
  · unfold f_tellers_3
    exact ⟨(.v (eI x.1)), (.v ((eT eS) x.2)), (.v ((eL (eT eS)) (((enumL v1).filter fun y5 => ((!decide (y5.1 = x.1)) && ((f_path_tells y5.2 x.2) && ((decide (y5.1 < x.1)) || (!(f_path_tells x.2 y5.2)))))).map fun y5 => y5.2))), rfl⟩
def f_tellers_4 (v2 : (List Int)) : (List Int) := v2
theorem b_tellers_4 (v2 : (List Int)) (j0 : Sl) (j1 : Sl) (j3 : Sl) (j4 : Sl) (j5 : Sl) : (tFrz 2 (DL.tRet (c1 tupO (cVw 2)))) [j0, j1, .o (.lst (v2.map eI)), j3, j4, j5, .e, .e] = .ret (.rt ((eT eI) (f_tellers_4 v2))) := by
  exact (z_frz (Δ1 := [j0, j1, .v ((eL eI) v2), j3, j4, j5, .e, .e]) rfl (z_ret (q_1 (q_vw rfl) o_tupL)))
def f_tellers_2 (v1 : (List (List Str))) (v2 : (List Int)) : (List Int) := (f_tellers_4 ((enumL v1).foldl (f_tellers_3 v1) v2))
def vc_tellers_2 (v1 : (List (List Str))) (v2 : (List Int)) : Prop := ((∀ (j : Nat) (x : (Int × (List Str))), (enumL v1)[j]? = some x → vc_tellers_3 v1 (((enumL v1).take j).foldl (f_tellers_3 v1) v2) x))
theorem b_tellers_2 (v1 : (List (List Str))) (v2 : (List Int)) (h : vc_tellers_2 v1 v2) (j0 : Sl) : (DL.tSeq (DL.tFor (.tp [(.nm 3), (.nm 4)]) (aEnumA (cVar 1)) (DL.tSeq (tSet 5 (oV (cL (aLc (.tp [(.nm 6), (.nm 7)]) [6, 7] (aEnumA (cVar 1)) (tAnd (tB (c2 (eqO true) (cVar 6) (cVar 3))) (tAnd (tT (cCall F_path_tells (aC (cVar 7) (aC (cVar 4) aN)))) (tOr (tB (c2 (coO .Lt) (cVar 6) (cVar 3))) (tNot (tT (cCall F_path_tells (aC (cVar 4) (aC (cVar 7) aN)))))))) (cVar 7))))) (DL.tIf (tB (c2 (eqO false) (c1 lenO' (cVw 5)) (cC (.int 0)))) (tX (xApp 2 (xE (cVar 3)))) DL.tNil))) (tFrz 2 (DL.tRet (c1 tupO (cVw 2))))) [j0, .v ((eT (eT eS)) v1), .o (.lst (v2.map eI)), .e, .e, .e, .e, .e] = .ret (.rt ((eT eI) (f_tellers_2 v1 v2))) := by
  exact (z_seqJ (z_loop (q_enumT (q_var rfl)) (b_tellers_3 v1 (j0) (enumL v1) v2 [j0, .v ((eT (eT eS)) v1), .o (.lst (v2.map eI)), .e, .e, .e, .e, .e] ⟨(.e), (.e), (.e), rfl⟩ h)) (fun Δ1 hΔ => (by
    obtain ⟨w3, w4, w5, rfl⟩ := hΔ
    exact b_tellers_4 ((enumL v1).foldl (f_tellers_3 v1) v2)  (j0) (.v ((eT (eT eS)) v1)) (w3) (w4) (w5))))
def f_tellers_1 (v1 : (List (List Str))) : (List Int) := (f_tellers_2 v1 ([] : (List Int)))
def vc_tellers_1 (v1 : (List (List Str))) : Prop := (vc_tellers_2 v1 ([] : (List Int)))
theorem b_tellers_1 (v1 : (List (List Str))) (h : vc_tellers_1 v1) (j0 : Sl) : (DL.tSeq (tSet 2 (oL (aL aN))) (DL.tSeq (DL.tFor (.tp [(.nm 3), (.nm 4)]) (aEnumA (cVar 1)) (DL.tSeq (tSet 5 (oV (cL (aLc (.tp [(.nm 6), (.nm 7)]) [6, 7] (aEnumA (cVar 1)) (tAnd (tB (c2 (eqO true) (cVar 6) (cVar 3))) (tAnd (tT (cCall F_path_tells (aC (cVar 7) (aC (cVar 4) aN)))) (tOr (tB (c2 (coO .Lt) (cVar 6) (cVar 3))) (tNot (tT (cCall F_path_tells (aC (cVar 4) (aC (cVar 7) aN)))))))) (cVar 7))))) (DL.tIf (tB (c2 (eqO false) (c1 lenO' (cVw 5)) (cC (.int 0)))) (tX (xApp 2 (xE (cVar 3)))) DL.tNil))) (tFrz 2 (DL.tRet (c1 tupO (cVw 2)))))) [j0, .v ((eT (eT eS)) v1), .e, .e, .e, .e, .e, .e] = .ret (.rt ((eT eI) (f_tellers_1 v1))) := by
  exact (z_seq (Δ1 := [j0, .v ((eT (eT eS)) v1), .o (.lst (([] : (List Int)).map eI)), .e, .e, .e, .e, .e]) (z_setO (o_l (ds := (([] : (List Int))).map eI) (q_aL q_aN))) (b_tellers_2 v1 ([] : (List Int)) h (j0)))
def f_tellers (paths : (List (List Str))) : (List Int) := (f_tellers_1 (id paths))
def vc_tellers (paths : (List (List Str))) : Prop := ((sz2 paths)) ∧ (vc_tellers_1 (id paths))
theorem b_tellers (paths : (List (List Str))) (h : vc_tellers paths)  : (DL.tSeq (tSet 1 (oV (cCall (F_tupled 5) (aC (cVar 0) aN)))) (DL.tSeq (tSet 2 (oL (aL aN))) (DL.tSeq (DL.tFor (.tp [(.nm 3), (.nm 4)]) (aEnumA (cVar 1)) (DL.tSeq (tSet 5 (oV (cL (aLc (.tp [(.nm 6), (.nm 7)]) [6, 7] (aEnumA (cVar 1)) (tAnd (tB (c2 (eqO true) (cVar 6) (cVar 3))) (tAnd (tT (cCall F_path_tells (aC (cVar 7) (aC (cVar 4) aN)))) (tOr (tB (c2 (coO .Lt) (cVar 6) (cVar 3))) (tNot (tT (cCall F_path_tells (aC (cVar 4) (aC (cVar 7) aN)))))))) (cVar 7))))) (DL.tIf (tB (c2 (eqO false) (c1 lenO' (cVw 5)) (cC (.int 0)))) (tX (xApp 2 (xE (cVar 3)))) DL.tNil))) (tFrz 2 (DL.tRet (c1 tupO (cVw 2))))))) [.v ((eT (eT eS)) paths), .e, .e, .e, .e, .e, .e, .e] = .ret (.rt ((eT eI) (f_tellers paths))) := by
  exact (z_seq (Δ1 := [.v ((eT (eT eS)) paths), .v ((eT (eT eS)) (id paths)), .e, .e, .e, .e, .e, .e]) (z_setO (o_v (d := (eT (eT eS)) (id paths)) (q_call (q_aC (q_var rfl) q_aN) (u_tupTT paths h.1)))) (b_tellers_1 (id paths) h.2 (.v ((eT (eT eS)) paths))))
theorem t_tellers (paths : (List (List Str))) (h : vc_tellers paths) : F_tellers [(eT (eT eS)) paths] = .ret ((eT eI) (f_tellers paths)) := by
  refine (runF_at [.v ((eT (eT eS)) paths), .e, .e, .e, .e, .e, .e, .e] rfl rfl).trans ?_
  unfold B_tellers
  rw [b_tellers paths h]
  rfl

def f_tellersL_3 (v1 : (List (List Str))) (z : (List Int)) (x : (Int × (List Str))) : (List Int) := (if (decide (((((enumL v1).filter fun y6 => ((!decide (y6.1 = x.1)) && ((f_path_tells y6.2 x.2) && ((decide (y6.1 < x.1)) || (!(f_path_tells x.2 y6.2)))))).map fun y6 => y6.2).length : Int) = (0 : Int))) = true then (z ++ [x.1]) else z)
def vc_tellersL_3 (v1 : (List (List Str))) (z : (List Int)) (x : (Int × (List Str))) : Prop := (((enumL v1).length ≤ lim) ∧ (∀ y6 ∈ (enumL v1), (((!decide (y6.1 = x.1)) = true → ((vc_path_tells y6.2 x.2)) ∧ ((f_path_tells y6.2 x.2) = true → ((decide (y6.1 < x.1)) = false → (vc_path_tells x.2 y6.2))))))) ∧ (((decide (((((enumL v1).filter fun y6 => ((!decide (y6.1 = x.1)) && ((f_path_tells y6.2 x.2) && ((decide (y6.1 < x.1)) || (!(f_path_tells x.2 y6.2)))))).map fun y6 => y6.2).length : Int) = (0 : Int))) = true → (z.length < lim)))
theorem b_tellersL_3 (v1 : (List (List Str))) (k0 : Sl) (xs : List (Int × (List Str))) (z : (List Int)) (Δ : List Sl) (hI : (fun z Δ => ∃ w3 w4 w5 : Sl, Δ = [k0, .v ((eT (eT eS)) v1), .o (.lst (z.map eI)), w3, w4, w5, .e, .e]) z Δ) (h : ∀ (j : Nat) (x : (Int × (List Str))), xs[j]? = some x → vc_tellersL_3 v1 ((xs.take j).foldl (f_tellersL_3 v1) z) x) : ∃ Δ', forP (.tp [(.nm 3), (.nm 4)]) (DL.tSeq (tSet 5 (oV (cL (aLc (.tp [(.nm 6), (.nm 7)]) [6, 7] (aEnumA (cVar 1)) (tAnd (tB (c2 (eqO true) (cVar 6) (cVar 3))) (tAnd (tT (cCall F_path_tells (aC (cVar 7) (aC (cVar 4) aN)))) (tOr (tB (c2 (coO .Lt) (cVar 6) (cVar 3))) (tNot (tT (cCall F_path_tells (aC (cVar 4) (aC (cVar 7) aN)))))))) (cVar 7))))) (DL.tIf (tB (c2 (eqO false) (c1 lenO' (cVw 5)) (cC (.int 0)))) (tX (xApp 2 (xE (cVar 3)))) DL.tNil)) (xs.map (e2 eI (eT eS))) Δ = .ret (.nx Δ') ∧ (fun z Δ => ∃ w3 w4 w5 : Sl, Δ = [k0, .v ((eT (eT eS)) v1), .o (.lst (z.map eI)), w3, w4, w5, .e, .e]) (xs.foldl (f_tellersL_3 v1) z) Δ' := by
  refine z_for (I := (fun z Δ => ∃ w3 w4 w5 : Sl, Δ = [k0, .v ((eT (eT eS)) v1), .o (.lst (z.map eI)), w3, w4, w5, .e, .e])) (step := f_tellersL_3 v1) (ok := fun z x => vc_tellersL_3 v1 z x) ?_ xs z Δ hI h
  rintro z x Δ ⟨w3, w4, w5, rfl⟩ h
  refine ⟨[k0, .v ((eT (eT eS)) v1), .o (.lst ((if (decide (((((enumL v1).filter fun y6 => ((!decide (y6.1 = x.1)) && ((f_path_tells y6.2 x.2) && ((decide (y6.1 < x.1)) || (!(f_path_tells x.2 y6.2)))))).map fun y6 => y6.2).length : Int) = (0 : Int))) = true then (z ++ [x.1]) else z).map eI)), .v (eI x.1), .v ((eT eS) x.2), .v ((eL (eT eS)) (((enumL v1).filter fun y6 => ((!decide (y6.1 = x.1)) && ((f_path_tells y6.2 x.2) && ((decide (y6.1 < x.1)) || (!(f_path_tells x.2 y6.2)))))).map fun y6 => y6.2)), .e, .e], .inl ?_, ?_⟩
  · show (DL.tSeq (tSet 5 (oV (cL (aLc (.tp [(.nm 6), (.nm 7)]) [6, 7] (aEnumA (cVar 1)) (tAnd (tB (c2 (eqO true) (cVar 6) (cVar 3))) (tAnd (tT (cCall F_path_tells (aC (cVar 7) (aC (cVar 4) aN)))) (tOr (tB (c2 (coO .Lt) (cVar 6) (cVar 3))) (tNot (tT (cCall F_path_tells (aC (cVar 4) (aC (cVar 7) aN)))))))) (cVar 7))))) (DL.tIf (tB (c2 (eqO false) (c1 lenO' (cVw 5)) (cC (.int 0)))) (tX (xApp 2 (xE (cVar 3)))) DL.tNil)) [k0, .v ((eT (eT eS)) v1), .o (.lst (z.map eI)), .v (eI x.1), .v ((eT eS) x.2), w5, .e, .e] = _
    exact (z_seq (Δ1 := [k0, .v ((eT (eT eS)) v1), .o (.lst (z.map eI)), .v (eI x.1), .v ((eT eS) x.2), .v ((eL (eT eS)) (((enumL v1).filter fun y6 => ((!decide (y6.1 = x.1)) && ((f_path_tells y6.2 x.2) && ((decide (y6.1 < x.1)) || (!(f_path_tells x.2 y6.2)))))).map fun y6 => y6.2)), .e, .e]) (z_setO (o_v (d := (eL (eT eS)) (((enumL v1).filter fun y6 => ((!decide (y6.1 = x.1)) && ((f_path_tells y6.2 x.2) && ((decide (y6.1 < x.1)) || (!(f_path_tells x.2 y6.2)))))).map fun y6 => y6.2)) (q_cLL (q_lc (p := fun y6 => ((!decide (y6.1 = x.1)) && ((f_path_tells y6.2 x.2) && ((decide (y6.1 < x.1)) || (!(f_path_tells x.2 y6.2)))))) (v := fun y6 => y6.2) (g := (eT eS)) (q_enumT (q_var rfl)) h.1.1 (fun y6 hy6 => ⟨_, rfl, (q_tAnd (b := (!decide (y6.1 = x.1))) (c := ((f_path_tells y6.2 x.2) && ((decide (y6.1 < x.1)) || (!(f_path_tells x.2 y6.2))))) (q_tB (q_2 (q_var rfl) (q_var rfl) o_neI)) (fun e0 => (q_tAnd (b := (f_path_tells y6.2 x.2)) (c := ((decide (y6.1 < x.1)) || (!(f_path_tells x.2 y6.2)))) (q_tT (q_call (q_aC (q_var rfl) (q_aC (q_var rfl) q_aN)) (t_path_tells y6.2 x.2 ((h.1.2 y6 hy6) e0).1)) o_truB) (fun e1 => (q_tOr (b := (decide (y6.1 < x.1))) (c := (!(f_path_tells x.2 y6.2))) (q_tB (q_2 (q_var rfl) (q_var rfl) o_ltI)) (fun e2 => (q_tNot (q_tT (q_call (q_aC (q_var rfl) (q_aC (q_var rfl) q_aN)) (t_path_tells x.2 y6.2 ((((h.1.2 y6 hy6) e0).2 e1) e2))) o_truB)))))))), fun e0 => (q_var rfl)⟩))))) (z_ifn (b := (decide (((((enumL v1).filter fun y6 => ((!decide (y6.1 = x.1)) && ((f_path_tells y6.2 x.2) && ((decide (y6.1 < x.1)) || (!(f_path_tells x.2 y6.2)))))).map fun y6 => y6.2).length : Int) = (0 : Int)))) (fun bb => [k0, .v ((eT (eT eS)) v1), .o (.lst ((if bb = true then (z ++ [x.1]) else z).map eI)), .v (eI x.1), .v ((eT eS) x.2), .v ((eL (eT eS)) (((enumL v1).filter fun y6 => ((!decide (y6.1 = x.1)) && ((f_path_tells y6.2 x.2) && ((decide (y6.1 < x.1)) || (!(f_path_tells x.2 y6.2)))))).map fun y6 => y6.2)), .e, .e]) (q_tB (q_2 (q_1 (q_vw rfl) o_lenL) q_C o_eqI)) (fun e0 => (z_appL (f := eI) (xs := z) (x := x.1) rfl (q_var rfl) (h.2 e0))) (fun e0 => z_nil)))
  · unfold f_tellersL_3
    exact ⟨(.v (eI x.1)), (.v ((eT eS) x.2)), (.v ((eL (eT eS)) (((enumL v1).filter fun y6 => ((!decide (y6.1 = x.1)) && ((f_path_tells y6.2 x.2) && ((decide (y6.1 < x.1)) || (!(f_path_tells x.2 y6.2)))))).map fun y6 => y6.2))), rfl⟩
def f_tellersL_4 (v2 : (List Int)) : (List Int) := v2
theorem b_tellersL_4 (v2 : (List Int)) (j0 : Sl) (j1 : Sl) (j3 : Sl) (j4 : Sl) (j5 : Sl) : (tFrz 2 (DL.tRet (c1 tupO (cVw 2)))) [j0, j1, .o (.lst (v2.map eI)), j3, j4, j5, .e, .e] = .ret (.rt ((eT eI) (f_tellersL_4 v2))) := by
  exact (z_frz (Δ1 := [j0, j1, .v ((eL eI) v2), j3, j4, j5, .e, .e]) rfl (z_ret (q_1 (q_vw rfl) o_tupL)))
def f_tellersL_2 (v1 : (List (List Str))) (v2 : (List Int)) : (List Int) := (f_tellersL_4 ((enumL v1).foldl (f_tellersL_3 v1) v2))
def vc_tellersL_2 (v1 : (List (List Str))) (v2 : (List Int)) : Prop := ((∀ (j : Nat) (x : (Int × (List Str))), (enumL v1)[j]? = some x → vc_tellersL_3 v1 (((enumL v1).take j).foldl (f_tellersL_3 v1) v2) x))
theorem b_tellersL_2 (v1 : (List (List Str))) (v2 : (List Int)) (h : vc_tellersL_2 v1 v2) (j0 : Sl) : (DL.tSeq (DL.tFor (.tp [(.nm 3), (.nm 4)]) (aEnumA (cVar 1)) (DL.tSeq (tSet 5 (oV (cL (aLc (.tp [(.nm 6), (.nm 7)]) [6, 7] (aEnumA (cVar 1)) (tAnd (tB (c2 (eqO true) (cVar 6) (cVar 3))) (tAnd (tT (cCall F_path_tells (aC (cVar 7) (aC (cVar 4) aN)))) (tOr (tB (c2 (coO .Lt) (cVar 6) (cVar 3))) (tNot (tT (cCall F_path_tells (aC (cVar 4) (aC (cVar 7) aN)))))))) (cVar 7))))) (DL.tIf (tB (c2 (eqO false) (c1 lenO' (cVw 5)) (cC (.int 0)))) (tX (xApp 2 (xE (cVar 3)))) DL.tNil))) (tFrz 2 (DL.tRet (c1 tupO (cVw 2))))) [j0, .v ((eT (eT eS)) v1), .o (.lst (v2.map eI)), .e, .e, .e, .e, .e] = .ret (.rt ((eT eI) (f_tellersL_2 v1 v2))) := by
  exact (z_seqJ (z_loop (q_enumT (q_var rfl)) (b_tellersL_3 v1 (j0) (enumL v1) v2 [j0, .v ((eT (eT eS)) v1), .o (.lst (v2.map eI)), .e, .e, .e, .e, .e] ⟨(.e), (.e), (.e), rfl⟩ h)) (fun Δ1 hΔ => (by
    obtain ⟨w3, w4, w5, rfl⟩ := hΔ
    exact b_tellersL_4 ((enumL v1).foldl (f_tellersL_3 v1) v2)  (j0) (.v ((eT (eT eS)) v1)) (w3) (w4) (w5))))
def f_tellersL_1 (v1 : (List (List Str))) : (List Int) := (f_tellersL_2 v1 ([] : (List Int)))
def vc_tellersL_1 (v1 : (List (List Str))) : Prop := (vc_tellersL_2 v1 ([] : (List Int)))
theorem b_tellersL_1 (v1 : (List (List Str))) (h : vc_tellersL_1 v1) (j0 : Sl) : (DL.tSeq (tSet 2 (oL (aL aN))) (DL.tSeq (DL.tFor (.tp [(.nm 3), (.nm 4)]) (aEnumA (cVar 1)) (DL.tSeq (tSet 5 (oV (cL (aLc (.tp [(.nm 6), (.nm 7)]) [6, 7] (aEnumA (cVar 1)) (tAnd (tB (c2 (eqO true) (cVar 6) (cVar 3))) (tAnd (tT (cCall F_path_tells (aC (cVar 7) (aC (cVar 4) aN)))) (tOr (tB (c2 (coO .Lt) (cVar 6) (cVar 3))) (tNot (tT (cCall F_path_tells (aC (cVar 4) (aC (cVar 7) aN)))))))) (cVar 7))))) (DL.tIf (tB (c2 (eqO false) (c1 lenO' (cVw 5)) (cC (.int 0)))) (tX (xApp 2 (xE (cVar 3)))) DL.tNil))) (tFrz 2 (DL.tRet (c1 tupO (cVw 2)))))) [j0, .v ((eT (eT eS)) v1), .e, .e, .e, .e, .e, .e] = .ret (.rt ((eT eI) (f_tellersL_1 v1))) := by
  exact (z_seq (Δ1 := [j0, .v ((eT (eT eS)) v1), .o (.lst (([] : (List Int)).map eI)), .e, .e, .e, .e, .e]) (z_setO (o_l (ds := (([] : (List Int))).map eI) (q_aL q_aN))) (b_tellersL_2 v1 ([] : (List Int)) h (j0)))
def f_tellersL (paths : (List (List Str))) : (List Int) := (f_tellersL_1 (id paths))
def vc_tellersL (paths : (List (List Str))) : Prop := ((sz2 paths)) ∧ (vc_tellersL_1 (id paths))
theorem b_tellersL (paths : (List (List Str))) (h : vc_tellersL paths)  : (DL.tSeq (tSet 1 (oV (cCall (F_tupled 5) (aC (cVar 0) aN)))) (DL.tSeq (tSet 2 (oL (aL aN))) (DL.tSeq (DL.tFor (.tp [(.nm 3), (.nm 4)]) (aEnumA (cVar 1)) (DL.tSeq (tSet 5 (oV (cL (aLc (.tp [(.nm 6), (.nm 7)]) [6, 7] (aEnumA (cVar 1)) (tAnd (tB (c2 (eqO true) (cVar 6) (cVar 3))) (tAnd (tT (cCall F_path_tells (aC (cVar 7) (aC (cVar 4) aN)))) (tOr (tB (c2 (coO .Lt) (cVar 6) (cVar 3))) (tNot (tT (cCall F_path_tells (aC (cVar 4) (aC (cVar 7) aN)))))))) (cVar 7))))) (DL.tIf (tB (c2 (eqO false) (c1 lenO' (cVw 5)) (cC (.int 0)))) (tX (xApp 2 (xE (cVar 3)))) DL.tNil))) (tFrz 2 (DL.tRet (c1 tupO (cVw 2))))))) [.v ((eL (eL eS)) paths), .e, .e, .e, .e, .e, .e, .e] = .ret (.rt ((eT eI) (f_tellersL paths))) := by
  exact (z_seq (Δ1 := [.v ((eL (eL eS)) paths), .v ((eT (eT eS)) (id paths)), .e, .e, .e, .e, .e, .e]) (z_setO (o_v (d := (eT (eT eS)) (id paths)) (q_call (q_aC (q_var rfl) q_aN) (u_tupLL paths h.1)))) (b_tellersL_1 (id paths) h.2 (.v ((eL (eL eS)) paths))))
theorem t_tellersL (paths : (List (List Str))) (h : vc_tellersL paths) : F_tellers [(eL (eL eS)) paths] = .ret ((eT eI) (f_tellersL paths)) := by
  refine (runF_at [.v ((eL (eL eS)) paths), .e, .e, .e, .e, .e, .e, .e] rfl rfl).trans ?_
  unfold B_tellers
  rw [b_tellersL paths h]
  rfl

def f__law_above (row : (List Str)) (tag : Str) : Int := ((row.dropLast.filter fun y7 => (decide (y7 = tag))).length : Int)
def vc__law_above (row : (List Str)) (tag : Str) : Prop := ((row.dropLast.length ≤ lim))
theorem b__law_above (row : (List Str)) (tag : Str) (h : vc__law_above row tag)  : (DL.tRet (c1 lenO' (cL (aLc (.nm 2) [2] (aIt (c2 sl01 (cVw 0) (c1 negO (cC (.int 1))))) (tB (c2 (eqO false) (cVar 2) (cVar 1))) (cVar 2))))) [.v ((eT eS) row), .v (eS tag), .e] = .ret (.rt (eI (f__law_above row tag))) := by
  exact (z_ret (q_1 (q_cLL (q_lcid (q_lc (p := fun y7 => (decide (y7 = tag))) (v := fun y7 => y7) (g := eS) (q_itT (q_2 (q_vw rfl) (q_1 q_C o_negI) o_cutLastT)) h (fun y7 hy7 => ⟨_, rfl, (q_tB (q_2 (q_var rfl) (q_var rfl) o_eqS)), fun e0 => (q_var rfl)⟩)))) o_lenL))
theorem t__law_above (row : (List Str)) (tag : Str) (h : vc__law_above row tag) : F__law_above [(eT eS) row, eS tag] = .ret (eI (f__law_above row tag)) := by
  refine (runF_at [.v ((eT eS) row), .v (eS tag), .e] rfl rfl).trans ?_
  unfold B__law_above
  rw [b__law_above row tag h]
  rfl

def f__law_tells_2 (v0 : (List Str)) (v1 : (List Str)) (v3 : Int) : Bool := (decide (((f__law_above v1 (ixD v0 (-1 : Int))) + v3) ≤ (f__law_above v0 (ixD v0 (-1 : Int)))))
def vc__law_tells_2 (v0 : (List Str)) (v1 : (List Str)) (v3 : Int) : Prop := (((((atI v0 (-1 : Int)).isSome = true)) ∧ (vc__law_above v1 (ixD v0 (-1 : Int))))) ∧ ((((atI v0 (-1 : Int)).isSome = true)) ∧ (vc__law_above v0 (ixD v0 (-1 : Int))))
theorem b__law_tells_2 (v0 : (List Str)) (v1 : (List Str)) (v3 : Int) (h : vc__law_tells_2 v0 v1 v3) (j2 : Sl) : (DL.tRet (c2 (coO .LtE) (c2 addO (cCall F__law_above (aC (cVar 1) (aC (c2 ixO (cVw 0) (c1 negO (cC (.int 1)))) aN))) (cVar 3)) (cCall F__law_above (aC (cVar 0) (aC (c2 ixO (cVw 0) (c1 negO (cC (.int 1)))) aN))))) [.v ((eT eS) v0), .v ((eT eS) v1), j2, .v (eI v3), .e] = .ret (.rt (eB (f__law_tells_2 v0 v1 v3))) := by
  exact (z_ret (q_2 (q_2 (q_call (q_aC (q_var rfl) (q_aC (q_2 (q_vw rfl) (q_1 q_C o_negI) (o_ixTD h.1.1)) q_aN)) (t__law_above v1 (ixD v0 (-1 : Int)) h.1.2)) (q_var rfl) o_addI) (q_call (q_aC (q_var rfl) (q_aC (q_2 (q_vw rfl) (q_1 q_C o_negI) (o_ixTD h.2.1)) q_aN)) (t__law_above v0 (ixD v0 (-1 : Int)) h.2.2)) o_leI))
def f__law_tells_1 (v0 : (List Str)) (v1 : (List Str)) (v2 : (List Str)) : Bool := (if ((!decide ((ixD v1 (-1 : Int)) = (ixD v0 (-1 : Int)))) || (!decide ((v2.filter fun y9 => (!decide (y9 ∈ v0.dropLast))) = ([] : (List Str))))) = true then false else (f__law_tells_2 v0 v1 (v2.map fun y10 => (max (0 : Int) ((f__law_above v1 y10) - (f__law_above v0 y10)))).sum))
def vc__law_tells_1 (v0 : (List Str)) (v1 : (List Str)) (v2 : (List Str)) : Prop := (((((atI v1 (-1 : Int)).isSome = true)) ∧ (((atI v0 (-1 : Int)).isSome = true))) ∧ ((!decide ((ixD v1 (-1 : Int)) = (ixD v0 (-1 : Int)))) = false → ((v2.length ≤ lim)) ∧ ((∀ qa0 ∈ (v2.filter fun y9 => (!decide (y9 ∈ v0.dropLast))), PySem.PyData.strOk qa0 = true) ∧ (∀ qa0 ∈ ([] : (List Str)), PySem.PyData.strOk qa0 = true)))) ∧ (((!decide ((ixD v1 (-1 : Int)) = (ixD v0 (-1 : Int)))) || (!decide ((v2.filter fun y9 => (!decide (y9 ∈ v0.dropLast))) = ([] : (List Str))))) = false → (((v2.length ≤ lim) ∧ (∀ y10 ∈ v2, (((vc__law_above v1 y10)) ∧ ((vc__law_above v0 y10)))))) ∧ (vc__law_tells_2 v0 v1 (v2.map fun y10 => (max (0 : Int) ((f__law_above v1 y10) - (f__law_above v0 y10)))).sum))
theorem b__law_tells_1 (v0 : (List Str)) (v1 : (List Str)) (v2 : (List Str)) (h : vc__law_tells_1 v0 v1 v2)  : (DL.tSeq (DL.tIf (tOr (tB (c2 (eqO true) (c2 ixO (cVw 1) (c1 negO (cC (.int 1)))) (c2 ixO (cVw 0) (c1 negO (cC (.int 1)))))) (tB (c2 (eqO true) (cL (aLc (.nm 4) [4] (aIt (cVar 2)) (tB (c2 (inO true) (cVar 4) (c2 sl01 (cVw 0) (c1 negO (cC (.int 1)))))) (cVar 4))) (cL (aL aN))))) (DL.tRet (cC (.bl false))) DL.tNil) (DL.tSeq (tSet 3 (oV (c1 sumO (cL (aLc (.nm 4) [4] (aIt (cVar 2)) DL.tYes (c2 maxO (cC (.int 0)) (c2 subO (cCall F__law_above (aC (cVar 1) (aC (cVar 4) aN))) (cCall F__law_above (aC (cVar 0) (aC (cVar 4) aN)))))))))) (DL.tRet (c2 (coO .LtE) (c2 addO (cCall F__law_above (aC (cVar 1) (aC (c2 ixO (cVw 0) (c1 negO (cC (.int 1)))) aN))) (cVar 3)) (cCall F__law_above (aC (cVar 0) (aC (c2 ixO (cVw 0) (c1 negO (cC (.int 1)))) aN))))))) [.v ((eT eS) v0), .v ((eT eS) v1), .v ((eL eS) v2), .e, .e] = .ret (.rt (eB (f__law_tells_1 v0 v1 v2))) := by
  exact (z_ifre (f := eB) (x := false) (y := (f__law_tells_2 v0 v1 (v2.map fun y10 => (max (0 : Int) ((f__law_above v1 y10) - (f__law_above v0 y10)))).sum)) (b := ((!decide ((ixD v1 (-1 : Int)) = (ixD v0 (-1 : Int)))) || (!decide ((v2.filter fun y9 => (!decide (y9 ∈ v0.dropLast))) = ([] : (List Str)))))) (q_tOr (b := (!decide ((ixD v1 (-1 : Int)) = (ixD v0 (-1 : Int))))) (c := (!decide ((v2.filter fun y9 => (!decide (y9 ∈ v0.dropLast))) = ([] : (List Str))))) (q_tB (q_2 (q_2 (q_vw rfl) (q_1 q_C o_negI) (o_ixTD h.1.1.1)) (q_2 (q_vw rfl) (q_1 q_C o_negI) (o_ixTD h.1.1.2)) o_neS)) (fun e0 => (q_tB (q_2 (q_cLL (q_lcid (q_lc (p := fun y9 => (!decide (y9 ∈ v0.dropLast))) (v := fun y9 => y9) (g := eS) (q_itL (q_var rfl)) (h.1.2 e0).1 (fun y9 hy9 => ⟨_, rfl, (q_tB (q_2 (q_var rfl) (q_2 (q_vw rfl) (q_1 q_C o_negI) o_cutLastT) o_ninST)), fun e1 => (q_var rfl)⟩)))) (q_cLL (q_aL q_aN)) ((EqE.at_ne (eqeL eqeS)) (h.1.2 e0).2))))) (fun e0 => (z_ret q_C)) (fun e0 => (z_seq (Δ1 := [.v ((eT eS) v0), .v ((eT eS) v1), .v ((eL eS) v2), .v (eI (v2.map fun y10 => (max (0 : Int) ((f__law_above v1 y10) - (f__law_above v0 y10)))).sum), .e]) (z_setO (o_v (d := eI (v2.map fun y10 => (max (0 : Int) ((f__law_above v1 y10) - (f__law_above v0 y10)))).sum) (q_1 (q_cLL (q_lc0 (v := fun y10 => (max (0 : Int) ((f__law_above v1 y10) - (f__law_above v0 y10)))) (g := eI) (q_itL (q_var rfl)) (h.2 e0).1.1 (fun y10 hy10 => ⟨_, rfl, (q_2 q_C (q_2 (q_call (q_aC (q_var rfl) (q_aC (q_var rfl) q_aN)) (t__law_above v1 y10 ((h.2 e0).1.2 y10 hy10).1)) (q_call (q_aC (q_var rfl) (q_aC (q_var rfl) q_aN)) (t__law_above v0 y10 ((h.2 e0).1.2 y10 hy10).2)) o_subI) o_maxI)⟩))) o_sum))) (b__law_tells_2 v0 v1 (v2.map fun y10 => (max (0 : Int) ((f__law_above v1 y10) - (f__law_above v0 y10)))).sum (h.2 e0).2 (.v ((eL eS) v2))))))
def f__law_tells (row : (List Str)) (far : (List Str)) : Bool := (f__law_tells_1 row far (ss (far.dropLast.filter fun y8 => (!decide (y8 = (ixD row (-1 : Int)))))))
def vc__law_tells (row : (List Str)) (far : (List Str)) : Prop := (((far.dropLast.length ≤ lim) ∧ (∀ y8 ∈ far.dropLast, ((((atI row (-1 : Int)).isSome = true))))) ∧ ((far.dropLast.filter fun y8 => (!decide (y8 = (ixD row (-1 : Int))))).length < 4000)) ∧ (vc__law_tells_1 row far (ss (far.dropLast.filter fun y8 => (!decide (y8 = (ixD row (-1 : Int)))))))
theorem b__law_tells (row : (List Str)) (far : (List Str)) (h : vc__law_tells row far)  : (DL.tSeq (tSet 2 (oV (cL (aSoSet (cL (aLc (.nm 4) [4] (aIt (c2 sl01 (cVw 1) (c1 negO (cC (.int 1))))) (tB (c2 (eqO true) (cVar 4) (c2 ixO (cVw 0) (c1 negO (cC (.int 1)))))) (cVar 4))))))) (DL.tSeq (DL.tIf (tOr (tB (c2 (eqO true) (c2 ixO (cVw 1) (c1 negO (cC (.int 1)))) (c2 ixO (cVw 0) (c1 negO (cC (.int 1)))))) (tB (c2 (eqO true) (cL (aLc (.nm 4) [4] (aIt (cVar 2)) (tB (c2 (inO true) (cVar 4) (c2 sl01 (cVw 0) (c1 negO (cC (.int 1)))))) (cVar 4))) (cL (aL aN))))) (DL.tRet (cC (.bl false))) DL.tNil) (DL.tSeq (tSet 3 (oV (c1 sumO (cL (aLc (.nm 4) [4] (aIt (cVar 2)) DL.tYes (c2 maxO (cC (.int 0)) (c2 subO (cCall F__law_above (aC (cVar 1) (aC (cVar 4) aN))) (cCall F__law_above (aC (cVar 0) (aC (cVar 4) aN)))))))))) (DL.tRet (c2 (coO .LtE) (c2 addO (cCall F__law_above (aC (cVar 1) (aC (c2 ixO (cVw 0) (c1 negO (cC (.int 1)))) aN))) (cVar 3)) (cCall F__law_above (aC (cVar 0) (aC (c2 ixO (cVw 0) (c1 negO (cC (.int 1)))) aN)))))))) [.v ((eT eS) row), .v ((eT eS) far), .e, .e, .e] = .ret (.rt (eB (f__law_tells row far))) := by
  exact (z_seq (Δ1 := [.v ((eT eS) row), .v ((eT eS) far), .v ((eL eS) (ss (far.dropLast.filter fun y8 => (!decide (y8 = (ixD row (-1 : Int))))))), .e, .e]) (z_setO (o_v (d := (eL eS) (ss (far.dropLast.filter fun y8 => (!decide (y8 = (ixD row (-1 : Int))))))) (q_cLL (q_ssL (q_cLL (q_lcid (q_lc (p := fun y8 => (!decide (y8 = (ixD row (-1 : Int))))) (v := fun y8 => y8) (g := eS) (q_itT (q_2 (q_vw rfl) (q_1 q_C o_negI) o_cutLastT)) h.1.1.1 (fun y8 hy8 => ⟨_, rfl, (q_tB (q_2 (q_var rfl) (q_2 (q_vw rfl) (q_1 q_C o_negI) (o_ixTD (h.1.1.2 y8 hy8))) o_neS)), fun e0 => (q_var rfl)⟩)))) h.1.2)))) (b__law_tells_1 row far (ss (far.dropLast.filter fun y8 => (!decide (y8 = (ixD row (-1 : Int)))))) h.2 ))
theorem t__law_tells (row : (List Str)) (far : (List Str)) (h : vc__law_tells row far) : F__law_tells [(eT eS) row, (eT eS) far] = .ret (eB (f__law_tells row far)) := by
  refine (runF_at [.v ((eT eS) row), .v ((eT eS) far), .e, .e, .e] rfl rfl).trans ?_
  unfold B__law_tells
  rw [b__law_tells row far h]
  rfl

def f__law_due_2 (v0 : (List (List Str))) (z : (List Int)) (x : (Int × (List Str))) : (List Int) := (if (decide ((((rngI 0 (v0.length : Int).toNat).filter fun y11 => ((!decide (y11 = x.1)) && (f__law_tells (ixD v0 y11) x.2))).filter fun y12 => ((decide (y12 < x.1)) || (!(f__law_tells x.2 (ixD v0 y12))))) = ([] : (List Int)))) = true then (z ++ [x.1]) else z)
def vc__law_due_2 (v0 : (List (List Str))) (z : (List Int)) (x : (Int × (List Str))) : Prop := (((inR (v0.length : Int) = true)) ∧ ((rngI 0 (v0.length : Int).toNat).length ≤ lim) ∧ (∀ y11 ∈ (rngI 0 (v0.length : Int).toNat), (((!decide (y11 = x.1)) = true → (((atI v0 y11).isSome = true)) ∧ (vc__law_tells (ixD v0 y11) x.2))))) ∧ ((((((rngI 0 (v0.length : Int).toNat).filter fun y11 => ((!decide (y11 = x.1)) && (f__law_tells (ixD v0 y11) x.2))).length ≤ lim) ∧ (∀ y12 ∈ ((rngI 0 (v0.length : Int).toNat).filter fun y11 => ((!decide (y11 = x.1)) && (f__law_tells (ixD v0 y11) x.2))), (((decide (y12 < x.1)) = false → (((atI v0 y12).isSome = true)) ∧ (vc__law_tells x.2 (ixD v0 y12)))))) ∧ ((∀ qa0 ∈ (((rngI 0 (v0.length : Int).toNat).filter fun y11 => ((!decide (y11 = x.1)) && (f__law_tells (ixD v0 y11) x.2))).filter fun y12 => ((decide (y12 < x.1)) || (!(f__law_tells x.2 (ixD v0 y12))))), True) ∧ (∀ qa0 ∈ ([] : (List Int)), True))) ∧ ((decide ((((rngI 0 (v0.length : Int).toNat).filter fun y11 => ((!decide (y11 = x.1)) && (f__law_tells (ixD v0 y11) x.2))).filter fun y12 => ((decide (y12 < x.1)) || (!(f__law_tells x.2 (ixD v0 y12))))) = ([] : (List Int)))) = true → (z.length < lim)))
theorem b__law_due_2 (v0 : (List (List Str)))  (xs : List (Int × (List Str))) (z : (List Int)) (Δ : List Sl) (hI : (fun z Δ => ∃ w2 w3 w4 : Sl, Δ = [.v ((eL (eT eS)) v0), .o (.lst (z.map eI)), w2, w3, w4, .e]) z Δ) (h : ∀ (j : Nat) (x : (Int × (List Str))), xs[j]? = some x → vc__law_due_2 v0 ((xs.take j).foldl (f__law_due_2 v0) z) x) : ∃ Δ', forP (.tp [(.nm 2), (.nm 3)]) (DL.tSeq (tSet 4 (oV (cL (aLc (.nm 5) [5] (aRg1 (c1 lenO' (cVw 0))) (tAnd (tB (c2 (eqO true) (cVar 5) (cVar 2))) (tT (cCall F__law_tells (aC (c2 ixO (cVw 0) (cVar 5)) (aC (cVar 3) aN))))) (cVar 5))))) (DL.tIf (tB (c2 (eqO false) (cL (aLc (.nm 5) [5] (aIt (cVar 4)) (tOr (tB (c2 (coO .Lt) (cVar 5) (cVar 2))) (tNot (tT (cCall F__law_tells (aC (cVar 3) (aC (c2 ixO (cVw 0) (cVar 5)) aN)))))) (cVar 5))) (cL (aL aN)))) (tX (xApp 1 (xE (cVar 2)))) DL.tNil)) (xs.map (e2 eI (eT eS))) Δ = .ret (.nx Δ') ∧ (fun z Δ => ∃ w2 w3 w4 : Sl, Δ = [.v ((eL (eT eS)) v0), .o (.lst (z.map eI)), w2, w3, w4, .e]) (xs.foldl (f__law_due_2 v0) z) Δ' := by
  refine z_for (I := (fun z Δ => ∃ w2 w3 w4 : Sl, Δ = [.v ((eL (eT eS)) v0), .o (.lst (z.map eI)), w2, w3, w4, .e])) (step := f__law_due_2 v0) (ok := fun z x => vc__law_due_2 v0 z x) ?_ xs z Δ hI h
  rintro z x Δ ⟨w2, w3, w4, rfl⟩ h
  refine ⟨[.v ((eL (eT eS)) v0), .o (.lst ((if (decide ((((rngI 0 (v0.length : Int).toNat).filter fun y11 => ((!decide (y11 = x.1)) && (f__law_tells (ixD v0 y11) x.2))).filter fun y12 => ((decide (y12 < x.1)) || (!(f__law_tells x.2 (ixD v0 y12))))) = ([] : (List Int)))) = true then (z ++ [x.1]) else z).map eI)), .v (eI x.1), .v ((eT eS) x.2), .v ((eL eI) ((rngI 0 (v0.length : Int).toNat).filter fun y11 => ((!decide (y11 = x.1)) && (f__law_tells (ixD v0 y11) x.2)))), .e], .inl ?_, ?_⟩
  · show (DL.tSeq (tSet 4 (oV (cL (aLc (.nm 5) [5] (aRg1 (c1 lenO' (cVw 0))) (tAnd (tB (c2 (eqO true) (cVar 5) (cVar 2))) (tT (cCall F__law_tells (aC (c2 ixO (cVw 0) (cVar 5)) (aC (cVar 3) aN))))) (cVar 5))))) (DL.tIf (tB (c2 (eqO false) (cL (aLc (.nm 5) [5] (aIt (cVar 4)) (tOr (tB (c2 (coO .Lt) (cVar 5) (cVar 2))) (tNot (tT (cCall F__law_tells (aC (cVar 3) (aC (c2 ixO (cVw 0) (cVar 5)) aN)))))) (cVar 5))) (cL (aL aN)))) (tX (xApp 1 (xE (cVar 2)))) DL.tNil)) [.v ((eL (eT eS)) v0), .o (.lst (z.map eI)), .v (eI x.1), .v ((eT eS) x.2), w4, .e] = _
    exact (z_seq (Δ1 := [.v ((eL (eT eS)) v0), .o (.lst (z.map eI)), .v (eI x.1), .v ((eT eS) x.2), .v ((eL eI) ((rngI 0 (v0.length : Int).toNat).filter fun y11 => ((!decide (y11 = x.1)) && (f__law_tells (ixD v0 y11) x.2)))), .e]) (z_setO (o_v (d := (eL eI) ((rngI 0 (v0.length : Int).toNat).filter fun y11 => ((!decide (y11 = x.1)) && (f__law_tells (ixD v0 y11) x.2)))) (q_cLL (q_lcid (q_lc (p := fun y11 => ((!decide (y11 = x.1)) && (f__law_tells (ixD v0 y11) x.2))) (v := fun y11 => y11) (g := eI) (q_rg1 (q_1 (q_vw rfl) o_lenL) h.1.1) h.1.2.1 (fun y11 hy11 => ⟨_, rfl, (q_tAnd (b := (!decide (y11 = x.1))) (c := (f__law_tells (ixD v0 y11) x.2)) (q_tB (q_2 (q_var rfl) (q_var rfl) o_neI)) (fun e0 => (q_tT (q_call (q_aC (q_2 (q_vw rfl) (q_var rfl) (o_ixLD ((h.1.2.2 y11 hy11) e0).1)) (q_aC (q_var rfl) q_aN)) (t__law_tells (ixD v0 y11) x.2 ((h.1.2.2 y11 hy11) e0).2)) o_truB))), fun e0 => (q_var rfl)⟩)))))) (z_ifn (b := (decide ((((rngI 0 (v0.length : Int).toNat).filter fun y11 => ((!decide (y11 = x.1)) && (f__law_tells (ixD v0 y11) x.2))).filter fun y12 => ((decide (y12 < x.1)) || (!(f__law_tells x.2 (ixD v0 y12))))) = ([] : (List Int))))) (fun bb => [.v ((eL (eT eS)) v0), .o (.lst ((if bb = true then (z ++ [x.1]) else z).map eI)), .v (eI x.1), .v ((eT eS) x.2), .v ((eL eI) ((rngI 0 (v0.length : Int).toNat).filter fun y11 => ((!decide (y11 = x.1)) && (f__law_tells (ixD v0 y11) x.2)))), .e]) (q_tB (q_2 (q_cLL (q_lcid (q_lc (p := fun y12 => ((decide (y12 < x.1)) || (!(f__law_tells x.2 (ixD v0 y12))))) (v := fun y12 => y12) (g := eI) (q_itL (q_var rfl)) h.2.1.1.1 (fun y12 hy12 => ⟨_, rfl, (q_tOr (b := (decide (y12 < x.1))) (c := (!(f__law_tells x.2 (ixD v0 y12)))) (q_tB (q_2 (q_var rfl) (q_var rfl) o_ltI)) (fun e0 => (q_tNot (q_tT (q_call (q_aC (q_var rfl) (q_aC (q_2 (q_vw rfl) (q_var rfl) (o_ixLD ((h.2.1.1.2 y12 hy12) e0).1)) q_aN)) (t__law_tells x.2 (ixD v0 y12) ((h.2.1.1.2 y12 hy12) e0).2)) o_truB)))), fun e0 => (q_var rfl)⟩)))) (q_cLL (q_aL q_aN)) ((EqE.at_eq (eqeL eqeI)) h.2.1.2))) (fun e0 => (z_appL (f := eI) (xs := z) (x := x.1) rfl (q_var rfl) (h.2.2 e0))) (fun e0 => z_nil)))
  · unfold f__law_due_2
    exact ⟨(.v (eI x.1)), (.v ((eT eS) x.2)), (.v ((eL eI) ((rngI 0 (v0.length : Int).toNat).filter fun y11 => ((!decide (y11 = x.1)) && (f__law_tells (ixD v0 y11) x.2))))), rfl⟩
def f__law_due_3 (v1 : (List Int)) : (List Int) := v1
theorem b__law_due_3 (v1 : (List Int)) (j0 : Sl) (j2 : Sl) (j3 : Sl) (j4 : Sl) : (tFrz 1 (DL.tRet (c1 tupO (cVw 1)))) [j0, .o (.lst (v1.map eI)), j2, j3, j4, .e] = .ret (.rt ((eT eI) (f__law_due_3 v1))) := by
  exact (z_frz (Δ1 := [j0, .v ((eL eI) v1), j2, j3, j4, .e]) rfl (z_ret (q_1 (q_vw rfl) o_tupL)))
def f__law_due_1 (v0 : (List (List Str))) (v1 : (List Int)) : (List Int) := (f__law_due_3 ((enumL v0).foldl (f__law_due_2 v0) v1))
def vc__law_due_1 (v0 : (List (List Str))) (v1 : (List Int)) : Prop := ((∀ (j : Nat) (x : (Int × (List Str))), (enumL v0)[j]? = some x → vc__law_due_2 v0 (((enumL v0).take j).foldl (f__law_due_2 v0) v1) x))
theorem b__law_due_1 (v0 : (List (List Str))) (v1 : (List Int)) (h : vc__law_due_1 v0 v1)  : (DL.tSeq (DL.tFor (.tp [(.nm 2), (.nm 3)]) (aEnumA (cVar 0)) (DL.tSeq (tSet 4 (oV (cL (aLc (.nm 5) [5] (aRg1 (c1 lenO' (cVw 0))) (tAnd (tB (c2 (eqO true) (cVar 5) (cVar 2))) (tT (cCall F__law_tells (aC (c2 ixO (cVw 0) (cVar 5)) (aC (cVar 3) aN))))) (cVar 5))))) (DL.tIf (tB (c2 (eqO false) (cL (aLc (.nm 5) [5] (aIt (cVar 4)) (tOr (tB (c2 (coO .Lt) (cVar 5) (cVar 2))) (tNot (tT (cCall F__law_tells (aC (cVar 3) (aC (c2 ixO (cVw 0) (cVar 5)) aN)))))) (cVar 5))) (cL (aL aN)))) (tX (xApp 1 (xE (cVar 2)))) DL.tNil))) (tFrz 1 (DL.tRet (c1 tupO (cVw 1))))) [.v ((eL (eT eS)) v0), .o (.lst (v1.map eI)), .e, .e, .e, .e] = .ret (.rt ((eT eI) (f__law_due_1 v0 v1))) := by
  exact (z_seqJ (z_loop (q_enumL (q_var rfl)) (b__law_due_2 v0  (enumL v0) v1 [.v ((eL (eT eS)) v0), .o (.lst (v1.map eI)), .e, .e, .e, .e] ⟨(.e), (.e), (.e), rfl⟩ h)) (fun Δ1 hΔ => (by
    obtain ⟨w2, w3, w4, rfl⟩ := hΔ
    exact b__law_due_3 ((enumL v0).foldl (f__law_due_2 v0) v1)  (.v ((eL (eT eS)) v0)) (w2) (w3) (w4))))
def f__law_due (rows : (List (List Str))) : (List Int) := (f__law_due_1 rows ([] : (List Int)))
def vc__law_due (rows : (List (List Str))) : Prop := (vc__law_due_1 rows ([] : (List Int)))
theorem b__law_due (rows : (List (List Str))) (h : vc__law_due rows)  : (DL.tSeq (tSet 1 (oL (aL aN))) (DL.tSeq (DL.tFor (.tp [(.nm 2), (.nm 3)]) (aEnumA (cVar 0)) (DL.tSeq (tSet 4 (oV (cL (aLc (.nm 5) [5] (aRg1 (c1 lenO' (cVw 0))) (tAnd (tB (c2 (eqO true) (cVar 5) (cVar 2))) (tT (cCall F__law_tells (aC (c2 ixO (cVw 0) (cVar 5)) (aC (cVar 3) aN))))) (cVar 5))))) (DL.tIf (tB (c2 (eqO false) (cL (aLc (.nm 5) [5] (aIt (cVar 4)) (tOr (tB (c2 (coO .Lt) (cVar 5) (cVar 2))) (tNot (tT (cCall F__law_tells (aC (cVar 3) (aC (c2 ixO (cVw 0) (cVar 5)) aN)))))) (cVar 5))) (cL (aL aN)))) (tX (xApp 1 (xE (cVar 2)))) DL.tNil))) (tFrz 1 (DL.tRet (c1 tupO (cVw 1)))))) [.v ((eL (eT eS)) rows), .e, .e, .e, .e, .e] = .ret (.rt ((eT eI) (f__law_due rows))) := by
  exact (z_seq (Δ1 := [.v ((eL (eT eS)) rows), .o (.lst (([] : (List Int)).map eI)), .e, .e, .e, .e]) (z_setO (o_l (ds := (([] : (List Int))).map eI) (q_aL q_aN))) (b__law_due_1 rows ([] : (List Int)) h ))
theorem t__law_due (rows : (List (List Str))) (h : vc__law_due rows) : F__law_due [(eL (eT eS)) rows] = .ret ((eT eI) (f__law_due rows)) := by
  refine (runF_at [.v ((eL (eT eS)) rows), .e, .e, .e, .e, .e] rfl rfl).trans ?_
  unfold B__law_due
  rw [b__law_due rows h]
  rfl

noncomputable def f__law_of (u : Unit) (some : (List Str)) : Pg Str := ((drawI u (some.length : Int)).bind fun b13 => (asr (((atI some b13).isSome = true)) (.ret (ixD some b13))))
theorem t__law_of (u : Unit) (some : (List Str)) : Ref ((f__law_of u some).bind fun a => .ret (eS a)) (F__law_of [eU u, (eL eS) some]) := by
  refine m_run (S := B__law_of) [.v (eU u), .w ((eL eS) some)] rfl rfl ?_
  exact (show Ref _ ((DL.tRet (c2 ixO (cVw 1) (cCall takeP (aC (cVar 0) (aC (c1 lenO' (cVw 1)) aN))))) [.v (eU u), .w ((eL eS) some)]) from m_reify (m_retG (m_sub (C := fun a => (c2 ixO a (cCall takeP (aC (cVar 0) (aC (c1 lenO' (cVw 1)) aN))))) hC_c2_0 (m_pure (q_vww rfl) (m_sub (C := fun a => (c2 ixO (fun _ => .ret ((eL eS) some)) a)) hC_c2_1 (m_callA (m_aC (m_pure (q_var rfl) (m_aC (m_pure (q_1 (q_vww rfl) o_lenL) (m_aN (m_app (f := eI) (r_take u (some.length : Int)) (fun b13 => (m_asr (fun h14 => (m_pure (q_2 rfl rfl (o_ixLD h14)) (m_end Ref.refl)))))))))))))))))

noncomputable def f__law_ofP (u : Unit) (some : (List (List Str))) : Pg (List Str) := ((drawI u (some.length : Int)).bind fun b15 => (asr (((atI some b15).isSome = true)) (.ret (ixD some b15))))
theorem t__law_ofP (u : Unit) (some : (List (List Str))) : Ref ((f__law_ofP u some).bind fun a => .ret ((eT eS) a)) (F__law_of [eU u, (eL (eT eS)) some]) := by
  refine m_run (S := B__law_of) [.v (eU u), .w ((eL (eT eS)) some)] rfl rfl ?_
  exact (show Ref _ ((DL.tRet (c2 ixO (cVw 1) (cCall takeP (aC (cVar 0) (aC (c1 lenO' (cVw 1)) aN))))) [.v (eU u), .w ((eL (eT eS)) some)]) from m_reify (m_retG (m_sub (C := fun a => (c2 ixO a (cCall takeP (aC (cVar 0) (aC (c1 lenO' (cVw 1)) aN))))) hC_c2_0 (m_pure (q_vww rfl) (m_sub (C := fun a => (c2 ixO (fun _ => .ret ((eL (eT eS)) some)) a)) hC_c2_1 (m_callA (m_aC (m_pure (q_var rfl) (m_aC (m_pure (q_1 (q_vww rfl) o_lenL) (m_aN (m_app (f := eI) (r_take u (some.length : Int)) (fun b15 => (m_asr (fun h16 => (m_pure (q_2 rfl rfl (o_ixLD h16)) (m_end Ref.refl)))))))))))))))))

noncomputable def f__law_pick_2 (v0 : Unit) (z : ((List Str) × (List Str))) (x : Int) : Pg (((List Str) × (List Str)) ⊕ (List Str)) := ((drawI v0 (z.1.length : Int)).bind fun b17 => (asr (0 ≤ b17 ∧ b17 < (z.1.length : Int) ∧ inR b17 = true ∧ z.2.length < lim) (.ret (.inl ((z.1.eraseIdx b17.toNat), (z.2 ++ [ixD z.1 b17]))))))
theorem b__law_pick_2 (v0 : Unit) (k1 : Sl) (k2 : Sl) : ∀ z x Δ, (fun (z : ((List Str) × (List Str))) Δ => ∃ w5 : Sl, Δ = [.v (eU v0), k1, k2, .o (.lst (z.1.map eS)), .o (.lst (z.2.map eS)), w5]) z Δ → RefJ (fun (z : ((List Str) × (List Str))) Δ => ∃ w5 : Sl, Δ = [.v (eU v0), k1, k2, .o (.lst (z.1.map eS)), .o (.lst (z.2.map eS)), w5]) (eL eS) (f__law_pick_2 v0 z x) ((ofO (tgS (.nm 5) (eI x) Δ)).bind (tX (xApp 4 (xPop 3 (cCall takeP (aC (cVar 0) (aC (c1 lenO' (cVw 3)) aN))))))) := by
  rintro z x Δ ⟨w5, rfl⟩ ρ R G hn hc hr
  exact (show Ref _ (((tX (xApp 4 (xPop 3 (cCall takeP (aC (cVar 0) (aC (c1 lenO' (cVw 3)) aN)))))) [.v (eU v0), k1, k2, .o (.lst (z.1.map eS)), .o (.lst (z.2.map eS)), .v (eI x)]).bind G) from (m_apop (f := eS) (xs := z.1) (ys := z.2) rfl rfl (by decide) (m_callA (m_aC (m_pure (q_var rfl) (m_aC (m_pure (q_1 (q_voL rfl) o_lenL) (m_aN (m_app (f := eI) (r_take v0 (z.1.length : Int)) (fun b17 => (m_asr (fun h18 => (m_apopV (f := eS) (xs := z.1) (ys := z.2) (v := b17) rfl rfl (by decide) h18 (m_end (hn ((z.1.eraseIdx b17.toNat), (z.2 ++ [ixD z.1 b17])) _ ⟨(.v (eI x)), rfl⟩)))))))))))))))
noncomputable def f__law_pick_3 (s4 : (List Str)) : Pg (List Str) := (.ret s4)
theorem b__law_pick_3 (s4 : (List Str)) (j0 : Sl) (j1 : Sl) (j2 : Sl) (j3 : Sl) (j5 : Sl) : Ref ((f__law_pick_3 s4).bind fun a => .ret (.rt ((eL eS) a))) ((tRetO 4) [j0, j1, j2, j3, .o (.lst (s4.map eS)), j5]) := m_reify (m_retO rfl (m_end Ref.refl))
noncomputable def f__law_pick_1 (s0 : Unit) (s2 : Int) (s3 : (List Str)) (s4 : (List Str)) : Pg (List Str) := (asr ((inR (min s2 (s3.length : Int)) = true)) ((loopM (f__law_pick_2 s0) (rngI 0 (min s2 (s3.length : Int)).toNat) (s3, s4)).bind fun r => match r with | .inl z19 => (f__law_pick_3 z19.2) | .inr t21 => (.ret t21)))
theorem b__law_pick_1 (s0 : Unit) (s2 : Int) (s3 : (List Str)) (s4 : (List Str)) (j1 : Sl) : Ref ((f__law_pick_1 s0 s2 s3 s4).bind fun a => .ret (.rt ((eL eS) a))) ((DL.tSeq (DL.tFor (.nm 5) (aRg1 (c2 minO (cVar 2) (c1 lenO' (cVw 3)))) (tX (xApp 4 (xPop 3 (cCall takeP (aC (cVar 0) (aC (c1 lenO' (cVw 3)) aN))))))) (tRetO 4)) [.v (eU s0), j1, .v (eI s2), .o (.lst (s3.map eS)), .o (.lst (s4.map eS)), .e]) := m_reify (m_seqG (m_for (m_asr (fun h22 => (m_pure (q_rg1 (q_2 (q_var rfl) (q_1 (q_voL rfl) o_lenL) o_minI) h22) (m_loop (b__law_pick_2 s0 (j1) (.v (eI s2))) ⟨(.e), rfl⟩ (fun z19 Δ' hI => (by obtain ⟨j20, rfl⟩ := hI; exact (m_go (m_stage (b__law_pick_3 z19.2 (.v (eU s0)) (j1) (.v (eI s2)) (.o (.lst (z19.1.map eS))) (j20)))))) (fun t21 => (m_goR (m_end Ref.refl)))))))))
noncomputable def f__law_pick (u : Unit) (pool : (List Str)) (many : Int) : Pg (List Str) := (f__law_pick_1 u many pool ([] : (List Str)))
theorem t__law_pick (u : Unit) (pool : (List Str)) (many : Int) : Ref ((f__law_pick u pool many).bind fun a => .ret ((eL eS) a)) (F__law_pick [eU u, (eL eS) pool, eI many]) := by
  refine m_run (S := B__law_pick) [.v (eU u), .v ((eL eS) pool), .v (eI many), .e, .e, .e] rfl rfl ?_
  exact (show Ref _ ((DL.tSeq (tPar 3 4 (oL (aList (cVw 1))) (oL (aL aN))) (DL.tSeq (DL.tFor (.nm 5) (aRg1 (c2 minO (cVar 2) (c1 lenO' (cVw 3)))) (tX (xApp 4 (xPop 3 (cCall takeP (aC (cVar 0) (aC (c1 lenO' (cVw 3)) aN))))))) (tRetO 4))) [.v (eU u), .v ((eL eS) pool), .v (eI many), .e, .e, .e]) from m_reify (m_seqG (m_nxP (z_par2 (Δ1 := [.v (eU u), .v ((eL eS) pool), .v (eI many), .o (.lst (pool.map eS)), .o (.lst (([] : (List Str)).map eS)), .e]) (o_l (ds := (pool).map eS) (q_listL (q_vw rfl))) (o_l (ds := (([] : (List Str))).map eS) (q_aL q_aN))) (m_go (m_stage (b__law_pick_1 u many pool ([] : (List Str)) (.v ((eL eS) pool))))))))

noncomputable def f__law_pickT_2 (v0 : Unit) (z : ((List Str) × (List Str))) (x : Int) : Pg (((List Str) × (List Str)) ⊕ (List Str)) := ((drawI v0 (z.1.length : Int)).bind fun b23 => (asr (0 ≤ b23 ∧ b23 < (z.1.length : Int) ∧ inR b23 = true ∧ z.2.length < lim) (.ret (.inl ((z.1.eraseIdx b23.toNat), (z.2 ++ [ixD z.1 b23]))))))
theorem b__law_pickT_2 (v0 : Unit) (k1 : Sl) (k2 : Sl) : ∀ z x Δ, (fun (z : ((List Str) × (List Str))) Δ => ∃ w5 : Sl, Δ = [.v (eU v0), k1, k2, .o (.lst (z.1.map eS)), .o (.lst (z.2.map eS)), w5]) z Δ → RefJ (fun (z : ((List Str) × (List Str))) Δ => ∃ w5 : Sl, Δ = [.v (eU v0), k1, k2, .o (.lst (z.1.map eS)), .o (.lst (z.2.map eS)), w5]) (eL eS) (f__law_pickT_2 v0 z x) ((ofO (tgS (.nm 5) (eI x) Δ)).bind (tX (xApp 4 (xPop 3 (cCall takeP (aC (cVar 0) (aC (c1 lenO' (cVw 3)) aN))))))) := by
  rintro z x Δ ⟨w5, rfl⟩ ρ R G hn hc hr
  exact (show Ref _ (((tX (xApp 4 (xPop 3 (cCall takeP (aC (cVar 0) (aC (c1 lenO' (cVw 3)) aN)))))) [.v (eU v0), k1, k2, .o (.lst (z.1.map eS)), .o (.lst (z.2.map eS)), .v (eI x)]).bind G) from (m_apop (f := eS) (xs := z.1) (ys := z.2) rfl rfl (by decide) (m_callA (m_aC (m_pure (q_var rfl) (m_aC (m_pure (q_1 (q_voL rfl) o_lenL) (m_aN (m_app (f := eI) (r_take v0 (z.1.length : Int)) (fun b23 => (m_asr (fun h24 => (m_apopV (f := eS) (xs := z.1) (ys := z.2) (v := b23) rfl rfl (by decide) h24 (m_end (hn ((z.1.eraseIdx b23.toNat), (z.2 ++ [ixD z.1 b23])) _ ⟨(.v (eI x)), rfl⟩)))))))))))))))
noncomputable def f__law_pickT_3 (s4 : (List Str)) : Pg (List Str) := (.ret s4)
theorem b__law_pickT_3 (s4 : (List Str)) (j0 : Sl) (j1 : Sl) (j2 : Sl) (j3 : Sl) (j5 : Sl) : Ref ((f__law_pickT_3 s4).bind fun a => .ret (.rt ((eL eS) a))) ((tRetO 4) [j0, j1, j2, j3, .o (.lst (s4.map eS)), j5]) := m_reify (m_retO rfl (m_end Ref.refl))
noncomputable def f__law_pickT_1 (s0 : Unit) (s2 : Int) (s3 : (List Str)) (s4 : (List Str)) : Pg (List Str) := (asr ((inR (min s2 (s3.length : Int)) = true)) ((loopM (f__law_pickT_2 s0) (rngI 0 (min s2 (s3.length : Int)).toNat) (s3, s4)).bind fun r => match r with | .inl z25 => (f__law_pickT_3 z25.2) | .inr t27 => (.ret t27)))
theorem b__law_pickT_1 (s0 : Unit) (s2 : Int) (s3 : (List Str)) (s4 : (List Str)) (j1 : Sl) : Ref ((f__law_pickT_1 s0 s2 s3 s4).bind fun a => .ret (.rt ((eL eS) a))) ((DL.tSeq (DL.tFor (.nm 5) (aRg1 (c2 minO (cVar 2) (c1 lenO' (cVw 3)))) (tX (xApp 4 (xPop 3 (cCall takeP (aC (cVar 0) (aC (c1 lenO' (cVw 3)) aN))))))) (tRetO 4)) [.v (eU s0), j1, .v (eI s2), .o (.lst (s3.map eS)), .o (.lst (s4.map eS)), .e]) := m_reify (m_seqG (m_for (m_asr (fun h28 => (m_pure (q_rg1 (q_2 (q_var rfl) (q_1 (q_voL rfl) o_lenL) o_minI) h28) (m_loop (b__law_pickT_2 s0 (j1) (.v (eI s2))) ⟨(.e), rfl⟩ (fun z25 Δ' hI => (by obtain ⟨j26, rfl⟩ := hI; exact (m_go (m_stage (b__law_pickT_3 z25.2 (.v (eU s0)) (j1) (.v (eI s2)) (.o (.lst (z25.1.map eS))) (j26)))))) (fun t27 => (m_goR (m_end Ref.refl)))))))))
noncomputable def f__law_pickT (u : Unit) (pool : (List Str)) (many : Int) : Pg (List Str) := (f__law_pickT_1 u many pool ([] : (List Str)))
theorem t__law_pickT (u : Unit) (pool : (List Str)) (many : Int) : Ref ((f__law_pickT u pool many).bind fun a => .ret ((eL eS) a)) (F__law_pick [eU u, (eT eS) pool, eI many]) := by
  refine m_run (S := B__law_pick) [.v (eU u), .v ((eT eS) pool), .v (eI many), .e, .e, .e] rfl rfl ?_
  exact (show Ref _ ((DL.tSeq (tPar 3 4 (oL (aList (cVw 1))) (oL (aL aN))) (DL.tSeq (DL.tFor (.nm 5) (aRg1 (c2 minO (cVar 2) (c1 lenO' (cVw 3)))) (tX (xApp 4 (xPop 3 (cCall takeP (aC (cVar 0) (aC (c1 lenO' (cVw 3)) aN))))))) (tRetO 4))) [.v (eU u), .v ((eT eS) pool), .v (eI many), .e, .e, .e]) from m_reify (m_seqG (m_nxP (z_par2 (Δ1 := [.v (eU u), .v ((eT eS) pool), .v (eI many), .o (.lst (pool.map eS)), .o (.lst (([] : (List Str)).map eS)), .e]) (o_l (ds := (pool).map eS) (q_listT (q_vw rfl))) (o_l (ds := (([] : (List Str))).map eS) (q_aL q_aN))) (m_go (m_stage (b__law_pickT_1 u many pool ([] : (List Str)) (.v ((eT eS) pool))))))))

noncomputable def f__law_tags (u : Unit) (many : Int) : Pg (List Str) := ((f__law_pick u [("a" : Str), ("b" : Str), ("c" : Str), ("ab" : Str), ("li" : Str), ("zzzzzzzz" : Str), ("p" : Str), ("x" : Str)] many).bind fun b29 => (asr ((srtOk b29)) (.ret (sortT b29))))
theorem t__law_tags (u : Unit) (many : Int) : Ref ((f__law_tags u many).bind fun a => .ret ((eL eS) a)) (F__law_tags [eU u, eI many]) := by
  refine m_run (S := B__law_tags) [.v (eU u), .v (eI many)] rfl rfl ?_
  exact (show Ref _ ((DL.tRet (cL (aSort (cCall F__law_pick (aC (cVar 0) (aC (cL (aL (aC (cC (.str "a")) (aC (cC (.str "b")) (aC (cC (.str "c")) (aC (cC (.str "ab")) (aC (cC (.str "li")) (aC (cC (.str "zzzzzzzz")) (aC (cC (.str "p")) (aC (cC (.str "x")) aN)))))))))) (aC (cVar 1) aN))))))) [.v (eU u), .v (eI many)]) from m_reify (m_retG (m_sub (C := fun a => (cL a)) hC_cL_0 (m_sub (C := fun a => (aSort a)) hC_aSort_0 (m_callA (m_aC (m_pure (q_var rfl) (m_aC (m_pure (q_cLL (q_aL (q_aC q_C (q_aC q_C (q_aC q_C (q_aC q_C (q_aC q_C (q_aC q_C (q_aC q_C (q_aC q_C q_aN)))))))))) (m_aC (m_pure (q_var rfl) (m_aN (m_app (f := (eL eS)) (t__law_pick u [("a" : Str), ("b" : Str), ("c" : Str), ("ab" : Str), ("li" : Str), ("zzzzzzzz" : Str), ("p" : Str), ("x" : Str)] many) (fun b29 => (m_asr (fun h30 => (m_pure (q_sortS' rfl h30) (m_pure (q_cLL rfl) (m_end Ref.refl)))))))))))))))))))

noncomputable def f__law_trail (u : Unit) (tags : (List Str)) (most : Int) : Pg (List Str) := ((drawI u most).bind fun b31 => (asr ((inR ((1 : Int) + b31) = true)) (asr ((rngI 0 ((1 : Int) + b31).toNat).length ≤ lim) ((mapP (fun y32 => (((f__law_of u tags).bind fun b33 => (.ret b33)))) (rngI 0 ((1 : Int) + b31).toNat)).bind fun b34 => (.ret b34)))))
theorem t__law_trail (u : Unit) (tags : (List Str)) (most : Int) : Ref ((f__law_trail u tags most).bind fun a => .ret ((eT eS) a)) (F__law_trail [eU u, (eL eS) tags, eI most]) := by
  refine m_run (S := B__law_trail) [.v (eU u), .v ((eL eS) tags), .v (eI most), .e] rfl rfl ?_
  exact (show Ref _ ((DL.tRet (c1 tupO (cL (aLc (.nm 3) [3] (aRg1 (c2 addO (cC (.int 1)) (cCall takeP (aC (cVar 0) (aC (cVar 2) aN))))) DL.tYes (cCall F__law_of (aC (cVar 0) (aC (cVw 1) aN))))))) [.v (eU u), .v ((eL eS) tags), .v (eI most), .e]) from m_reify (m_retG (m_sub (C := fun a => (c1 tupO a)) hC_c1_0 (m_sub (C := fun a => (cL a)) hC_cL_0 (m_lc (m_sub (C := fun a => (aRg1 a)) hC_aRg1_0 (m_sub (C := fun a => (c2 addO (cC (.int 1)) a)) hC_c2_1 (m_callA (m_aC (m_pure (q_var rfl) (m_aC (m_pure (q_var rfl) (m_aN (m_app (f := eI) (r_take u most) (fun b31 => (m_pure (q_2 q_C rfl o_addI) (m_asr (fun h36 => (m_pure (q_rg1 rfl h36) (m_asr (fun h35 => (m_mapP (f := eI) (g := eS) (xs := (rngI 0 ((1 : Int) + b31).toNat)) h35 (fun y32 hy32 => ⟨_, rfl, (m_reify (m_callA (m_aC (m_pure (q_var rfl) (m_aC (m_pure (q_vw rfl) (m_aN (m_app (f := eS) (t__law_of u tags) (fun b33 => (m_end Ref.refl))))))))))⟩) (fun b34 => (m_pure (q_cLL rfl) (m_pure (q_1 rfl o_tupL) (m_end Ref.refl))))))))))))))))))))))))))

noncomputable def f__law_right_6 (v0 : Unit) (s3 : (List (List Str))) (s6 : (List Int)) : Pg (Unit ⊕ Bool) := (asr ((((inR (s3.length : Int) = true)) ∧ ((rngI 0 (s3.length : Int).toNat).length ≤ lim) ∧ (∀ y46 ∈ (rngI 0 (s3.length : Int).toNat), ((s6.length ≤ lim) ∧ (∀ y47 ∈ s6, ((decide (y47 = y46)) = false → (((atI s3 y47).isSome = true)) ∧ (((atI s3 y46).isSome = true)) ∧ (vc_path_tells (ixD s3 y47) (ixD s3 y46)))))))) (if (!(((rngI 0 (s3.length : Int).toNat).map fun y46 => ((s6.map fun y47 => ((decide (y47 = y46)) || (f_path_tells (ixD s3 y47) (ixD s3 y46)))).any id)).all id)) = true then (.ret (.inr false)) else (.ret (.inl ()))))
theorem b__law_right_6 (v0 : Unit) (s3 : (List (List Str))) (s6 : (List Int))  (j1 : Sl) (j2 : Sl) (j5 : Sl) : RefJ (fun (z : Unit) Δ => ∃ w1 w2 w3 w5 w6 : Sl, Δ = [.v (eU v0), w1, w2, w3, .e, w5, w6, .e, .e]) eB (f__law_right_6 v0 s3 s6) ((DL.tIf (tNot (tT (c1 allO (cL (aLc (.nm 8) [8] (aRg1 (c1 lenO' (cVw 3))) DL.tYes (c1 anyO (cL (aLc (.nm 7) [7] (aIt (cVar 6)) DL.tYes (eOr (c2 (eqO false) (cVar 7) (cVar 8)) (cCall F_path_tells (aC (c2 ixO (cVw 3) (cVar 7)) (aC (c2 ixO (cVw 3) (cVar 8)) aN)))))))))))) (DL.tRet (cC (.bl false))) DL.tNil) [.v (eU v0), j1, j2, .v ((eL (eT eS)) s3), .e, j5, .v ((eT eI) s6), .e, .e]) := by
  intro ρ R G hn hc hr
  exact (m_if (m_asr (fun h49 => (m_pure (q_tNot (q_tT (q_1 (q_cLL (q_lc0 (v := fun y46 => ((s6.map fun y47 => ((decide (y47 = y46)) || (f_path_tells (ixD s3 y47) (ixD s3 y46)))).any id)) (g := eB) (q_rg1 (q_1 (q_vw rfl) o_lenL) h49.1) h49.2.1 (fun y46 hy46 => ⟨_, rfl, (q_1 (q_cLL (q_lc0 (v := fun y47 => ((decide (y47 = y46)) || (f_path_tells (ixD s3 y47) (ixD s3 y46)))) (g := eB) (q_itT (q_var rfl)) (h49.2.2 y46 hy46).1 (fun y47 hy47 => ⟨_, rfl, (q_eOr (b := (decide (y47 = y46))) (c := (f_path_tells (ixD s3 y47) (ixD s3 y46))) (q_2 (q_var rfl) (q_var rfl) o_eqI) (fun e0 => (q_call (q_aC (q_2 (q_vw rfl) (q_var rfl) (o_ixLD (((h49.2.2 y46 hy46).2 y47 hy47) e0).1)) (q_aC (q_2 (q_vw rfl) (q_var rfl) (o_ixLD (((h49.2.2 y46 hy46).2 y47 hy47) e0).2.1)) q_aN)) (t_path_tells (ixD s3 y47) (ixD s3 y46) (((h49.2.2 y46 hy46).2 y47 hy47) e0).2.2))))⟩))) o_any)⟩))) o_all) o_truB)) (m_ite (fun e48 => (m_retG (m_pure q_C (m_end (hr false))))) (fun e48 => (m_nxP z_nil (m_end (hn () _ ⟨(j1), (j2), (.v ((eL (eT eS)) s3)), (j5), (.v ((eT eI) s6)), rfl⟩)))))))))
noncomputable def f__law_right_5 (v0 : Unit) (s3 : (List (List Str))) (s6 : (List Int)) : Pg (Unit ⊕ Bool) := (asr (((((s3.length ≤ lim)) ∧ (vc_tellersL (s3.map fun y45 => y45)))) ∧ ((((vc__law_due s3))) ∧ (nsm 9223372036854775807 (2 : Int) = true ∧ [(f__law_due s3)].length * (2 : Int).toNat ≤ lim)) ∧ (sameOk ((eL (eT eI)) [s6, (f_tellersL (s3.map fun y45 => y45))]) ((eL (eT eI)) (List.replicate (2 : Int).toNat [(f__law_due s3)]).flatten))) (if (!(sameF ((eL (eT eI)) [s6, (f_tellersL (s3.map fun y45 => y45))]) ((eL (eT eI)) (List.replicate (2 : Int).toNat [(f__law_due s3)]).flatten))) = true then (.ret (.inr false)) else (f__law_right_6 v0 s3 s6)))
theorem b__law_right_5 (v0 : Unit) (s3 : (List (List Str))) (s6 : (List Int))  (j1 : Sl) (j2 : Sl) (j5 : Sl) : RefJ (fun (z : Unit) Δ => ∃ w1 w2 w3 w5 w6 : Sl, Δ = [.v (eU v0), w1, w2, w3, .e, w5, w6, .e, .e]) eB (f__law_right_5 v0 s3 s6) ((DL.tSeq (DL.tIf (tNot (tT (cCall (F__law_same 5) (aC (cL (aL (aC (cVar 6) (aC (cCallK F_tellers (fun a b => a ++ b) 1 aN (aC (cL (aLc (.nm 5) [5] (aIt (cVar 3)) DL.tYes (cL (aList (cVw 5))))) aN)) aN)))) (aC (c2 mulO (cL (aL (aC (cCall F__law_due (aC (cVar 3) aN)) aN))) (cC (.int 2))) aN))))) (DL.tRet (cC (.bl false))) DL.tNil) (DL.tIf (tNot (tT (c1 allO (cL (aLc (.nm 8) [8] (aRg1 (c1 lenO' (cVw 3))) DL.tYes (c1 anyO (cL (aLc (.nm 7) [7] (aIt (cVar 6)) DL.tYes (eOr (c2 (eqO false) (cVar 7) (cVar 8)) (cCall F_path_tells (aC (c2 ixO (cVw 3) (cVar 7)) (aC (c2 ixO (cVw 3) (cVar 8)) aN)))))))))))) (DL.tRet (cC (.bl false))) DL.tNil)) [.v (eU v0), j1, j2, .v ((eL (eT eS)) s3), .e, j5, .v ((eT eI) s6), .e, .e]) := by
  intro ρ R G hn hc hr
  exact (m_seqG (m_if (m_asr (fun h51 => (m_pure (q_tNot (q_tT (q_call (q_aC (q_cLL (q_aL (q_aC (q_var rfl) (q_aC (q_callK q_aN (q_aC (q_cLL (q_lc0 (v := fun y45 => y45) (g := (eL eS)) (q_itL (q_var rfl)) h51.1.1 (fun y45 hy45 => ⟨_, rfl, (q_cLL (q_listT (q_vw rfl)))⟩))) q_aN) (t_tellersL (s3.map fun y45 => y45) h51.1.2)) q_aN)))) (q_aC (q_2 (q_cLL (q_aL (q_aC (q_call (q_aC (q_var rfl) q_aN) (t__law_due s3 h51.2.1.1)) q_aN))) q_C (o_mulL h51.2.1.2)) q_aN)) (u_same ((eL (eT eI)) [s6, (f_tellersL (s3.map fun y45 => y45))]) ((eL (eT eI)) (List.replicate (2 : Int).toNat [(f__law_due s3)]).flatten) h51.2.2)) o_truB)) (m_ite (fun e50 => (m_retG (m_pure q_C (m_goR (m_end (hr false)))))) (fun e50 => (m_nxP z_nil (m_go (b__law_right_6 v0 s3 s6  (j1) (j2) (j5) _ _ _ hn hc hr))))))))))
noncomputable def f__law_right_4 (v0 : Unit) (s3 : (List (List Str))) : Pg (Unit ⊕ Bool) := (asr ((vc_tellers s3)) (f__law_right_5 v0 s3 (f_tellers s3)))
theorem b__law_right_4 (v0 : Unit) (s3 : (List (List Str)))  (j1 : Sl) (j2 : Sl) (j5 : Sl) (j6 : Sl) : RefJ (fun (z : Unit) Δ => ∃ w1 w2 w3 w5 w6 : Sl, Δ = [.v (eU v0), w1, w2, w3, .e, w5, w6, .e, .e]) eB (f__law_right_4 v0 s3) ((tFrz 3 (DL.tSeq (tSet 6 (oV (cCall F_tellers (aC (c1 tupO (cVw 3)) aN)))) (DL.tSeq (DL.tIf (tNot (tT (cCall (F__law_same 5) (aC (cL (aL (aC (cVar 6) (aC (cCallK F_tellers (fun a b => a ++ b) 1 aN (aC (cL (aLc (.nm 5) [5] (aIt (cVar 3)) DL.tYes (cL (aList (cVw 5))))) aN)) aN)))) (aC (c2 mulO (cL (aL (aC (cCall F__law_due (aC (cVar 3) aN)) aN))) (cC (.int 2))) aN))))) (DL.tRet (cC (.bl false))) DL.tNil) (DL.tIf (tNot (tT (c1 allO (cL (aLc (.nm 8) [8] (aRg1 (c1 lenO' (cVw 3))) DL.tYes (c1 anyO (cL (aLc (.nm 7) [7] (aIt (cVar 6)) DL.tYes (eOr (c2 (eqO false) (cVar 7) (cVar 8)) (cCall F_path_tells (aC (c2 ixO (cVw 3) (cVar 7)) (aC (c2 ixO (cVw 3) (cVar 8)) aN)))))))))))) (DL.tRet (cC (.bl false))) DL.tNil)))) [.v (eU v0), j1, j2, .o (.lst (s3.map (eT eS))), .e, j5, j6, .e, .e]) := by
  intro ρ R G hn hc hr
  exact (m_frz (Δ1 := [.v (eU v0), j1, j2, .v ((eL (eT eS)) s3), .e, j5, j6, .e, .e]) rfl (m_seqG (m_asr (fun h52 => (m_nxP (z_setO (o_v (d := (eT eI) (f_tellers s3)) (q_call (q_aC (q_1 (q_vw rfl) o_tupL) q_aN) (t_tellers s3 h52)))) (m_go (b__law_right_5 v0 s3 (f_tellers s3)  (j1) (j2) (j5) _ _ _ hn hc hr)))))))
noncomputable def f__law_right_3 (v0 : Unit) (s3 : (List (List Str))) : Pg (Unit ⊕ Bool) := (Pg.bind ((asr (((∀ qa0 ∈ s3, ∀ qa1 ∈ qa0, PySem.PyData.strOk qa1 = true) ∧ (∀ qa0 ∈ ([] : (List (List Str))), ∀ qa1 ∈ qa0, PySem.PyData.strOk qa1 = true))) ((if (!decide (s3 = ([] : (List (List Str))))) = true then (((drawI v0 (2 : Int)).bind fun b54 => (.ret (decide (b54 = (0 : Int)))))) else .ret false).bind fun b55 => (if b55 = true then ((f__law_ofP v0 s3).bind fun b57 => (asr (s3.length < lim) ((((f__law_pickT v0 b57.dropLast (b57.length : Int)).bind fun b58 => (asr ((b58.length + (cutL b57 (some (-1 : Int)) none).length ≤ lim)) (.ret (b58 ++ (cutL b57 (some (-1 : Int)) none)))))).bind fun b60 => (.ret (s3 ++ [b60]))))) else (.ret s3)))) : Pg (List (List Str))) fun z43 => (f__law_right_4 v0 z43))
theorem b__law_right_3 (v0 : Unit) (s3 : (List (List Str)))  (j1 : Sl) (j2 : Sl) (j5 : Sl) (j6 : Sl) : RefJ (fun (z : Unit) Δ => ∃ w1 w2 w3 w5 w6 : Sl, Δ = [.v (eU v0), w1, w2, w3, .e, w5, w6, .e, .e]) eB (f__law_right_3 v0 s3) ((DL.tSeq (DL.tIf (tAnd (tB (c2 (eqQ true) (cVw 3) (cL (aL aN)))) (tB (c2 (eqO false) (cCall takeP (aC (cVar 0) (aC (cC (.int 2)) aN))) (cC (.int 0))))) (DL.tSeq (tSet 5 (oV (cCall F__law_of (aC (cVar 0) (aC (cVw 3) aN))))) (tX (xApp 3 (xE (c2 addO (c1 tupO (cCall F__law_pick (aC (cVar 0) (aC (c2 sl01 (cVw 5) (c1 negO (cC (.int 1)))) (aC (c1 lenO' (cVw 5)) aN))))) (c2 sl10 (cVw 5) (c1 negO (cC (.int 1))))))))) DL.tNil) (tFrz 3 (DL.tSeq (tSet 6 (oV (cCall F_tellers (aC (c1 tupO (cVw 3)) aN)))) (DL.tSeq (DL.tIf (tNot (tT (cCall (F__law_same 5) (aC (cL (aL (aC (cVar 6) (aC (cCallK F_tellers (fun a b => a ++ b) 1 aN (aC (cL (aLc (.nm 5) [5] (aIt (cVar 3)) DL.tYes (cL (aList (cVw 5))))) aN)) aN)))) (aC (c2 mulO (cL (aL (aC (cCall F__law_due (aC (cVar 3) aN)) aN))) (cC (.int 2))) aN))))) (DL.tRet (cC (.bl false))) DL.tNil) (DL.tIf (tNot (tT (c1 allO (cL (aLc (.nm 8) [8] (aRg1 (c1 lenO' (cVw 3))) DL.tYes (c1 anyO (cL (aLc (.nm 7) [7] (aIt (cVar 6)) DL.tYes (eOr (c2 (eqO false) (cVar 7) (cVar 8)) (cCall F_path_tells (aC (c2 ixO (cVw 3) (cVar 7)) (aC (c2 ixO (cVw 3) (cVar 8)) aN)))))))))))) (DL.tRet (cC (.bl false))) DL.tNil))))) [.v (eU v0), j1, j2, .o (.lst (s3.map (eT eS))), .e, j5, j6, .e, .e]) := by
  intro ρ R G hn hc hr
  exact (m_seqG (m_joinJ (fun (z43 : (List (List Str))) Δ => ∃ j44 : Sl, Δ = [.v (eU v0), j1, j2, .o (.lst (z43.map (eT eS))), .e, j44, j6, .e, .e]) (fun z43 Δ' hI => (by obtain ⟨j44, rfl⟩ := hI; exact (m_go (b__law_right_4 v0 z43  (j1) (j2) (j44) (j6) _ _ _ hn hc hr)))) (fun R' hq53 => (m_if (m_sub (C := fun a => tAnd a (tB (c2 (eqO false) (cCall takeP (aC (cVar 0) (aC (cC (.int 2)) aN))) (cC (.int 0))))) hC_tAnd (m_asr (fun h63 => (m_pure (q_tB (q_2 (q_voL rfl) (q_cLL (q_aL q_aN)) ((EqE.at_neQ (eqeL (eqeT eqeS))) h63))) (m_andK (fun e56 => (m_reify (m_sub (C := fun a => (tB a)) hC_tB_0 (m_sub (C := fun a => (c2 (eqO false) a (cC (.int 0)))) hC_c2_0 (m_callA (m_aC (m_pure (q_var rfl) (m_aC (m_pure q_C (m_aN (m_app (f := eI) (r_take v0 (2 : Int)) (fun b54 => (m_pure (q_2 rfl q_C o_eqI) (m_pure (q_tB rfl) (m_end Ref.refl))))))))))))))) (fun b55 => (m_ite (fun e62 => (m_seqG (m_set (m_callA (m_aC (m_pure (q_var rfl) (m_aC (m_pure (q_voL rfl) (m_aN (m_app (f := (eT eS)) (t__law_ofP v0 s3) (fun b57 => (m_go (m_asr (fun h61 => (m_xappM (f := (eT eS)) (xs := s3) rfl h61 (m_reify (m_sub (C := fun a => (c2 addO a (c2 sl10 (cVw 5) (c1 negO (cC (.int 1)))))) hC_c2_0 (m_sub (C := fun a => (c1 tupO a)) hC_c1_0 (m_callA (m_aC (m_pure (q_var rfl) (m_aC (m_pure (q_2 (q_vw rfl) (q_1 q_C o_negI) o_cutLastT) (m_aC (m_pure (q_1 (q_vw rfl) o_lenT) (m_aN (m_app (f := (eL eS)) (t__law_pickT v0 b57.dropLast (b57.length : Int)) (fun b58 => (m_pure (q_1 rfl o_tupL) (m_sub (C := fun a => (c2 addO (fun _ => .ret ((eT eS) b58)) a)) hC_c2_1 (m_pure (q_2 (q_vw rfl) (q_1 q_C o_negI) o_slT) (m_asr (fun h59 => (m_pure (q_2 (d := eT eS b58) (e := eT eS (cutL b57 (some (-1 : Int)) none)) rfl rfl (o_addT (f := eS) h59)) (m_end Ref.refl)))))))))))))))))))) (fun b60 => (m_end (hq53 (s3 ++ [b60]) _ ⟨(.v ((eT eS) b57)), rfl⟩)))))))))))))))))) (fun e62 => (m_nxP z_nil (m_end (hq53 s3 _ ⟨(j5), rfl⟩)))))))))))))))
noncomputable def f__law_right_2 (v0 : Unit) (s2 : (List Str)) : Pg (Unit ⊕ Bool) := ((drawI v0 (9 : Int)).bind fun b39 => (asr ((inR b39 = true)) (asr ((rngI 0 b39.toNat).length ≤ lim) ((mapP (fun y40 => (((f__law_trail v0 s2 (5 : Int)).bind fun b41 => (.ret b41)))) (rngI 0 b39.toNat)).bind fun b42 => (f__law_right_3 v0 b42)))))
theorem b__law_right_2 (v0 : Unit) (s2 : (List Str))  (j1 : Sl) (j3 : Sl) (j5 : Sl) (j6 : Sl) : RefJ (fun (z : Unit) Δ => ∃ w1 w2 w3 w5 w6 : Sl, Δ = [.v (eU v0), w1, w2, w3, .e, w5, w6, .e, .e]) eB (f__law_right_2 v0 s2) ((DL.tSeq (tSet 3 (oL (aLc (.nm 4) [4] (aRg1 (cCall takeP (aC (cVar 0) (aC (cC (.int 9)) aN)))) DL.tYes (cCall F__law_trail (aC (cVar 0) (aC (cVar 2) (aC (cC (.int 5)) aN))))))) (DL.tSeq (DL.tIf (tAnd (tB (c2 (eqQ true) (cVw 3) (cL (aL aN)))) (tB (c2 (eqO false) (cCall takeP (aC (cVar 0) (aC (cC (.int 2)) aN))) (cC (.int 0))))) (DL.tSeq (tSet 5 (oV (cCall F__law_of (aC (cVar 0) (aC (cVw 3) aN))))) (tX (xApp 3 (xE (c2 addO (c1 tupO (cCall F__law_pick (aC (cVar 0) (aC (c2 sl01 (cVw 5) (c1 negO (cC (.int 1)))) (aC (c1 lenO' (cVw 5)) aN))))) (c2 sl10 (cVw 5) (c1 negO (cC (.int 1))))))))) DL.tNil) (tFrz 3 (DL.tSeq (tSet 6 (oV (cCall F_tellers (aC (c1 tupO (cVw 3)) aN)))) (DL.tSeq (DL.tIf (tNot (tT (cCall (F__law_same 5) (aC (cL (aL (aC (cVar 6) (aC (cCallK F_tellers (fun a b => a ++ b) 1 aN (aC (cL (aLc (.nm 5) [5] (aIt (cVar 3)) DL.tYes (cL (aList (cVw 5))))) aN)) aN)))) (aC (c2 mulO (cL (aL (aC (cCall F__law_due (aC (cVar 3) aN)) aN))) (cC (.int 2))) aN))))) (DL.tRet (cC (.bl false))) DL.tNil) (DL.tIf (tNot (tT (c1 allO (cL (aLc (.nm 8) [8] (aRg1 (c1 lenO' (cVw 3))) DL.tYes (c1 anyO (cL (aLc (.nm 7) [7] (aIt (cVar 6)) DL.tYes (eOr (c2 (eqO false) (cVar 7) (cVar 8)) (cCall F_path_tells (aC (c2 ixO (cVw 3) (cVar 7)) (aC (c2 ixO (cVw 3) (cVar 8)) aN)))))))))))) (DL.tRet (cC (.bl false))) DL.tNil)))))) [.v (eU v0), j1, .v ((eL eS) s2), j3, .e, j5, j6, .e, .e]) := by
  intro ρ R G hn hc hr
  exact (m_seqG (m_setL (m_lc (m_sub (C := fun a => (aRg1 a)) hC_aRg1_0 (m_callA (m_aC (m_pure (q_var rfl) (m_aC (m_pure q_C (m_aN (m_app (f := eI) (r_take v0 (9 : Int)) (fun b39 => (m_asr (fun h65 => (m_pure (q_rg1 rfl h65) (m_asr (fun h64 => (m_mapP (f := eI) (g := (eT eS)) (xs := (rngI 0 b39.toNat)) h64 (fun y40 hy40 => ⟨_, rfl, (m_reify (m_callA (m_aC (m_pure (q_var rfl) (m_aC (m_pure (q_var rfl) (m_aC (m_pure q_C (m_aN (m_app (f := (eT eS)) (t__law_trail v0 s2 (5 : Int)) (fun b41 => (m_end Ref.refl))))))))))))⟩) (fun b42 => (m_go (b__law_right_3 v0 b42  (j1) (.v ((eL eS) s2)) (j5) (j6) _ _ _ hn hc hr)))))))))))))))))))))
noncomputable def f__law_right_1 (v0 : Unit) (z : Unit) (x : Int) : Pg (Unit ⊕ Bool) := ((drawI v0 (2 : Int)).bind fun b37 => ((f__law_tags v0 ((2 : Int) + b37)).bind fun b38 => (f__law_right_2 v0 b38)))
theorem b__law_right_1 (v0 : Unit)  : ∀ z x Δ, (fun (z : Unit) Δ => ∃ w1 w2 w3 w5 w6 : Sl, Δ = [.v (eU v0), w1, w2, w3, .e, w5, w6, .e, .e]) z Δ → RefJ (fun (z : Unit) Δ => ∃ w1 w2 w3 w5 w6 : Sl, Δ = [.v (eU v0), w1, w2, w3, .e, w5, w6, .e, .e]) eB (f__law_right_1 v0 z x) ((ofO (tgS (.nm 1) (eI x) Δ)).bind (DL.tSeq (tSet 2 (oV (cCall F__law_tags (aC (cVar 0) (aC (c2 addO (cC (.int 2)) (cCall takeP (aC (cVar 0) (aC (cC (.int 2)) aN)))) aN))))) (DL.tSeq (tSet 3 (oL (aLc (.nm 4) [4] (aRg1 (cCall takeP (aC (cVar 0) (aC (cC (.int 9)) aN)))) DL.tYes (cCall F__law_trail (aC (cVar 0) (aC (cVar 2) (aC (cC (.int 5)) aN))))))) (DL.tSeq (DL.tIf (tAnd (tB (c2 (eqQ true) (cVw 3) (cL (aL aN)))) (tB (c2 (eqO false) (cCall takeP (aC (cVar 0) (aC (cC (.int 2)) aN))) (cC (.int 0))))) (DL.tSeq (tSet 5 (oV (cCall F__law_of (aC (cVar 0) (aC (cVw 3) aN))))) (tX (xApp 3 (xE (c2 addO (c1 tupO (cCall F__law_pick (aC (cVar 0) (aC (c2 sl01 (cVw 5) (c1 negO (cC (.int 1)))) (aC (c1 lenO' (cVw 5)) aN))))) (c2 sl10 (cVw 5) (c1 negO (cC (.int 1))))))))) DL.tNil) (tFrz 3 (DL.tSeq (tSet 6 (oV (cCall F_tellers (aC (c1 tupO (cVw 3)) aN)))) (DL.tSeq (DL.tIf (tNot (tT (cCall (F__law_same 5) (aC (cL (aL (aC (cVar 6) (aC (cCallK F_tellers (fun a b => a ++ b) 1 aN (aC (cL (aLc (.nm 5) [5] (aIt (cVar 3)) DL.tYes (cL (aList (cVw 5))))) aN)) aN)))) (aC (c2 mulO (cL (aL (aC (cCall F__law_due (aC (cVar 3) aN)) aN))) (cC (.int 2))) aN))))) (DL.tRet (cC (.bl false))) DL.tNil) (DL.tIf (tNot (tT (c1 allO (cL (aLc (.nm 8) [8] (aRg1 (c1 lenO' (cVw 3))) DL.tYes (c1 anyO (cL (aLc (.nm 7) [7] (aIt (cVar 6)) DL.tYes (eOr (c2 (eqO false) (cVar 7) (cVar 8)) (cCall F_path_tells (aC (c2 ixO (cVw 3) (cVar 7)) (aC (c2 ixO (cVw 3) (cVar 8)) aN)))))))))))) (DL.tRet (cC (.bl false))) DL.tNil)))))))) := by
  rintro z x Δ ⟨w1, w2, w3, w5, w6, rfl⟩ ρ R G hn hc hr
  exact (show Ref _ (((DL.tSeq (tSet 2 (oV (cCall F__law_tags (aC (cVar 0) (aC (c2 addO (cC (.int 2)) (cCall takeP (aC (cVar 0) (aC (cC (.int 2)) aN)))) aN))))) (DL.tSeq (tSet 3 (oL (aLc (.nm 4) [4] (aRg1 (cCall takeP (aC (cVar 0) (aC (cC (.int 9)) aN)))) DL.tYes (cCall F__law_trail (aC (cVar 0) (aC (cVar 2) (aC (cC (.int 5)) aN))))))) (DL.tSeq (DL.tIf (tAnd (tB (c2 (eqQ true) (cVw 3) (cL (aL aN)))) (tB (c2 (eqO false) (cCall takeP (aC (cVar 0) (aC (cC (.int 2)) aN))) (cC (.int 0))))) (DL.tSeq (tSet 5 (oV (cCall F__law_of (aC (cVar 0) (aC (cVw 3) aN))))) (tX (xApp 3 (xE (c2 addO (c1 tupO (cCall F__law_pick (aC (cVar 0) (aC (c2 sl01 (cVw 5) (c1 negO (cC (.int 1)))) (aC (c1 lenO' (cVw 5)) aN))))) (c2 sl10 (cVw 5) (c1 negO (cC (.int 1))))))))) DL.tNil) (tFrz 3 (DL.tSeq (tSet 6 (oV (cCall F_tellers (aC (c1 tupO (cVw 3)) aN)))) (DL.tSeq (DL.tIf (tNot (tT (cCall (F__law_same 5) (aC (cL (aL (aC (cVar 6) (aC (cCallK F_tellers (fun a b => a ++ b) 1 aN (aC (cL (aLc (.nm 5) [5] (aIt (cVar 3)) DL.tYes (cL (aList (cVw 5))))) aN)) aN)))) (aC (c2 mulO (cL (aL (aC (cCall F__law_due (aC (cVar 3) aN)) aN))) (cC (.int 2))) aN))))) (DL.tRet (cC (.bl false))) DL.tNil) (DL.tIf (tNot (tT (c1 allO (cL (aLc (.nm 8) [8] (aRg1 (c1 lenO' (cVw 3))) DL.tYes (c1 anyO (cL (aLc (.nm 7) [7] (aIt (cVar 6)) DL.tYes (eOr (c2 (eqO false) (cVar 7) (cVar 8)) (cCall F_path_tells (aC (c2 ixO (cVw 3) (cVar 7)) (aC (c2 ixO (cVw 3) (cVar 8)) aN)))))))))))) (DL.tRet (cC (.bl false))) DL.tNil))))))) [.v (eU v0), .v (eI x), w2, w3, .e, w5, w6, .e, .e]).bind G) from (m_seqG (m_set (m_callA (m_aC (m_pure (q_var rfl) (m_aC (m_sub (C := fun a => (c2 addO (cC (.int 2)) a)) hC_c2_1 (m_callA (m_aC (m_pure (q_var rfl) (m_aC (m_pure q_C (m_aN (m_app (f := eI) (r_take v0 (2 : Int)) (fun b37 => (m_pure (q_2 q_C rfl o_addI) (m_aN (m_app (f := (eL eS)) (t__law_tags v0 ((2 : Int) + b37)) (fun b38 => (m_go (b__law_right_2 v0 b38  (.v (eI x)) (w3) (w5) (w6) _ _ _ hn hc hr))))))))))))))))))))))
noncomputable def f__law_right_7  : Pg Bool := (.ret true)
theorem b__law_right_7  (j0 : Sl) (j1 : Sl) (j2 : Sl) (j3 : Sl) (j5 : Sl) (j6 : Sl) : Ref ((f__law_right_7 ).bind fun a => .ret (.rt (eB a))) ((DL.tRet (cC (.bl true))) [j0, j1, j2, j3, .e, j5, j6, .e, .e]) := m_reify (m_retG (m_pure q_C (m_end Ref.refl)))
noncomputable def f__law_right (u : Unit) : Pg Bool := (asr ((inR (12 : Int) = true)) ((loopM (f__law_right_1 u) (rngI 0 (12 : Int).toNat) ()).bind fun r => match r with | .inl z66 => (f__law_right_7 ) | .inr t72 => (.ret t72)))
theorem t__law_right (u : Unit) : Ref ((f__law_right u).bind fun a => .ret (eB a)) (F__law_right [eU u]) := by
  refine m_run (S := B__law_right) [.v (eU u), .e, .e, .e, .e, .e, .e, .e, .e] rfl rfl ?_
  exact (show Ref _ ((DL.tSeq (DL.tFor (.nm 1) (aRg1 (cC (.int 12))) (DL.tSeq (tSet 2 (oV (cCall F__law_tags (aC (cVar 0) (aC (c2 addO (cC (.int 2)) (cCall takeP (aC (cVar 0) (aC (cC (.int 2)) aN)))) aN))))) (DL.tSeq (tSet 3 (oL (aLc (.nm 4) [4] (aRg1 (cCall takeP (aC (cVar 0) (aC (cC (.int 9)) aN)))) DL.tYes (cCall F__law_trail (aC (cVar 0) (aC (cVar 2) (aC (cC (.int 5)) aN))))))) (DL.tSeq (DL.tIf (tAnd (tB (c2 (eqQ true) (cVw 3) (cL (aL aN)))) (tB (c2 (eqO false) (cCall takeP (aC (cVar 0) (aC (cC (.int 2)) aN))) (cC (.int 0))))) (DL.tSeq (tSet 5 (oV (cCall F__law_of (aC (cVar 0) (aC (cVw 3) aN))))) (tX (xApp 3 (xE (c2 addO (c1 tupO (cCall F__law_pick (aC (cVar 0) (aC (c2 sl01 (cVw 5) (c1 negO (cC (.int 1)))) (aC (c1 lenO' (cVw 5)) aN))))) (c2 sl10 (cVw 5) (c1 negO (cC (.int 1))))))))) DL.tNil) (tFrz 3 (DL.tSeq (tSet 6 (oV (cCall F_tellers (aC (c1 tupO (cVw 3)) aN)))) (DL.tSeq (DL.tIf (tNot (tT (cCall (F__law_same 5) (aC (cL (aL (aC (cVar 6) (aC (cCallK F_tellers (fun a b => a ++ b) 1 aN (aC (cL (aLc (.nm 5) [5] (aIt (cVar 3)) DL.tYes (cL (aList (cVw 5))))) aN)) aN)))) (aC (c2 mulO (cL (aL (aC (cCall F__law_due (aC (cVar 3) aN)) aN))) (cC (.int 2))) aN))))) (DL.tRet (cC (.bl false))) DL.tNil) (DL.tIf (tNot (tT (c1 allO (cL (aLc (.nm 8) [8] (aRg1 (c1 lenO' (cVw 3))) DL.tYes (c1 anyO (cL (aLc (.nm 7) [7] (aIt (cVar 6)) DL.tYes (eOr (c2 (eqO false) (cVar 7) (cVar 8)) (cCall F_path_tells (aC (c2 ixO (cVw 3) (cVar 7)) (aC (c2 ixO (cVw 3) (cVar 8)) aN)))))))))))) (DL.tRet (cC (.bl false))) DL.tNil)))))))) (DL.tRet (cC (.bl true)))) [.v (eU u), .e, .e, .e, .e, .e, .e, .e, .e]) from m_reify (m_seqG (m_for (m_asr (fun h73 => (m_pure (q_rg1 q_C h73) (m_loop (b__law_right_1 u ) ⟨(.e), (.e), (.e), (.e), (.e), rfl⟩ (fun z66 Δ' hI => (by obtain ⟨j67, j68, j69, j70, j71, rfl⟩ := hI; exact (m_go (m_stage (b__law_right_7  (.v (eU u)) (j67) (j68) (j69) (j70) (j71)))))) (fun t72 => (m_goR (m_end Ref.refl))))))))))

end Q76
end
section
set_option Elab.async false
set_option linter.all false
set_option maxRecDepth 100000
namespace Q76
open PySem DL L2
def exc (a b : List Str) (x : Str) : Int := max 0 ((b.count x : Int) - (a.count x : Int))
def oth (l : Str) (b : List Str) : List Str := ss (b.filter fun y => !decide (y = l))
/-- what one path tells of another: its nodes above, its last one -/
def Tl (a : List Str) (l : Str) (b : List Str) (m : Str) : Prop := m = l ∧ (∀ x ∈ b, x ≠ l → x ∈ a) ∧ (b.count l : Int) + ((oth l b).map (exc a b)).sum ≤ (a.count l : Int)
theorem mem_oth {l x : Str} {b : List Str} : x ∈ oth l b ↔ x ∈ b ∧ x ≠ l := by
  unfold oth
  rw [mem_ss, List.mem_filter]
  simp
theorem sp_nodup {xs : List Str} (h : SP xs) : xs.Nodup := h.imp fun {a b} hab e => by
  subst e
  rw [lts_irr] at hab
  cases hab
theorem nodup_oth (l : Str) (b : List Str) : (oth l b).Nodup := sp_nodup (sp_ss _)
theorem exc_nn (a b : List Str) (x : Str) : 0 ≤ exc a b x := by unfold exc; omega
theorem drop_app (a : List Str) (l : Str) : (a ++ [l]).dropLast = a := by simp
theorem law_above (a : List Str) (l x : Str) : f__law_above (a ++ [l]) x = (a.count x : Int) := by
  unfold f__law_above
  rw [drop_app]
  congr 1
  rw [List.count, List.countP_eq_length_filter]
  congr 2
theorem law_tells (a : List Str) (l : Str) (b : List Str) (m : Str) : f__law_tells (a ++ [l]) (b ++ [m]) = true ↔ Tl a l b m := by
  unfold f__law_tells f__law_tells_1 f__law_tells_2 Tl
  simp only [ixD_last, drop_app, law_above]
  have e : ss (b.filter fun y => !decide (y = l)) = oth l b := rfl
  rw [e]
  by_cases h1 : m = l
  · by_cases h2 : ∀ x ∈ b, x ≠ l → x ∈ a
    · have hf : (oth l b).filter (fun y => !decide (y ∈ a)) = [] := by
        rw [List.filter_eq_nil_iff]
        intro x hx
        have := mem_oth.mp hx
        simp [h2 x this.1 this.2]
      rw [hf]
      simp [h1]
      constructor
      · intro h; exact ⟨h2, h⟩
      · intro h; exact h.2
    · have hf : (oth l b).filter (fun y => !decide (y ∈ a)) ≠ [] := by
        intro h
        rw [List.filter_eq_nil_iff] at h
        refine h2 fun x hx hl => ?_
        have := h x (mem_oth.mpr ⟨hx, hl⟩)
        simpa using this
      simp [hf, h2]
  · simp [h1]
theorem oft (a : List Str) (l : Str) : f_often_above (a ++ [l]) = dcm a (fun y => (a.count y : Int)) [] := by
  unfold f_often_above dcm
  rw [drop_app, List.filter_eq_self.mpr (fun _ _ => rfl)]
theorem kget_oft (a : List Str) (l x : Str) : kget (f_often_above (a ++ [l])) x = if x ∈ a then some (a.count x : Int) else none := by
  rw [oft, kget_dcm]
  rfl
theorem getD_oft (a : List Str) (l x : Str) : (kget (f_often_above (a ++ [l])) x).getD 0 = (a.count x : Int) := by
  rw [kget_oft]
  by_cases h : x ∈ a
  · simp [h]
  · simp [h, List.count_eq_zero_of_not_mem h]
theorem path_tells (a : List Str) (l : Str) (b : List Str) (m : Str) : f_path_tells (a ++ [l]) (b ++ [m]) = true ↔ Tl a l b m := by
  unfold f_path_tells f_path_tells_1 f_path_tells_2 f_path_tells_3 f_more_above Tl
  simp only [id, ixD_last, getD_oft]
  have hkm : ∀ x, x ∈ (f_often_above (b ++ [m])).map (fun p => p.1) ↔ x ∈ b := fun x => by
    have := mem_keys (m := f_often_above (b ++ [m])) (x := x)
    rw [kget_oft] at this
    refine this.trans ?_
    by_cases h : x ∈ b <;> simp [h]
  have hks : ∀ x, (kget (f_often_above (a ++ [l])) x).isSome = decide (x ∈ a) := fun x => by
    rw [kget_oft]
    by_cases h : x ∈ a <;> simp [h]
  have hnd : ((f_often_above (b ++ [m])).map (fun p => p.1)).Nodup := by rw [oft]; exact nodup_dcm _ _ (by simp)
  generalize hK : (f_often_above (b ++ [m])).map (fun p => p.1) = K at *
  by_cases h1 : m = l
  · subst h1
    by_cases h2 : ∀ x ∈ b, x ≠ m → x ∈ a
    · have hf : (((K.filter fun y => !decide (y = m)).map fun y => !(kget (f_often_above (a ++ [m])) y).isSome).any id) = false := by
        rw [List.any_eq_false]
        intro x hx
        obtain ⟨y, hy, rfl⟩ := List.mem_map.mp hx
        obtain ⟨hy1, hy2⟩ := List.mem_filter.mp hy
        have hm : y ≠ m := by simpa using hy2
        simp [hks, h2 y ((hkm y).mp hy1) hm]
      rw [hf]
      have hs : ((K.filter fun y => (!decide (y = m)) && decide ((a.count y : Int) < (kget (f_often_above (b ++ [m])) y).getD default)).map fun y => (kget (f_often_above (b ++ [m])) y).getD default - (a.count y : Int)).sum = ((oth m b).map (exc a b)).sum := by
        have e1 : ∀ y ∈ K, (kget (f_often_above (b ++ [m])) y).getD default = (b.count y : Int) := fun y hy => by
          rw [kget_oft, if_pos ((hkm y).mp hy)]; rfl
        have e2 : (K.filter fun y => (!decide (y = m)) && decide ((a.count y : Int) < (kget (f_often_above (b ++ [m])) y).getD default)) = (K.filter fun y => !decide (y = m)).filter fun y => decide ((a.count y : Int) < (b.count y : Int)) := by
          rw [List.filter_filter]
          refine List.filter_congr fun y hy => ?_
          rw [e1 y hy, Bool.and_comm]
        rw [e2]
        have e3 : (((K.filter fun y => !decide (y = m)).filter fun y => decide ((a.count y : Int) < (b.count y : Int))).map fun y => (kget (f_often_above (b ++ [m])) y).getD default - (a.count y : Int)) = (((K.filter fun y => !decide (y = m)).filter fun y => decide ((a.count y : Int) < (b.count y : Int))).map (exc a b)) := by
          refine List.map_congr_left fun y hy => ?_
          obtain ⟨h3, h4⟩ := List.mem_filter.mp hy
          obtain ⟨h5, h6⟩ := List.mem_filter.mp h3
          rw [e1 y h5]
          unfold exc
          have : (a.count y : Int) < (b.count y : Int) := by simpa using h4
          omega
        rw [e3, sum_filter]
        · refine sum_perm (List.Perm.map _ (perm_of (filter_nodup hnd) (nodup_oth m b) fun y => ?_))
          rw [List.mem_filter, mem_oth, hkm]
          simp
        · intro y _ hy
          unfold exc
          have : ¬ (a.count y : Int) < (b.count y : Int) := by simpa using hy
          omega
      rw [hs, if_neg (by simp), decide_eq_true_iff]
      exact ⟨fun h => ⟨rfl, h2, h⟩, fun h => h.2.2⟩
    · have hf : (((K.filter fun y => !decide (y = m)).map fun y => !(kget (f_often_above (a ++ [m])) y).isSome).any id) = true := by
        refine Classical.byContradiction fun hc => h2 fun x hx hm => ?_
        have hc : (((K.filter fun y => !decide (y = m)).map fun y => !(kget (f_often_above (a ++ [m])) y).isSome).any id) = false := by simpa using hc
        rw [List.any_eq_false] at hc
        have := hc _ (List.mem_map.mpr ⟨x, List.mem_filter.mpr ⟨(hkm x).mpr hx, by simp [hm]⟩, rfl⟩)
        simpa [hks] using this
      rw [hf, if_pos (by simp)]
      simp [h2]
  · simp [h1]
/-! it is an order -/
theorem Tl.trans {a b c : List Str} {l m n : Str} (h1 : Tl a l b m) (h2 : Tl b m c n) : Tl a l c n := by
  obtain ⟨rfl, s1, n1⟩ := h1
  obtain ⟨rfl, s2, n2⟩ := h2
  refine ⟨rfl, fun x hx hl => s1 x (s2 x hx hl) hl, ?_⟩
  have e1 : ((oth n c).map (exc a c)).sum ≤ ((oth n c).map fun x => exc b c x + exc a b x).sum := sum_mono _ fun x _ => by unfold exc; omega
  rw [sum_add] at e1
  have e2 : ((oth n c).map (exc a b)).sum ≤ ((oth n b).map (exc a b)).sum := sum_sub _ _ (nodup_oth n c) (fun x hx => by
    have := mem_oth.mp hx
    exact mem_oth.mpr ⟨s2 x this.1 this.2, this.2⟩) fun y _ => exc_nn a b y
  omega
end Q76
end
section
set_option Elab.async false
set_option linter.all false
set_option maxRecDepth 100000
namespace Q76
open PySem DL L2
/-- a path: nodes above, the last one; not too long -/
structure Pa (p : List Str) : Prop where
  ne : p ≠ []
  len : p.length ≤ 1000
  ok : ∀ x ∈ p, PySem.PyData.strOk x = true
theorem split {p : List Str} (h : p ≠ []) : ∃ a l, p = a ++ [l] := ⟨p.dropLast, p.getLast h, (List.dropLast_concat_getLast h).symm⟩
def T (p q : List Str) : Prop := Tl p.dropLast (p.getLastD "") q.dropLast (q.getLastD "")
theorem T_app {a b : List Str} {l m : Str} : T (a ++ [l]) (b ++ [m]) ↔ Tl a l b m := by unfold T; simp
theorem pt {p q : List Str} (hp : p ≠ []) (hq : q ≠ []) : f_path_tells p q = true ↔ T p q := by
  obtain ⟨a, l, rfl⟩ := split hp
  obtain ⟨b, m, rfl⟩ := split hq
  rw [path_tells, T_app]
theorem lt {p q : List Str} (hp : p ≠ []) (hq : q ≠ []) : f__law_tells p q = true ↔ T p q := by
  obtain ⟨a, l, rfl⟩ := split hp
  obtain ⟨b, m, rfl⟩ := split hq
  rw [law_tells, T_app]
theorem ltpt {p q : List Str} (hp : p ≠ []) (hq : q ≠ []) : f__law_tells p q = f_path_tells p q := by
  rw [Bool.eq_iff_iff, lt hp hq, pt hp hq]
theorem T_trans {p q r : List Str} (h1 : T p q) (h2 : T q r) : T p r := Tl.trans h1 h2
/-! sizes -/
theorem lim_of {n : Nat} (h : n ≤ 100000) : n ≤ lim := Nat.le_trans h (by decide)
theorem ok_pt {p q : List Str} (hp : Pa p) (hq : Pa q) : vc_path_tells p q := by
  obtain ⟨a, l, rfl⟩ := split hp.ne
  obtain ⟨b, m, rfl⟩ := split hq.ne
  have la := hp.len
  have lb := hq.len
  rw [List.length_append, List.length_singleton] at la lb
  have ooa : ∀ (a : List Str) (l : Str), a.length + 1 ≤ 1000 → vc_often_above (a ++ [l]) := fun a l h => ⟨by rw [drop_app]; exact lim_of (by omega), fun _ _ _ => by simp⟩
  have lk : ∀ (a : List Str) (l : Str), a.length + 1 ≤ 1000 → (f_often_above (a ++ [l])).length ≤ 1000 := fun a l h => by
    rw [oft]
    have := len_dcm (f := fun y => (a.count y : Int)) a []
    simp at this
    omega
  have hks : ∀ y ∈ (f_often_above (b ++ [m])).map (fun p => p.1), (kget (f_often_above (b ++ [m])) y).isSome = true := fun y hy => mem_keys.mp hy
  refine ⟨⟨lim_of (by rw [List.length_append, List.length_singleton]; omega), lim_of (by rw [List.length_append, List.length_singleton]; omega)⟩, ⟨ooa a l la, ooa b m lb, by simp only [id]; rw [DL.atI_last]; rfl⟩, ⟨by simp only [id]; rw [DL.atI_last]; rfl, fun _ => ?_⟩, fun _ => ⟨⟨?_, ?_⟩, ?_, ?_⟩⟩
  · rw [List.length_map]; have := lk b m lb; exact lim_of (by simp only [id]; omega)
  · rw [List.length_map]; have := lk b m lb; exact lim_of (by simp only [id]; omega)
  · intro y hy _; exact hks y hy
  · unfold f_more_above
    have h1 := List.length_filter_le (fun y2 => ((!decide (y2 = (ixD (id (a ++ [l])) (-1 : Int)))) && (decide (((kget (f_often_above (id (a ++ [l]))) y2).getD (0 : Int)) < ((kget (f_often_above (id (b ++ [m]))) y2).getD default))))) ((f_often_above (id (b ++ [m]))).map fun p => p.1)
    rw [List.length_map] at h1
    have := lk b m lb
    exact lim_of (by simp only [id] at *; omega)
  · intro y hy
    unfold f_more_above at hy
    exact hks y (List.mem_filter.mp hy).1
theorem ok_lt {p q : List Str} (hp : Pa p) (hq : Pa q) : vc__law_tells p q := by
  obtain ⟨a, l, rfl⟩ := split hp.ne
  obtain ⟨b, m, rfl⟩ := split hq.ne
  have la := hp.len
  have lb := hq.len
  rw [List.length_append, List.length_singleton] at la lb
  have oa : ∀ x, vc__law_above (a ++ [l]) x := fun x => by unfold vc__law_above; rw [drop_app]; exact lim_of (by omega)
  have ob : ∀ x, vc__law_above (b ++ [m]) x := fun x => by unfold vc__law_above; rw [drop_app]; exact lim_of (by omega)
  have i1 : (atI (a ++ [l]) (-1)).isSome = true := by rw [DL.atI_last]; rfl
  have i2 : (atI (b ++ [m]) (-1)).isSome = true := by rw [DL.atI_last]; rfl
  have f1 : ((b ++ [m]).dropLast.filter fun y8 => (!decide (y8 = (ixD (a ++ [l]) (-1 : Int))))).length ≤ b.length := by
    rw [drop_app]; exact List.length_filter_le _ _
  have f2 := len_ss ((b ++ [m]).dropLast.filter fun y8 => (!decide (y8 = (ixD (a ++ [l]) (-1 : Int)))))
  refine ⟨⟨⟨by rw [drop_app]; exact lim_of (by omega), fun _ _ => i1⟩, by omega⟩, ⟨⟨i2, i1⟩, fun _ => ⟨lim_of (by omega), fun x hx => ?_, fun x hx => by cases hx⟩⟩, fun _ => ⟨⟨lim_of (by omega), fun y _ => ⟨ob y, oa y⟩⟩, ⟨i1, ob _⟩, ⟨i1, oa _⟩⟩⟩
  have h1 := mem_ss.mp (List.mem_filter.mp hx).1
  have h2 := (List.mem_filter.mp h1).1
  rw [drop_app] at h2
  exact hq.ok x (List.mem_append_left _ h2)
/-! tellers -/
structure Rows (rs : List (List Str)) : Prop where
  len : rs.length ≤ 100
  pa : ∀ p ∈ rs, Pa p
/-- no other one tells it -/
def topm (rs : List (List Str)) (x : Int × List Str) : Bool := ((enumL rs).filter fun y => (!decide (y.1 = x.1)) && (f_path_tells y.2 x.2 && (decide (y.1 < x.1) || !f_path_tells x.2 y.2))).isEmpty
theorem tellers_is (rs : List (List Str)) : f_tellers rs = ((enumL rs).filter (topm rs)).map (·.1) := by
  unfold f_tellers f_tellers_1 f_tellers_2 f_tellers_4
  simp only [id]
  rw [fold_filter (p := topm rs) (f := fun x => x.1)]
  · simp
  · intro z x
    unfold f_tellers_3 topm
    rw [List.length_map]
    cases h : ((enumL rs).filter fun y => (!decide (y.1 = x.1)) && (f_path_tells y.2 x.2 && (decide (y.1 < x.1) || !f_path_tells x.2 y.2))) with
    | nil => simp
    | cons y ys => simp; omega
theorem tellersL_is (rs : List (List Str)) : f_tellersL rs = f_tellers rs := rfl
theorem due_is {rs : List (List Str)} (h : Rows rs) : f__law_due rs = f_tellers rs := by
  rw [tellers_is]
  unfold f__law_due f__law_due_1 f__law_due_3
  have e : ∀ x ∈ enumL rs, (decide ((((rngI 0 (rs.length : Int).toNat).filter fun y11 => ((!decide (y11 = x.1)) && (f__law_tells (ixD rs y11) x.2))).filter fun y12 => ((decide (y12 < x.1)) || (!(f__law_tells x.2 (ixD rs y12))))) = ([] : (List Int)))) = topm rs x := fun x hx => by
    obtain ⟨i, hi1, hi2⟩ := mem_enumL.mp hx
    have px := h.pa x.2 (List.mem_of_getElem? hi2)
    rw [Bool.eq_iff_iff, decide_eq_true_iff]
    unfold topm
    rw [List.isEmpty_iff, List.filter_eq_nil_iff, List.filter_eq_nil_iff]
    constructor
    · intro h1 y hy
      obtain ⟨j, hj1, hj2⟩ := mem_enumL.mp hy
      have py := h.pa y.2 (List.mem_of_getElem? hj2)
      have hj := (List.getElem?_eq_some_iff.mp hj2).1
      intro hc
      simp only [Bool.and_eq_true] at hc
      have ixj : ixD rs y.1 = y.2 := by rw [hj1]; exact ixD_nat hj2
      refine h1 y.1 (List.mem_filter.mpr ⟨mem_rngI.mpr (by omega), ?_⟩) ?_
      · rw [ixj, ltpt py.ne px.ne, hc.1, hc.2.1]; rfl
      · rw [ixj, ltpt px.ne py.ne]; exact hc.2.2
    · intro h1 y hy hc
      obtain ⟨hy1, hy2⟩ := List.mem_filter.mp hy
      have hr := mem_rngI.mp hy1
      obtain ⟨j, rfl⟩ := Int.eq_ofNat_of_zero_le hr.1
      have hj : j < rs.length := by omega
      have hj2 := List.getElem?_eq_getElem hj
      have py := h.pa _ (List.getElem_mem hj)
      have ixj : ixD rs (j : Int) = rs[j] := ixD_nat hj2
      rw [ixj] at hy2 hc
      rw [ltpt py.ne px.ne] at hy2
      rw [ltpt px.ne py.ne] at hc
      simp only [Bool.and_eq_true] at hy2
      refine h1 ((j : Int), rs[j]) (mem_enumL.mpr ⟨j, rfl, hj2⟩) ?_
      simp only [Bool.and_eq_true]
      exact ⟨hy2.1, hy2.2, hc⟩
  have q : ∀ (xs : List (Int × List Str)), (∀ x ∈ xs, x ∈ enumL rs) → ∀ z, xs.foldl (f__law_due_2 rs) z = z ++ (xs.filter (topm rs)).map (·.1) := by
    intro xs
    induction xs with
    | nil => intro _ z; simp
    | cons x xs ih =>
      intro hx z
      rw [List.foldl_cons, ih (fun y hy => hx y (List.mem_cons_of_mem _ hy))]
      unfold f__law_due_2
      rw [e x (hx x (List.mem_cons_self ..))]
      cases hp : topm rs x with
      | true => simp [hp]
      | false => simp [hp]
  rw [q _ fun _ h => h]
  simp
/-! each one is told by one of them -/
def Lo (rs : List (List Str)) (i j : Nat) : Prop := ∃ p q, rs[i]? = some p ∧ rs[j]? = some q ∧ i ≠ j ∧ T p q ∧ (i < j ∨ ¬ T q p)
theorem Lo.trans {rs : List (List Str)} {i j k : Nat} (h1 : Lo rs i j) (h2 : Lo rs j k) : Lo rs i k := by
  obtain ⟨p, q, hp, hq, n1, t1, o1⟩ := h1
  obtain ⟨q', r, hq', hr, n2, t2, o2⟩ := h2
  cases hq.symm.trans hq'
  refine ⟨p, r, hp, hr, ?_, T_trans t1 t2, ?_⟩
  · rintro rfl
    cases hp.symm.trans hr
    rcases o1 with o1 | o1
    · rcases o2 with o2 | o2
      · omega
      · exact o2 t1
    · exact o1 t2
  · by_cases hrp : T r p
    · rcases o1 with o1 | o1
      · rcases o2 with o2 | o2
        · exact .inl (by omega)
        · exact absurd (T_trans hrp t1) o2
      · exact absurd (T_trans t2 hrp) o1
    · exact .inr hrp
/-- of finitely many, some one is least -/
theorem least {R : Nat → Nat → Prop} (tr : ∀ i j k, R i j → R j k → R i k) (ir : ∀ i, ¬ R i i) (n : Nat) (hb : ∀ i j, R i j → i < n) (j : Nat) : (∀ i, ¬ R i j) ∨ ∃ i, R i j ∧ ∀ k, ¬ R k i := by
  have key : ∀ (m : Nat) (S : List Nat), S.length ≤ m → ∀ j, (∀ i, R i j → i ∈ S) → (∀ i, ¬ R i j) ∨ ∃ i, R i j ∧ ∀ k, ¬ R k i := by
    intro m
    induction m with
    | zero =>
      intro S hS j hj
      refine .inl fun i hi => ?_
      have := hj i hi
      have e : S = [] := List.length_eq_zero_iff.mp (by omega)
      rw [e] at this
      cases this
    | succ m ih =>
      intro S hS j hj
      by_cases h : ∃ i, R i j
      · obtain ⟨i, hi⟩ := h
        have hiS := hj i hi
        rcases ih (S.erase i) (by rw [List.length_erase_of_mem hiS]; omega) i (fun k hk => by
          have hkj := hj k (tr k i j hk hi)
          have : k ≠ i := fun e => ir i (e ▸ hk)
          exact (List.mem_erase_of_ne this).mpr hkj) with h1 | ⟨k, hk, h2⟩
        · exact .inr ⟨i, hi, h1⟩
        · exact .inr ⟨k, tr k i j hk hi, h2⟩
      · exact .inl fun i hi => h ⟨i, hi⟩
  exact key n (List.range n) (by simp) j fun i hi => List.mem_range.mpr (hb i j hi)
theorem topm_least {rs : List (List Str)} (h : Rows rs) {i : Nat} {p : List Str} (hi : rs[i]? = some p) (hl : ∀ k, ¬ Lo rs k i) : (i : Int) ∈ f_tellers rs := by
  rw [tellers_is]
  refine List.mem_map.mpr ⟨((i : Int), p), List.mem_filter.mpr ⟨mem_enumL.mpr ⟨i, rfl, hi⟩, ?_⟩, rfl⟩
  unfold topm
  rw [List.isEmpty_iff, List.filter_eq_nil_iff]
  intro y hy hc
  obtain ⟨j, hj1, hj2⟩ := mem_enumL.mp hy
  have py := h.pa y.2 (List.mem_of_getElem? hj2)
  have pp := h.pa p (List.mem_of_getElem? hi)
  simp only [Bool.and_eq_true, Bool.or_eq_true, Bool.not_eq_true', decide_eq_true_iff, decide_eq_false_iff_not] at hc
  rw [pt py.ne pp.ne] at hc
  refine hl j ⟨y.2, p, hj2, hi, ?_, hc.2.1, ?_⟩
  · rintro rfl
    exact hc.1 hj1
  · rcases hc.2.2 with h1 | h1
    · exact .inl (by omega)
    · refine .inr fun ht => ?_
      rw [(pt pp.ne py.ne).mpr ht] at h1
      cases h1
theorem told {rs : List (List Str)} (h : Rows rs) {j : Nat} {q : List Str} (hj : rs[j]? = some q) : ∃ k : Nat, ∃ p, (k : Int) ∈ f_tellers rs ∧ rs[k]? = some p ∧ (k = j ∨ f_path_tells p q = true) := by
  rcases least (R := Lo rs) (fun i j k h1 h2 => h1.trans h2) (fun i ⟨_, _, _, _, n, _⟩ => n rfl) rs.length (fun i j ⟨p, q, hp, _⟩ => (List.getElem?_eq_some_iff.mp hp).1) j with h1 | ⟨i, hi, h1⟩
  · exact ⟨j, q, topm_least h hj h1, hj, .inl rfl⟩
  · obtain ⟨p, q', hp, hq', n, t, _⟩ := hi
    cases hj.symm.trans hq'
    exact ⟨i, p, topm_least h hp h1, hp, .inr ((pt (h.pa p (List.mem_of_getElem? hp)).ne (h.pa q (List.mem_of_getElem? hj)).ne).mpr t)⟩
end Q76
end
section
set_option Elab.async false
set_option linter.all false
set_option maxRecDepth 1000000
namespace Q76
open PySem DL L2
theorem ok_tl {rs : List (List Str)} (h : Rows rs) : vc_tellers rs := by
  have hl := h.len
  refine ⟨⟨lim_of (by omega), fun p hp => lim_of (by have := (h.pa p hp).len; omega)⟩, ?_⟩
  intro j x hx
  have hx' := List.mem_of_getElem? hx
  have px : Pa x.2 := by
    obtain ⟨i, _, hi⟩ := mem_enumL.mp hx'
    exact h.pa _ (List.mem_of_getElem? hi)
  refine ⟨⟨by rw [len_enumL]; exact lim_of (by simp only [id]; omega), fun y hy _ => ?_⟩, fun _ => ?_⟩
  · have py : Pa y.2 := by
      obtain ⟨i, _, hi⟩ := mem_enumL.mp hy
      exact h.pa _ (List.mem_of_getElem? hi)
    exact ⟨ok_pt py px, fun _ _ => ok_pt px py⟩
  · have hj := (List.getElem?_eq_some_iff.mp hx).1
    rw [len_enumL] at hj
    have e : ∀ (xs : List (Int × List Str)) (z : List Int), (xs.foldl (f_tellers_3 (id rs)) z).length ≤ z.length + xs.length := by
      intro xs
      induction xs with
      | nil => intro z; simp
      | cons y ys ih =>
        intro z
        rw [List.foldl_cons, List.length_cons]
        refine Nat.le_trans (ih _) ?_
        unfold f_tellers_3
        split
        · rw [List.length_append, List.length_singleton]; omega
        · omega
    have := e ((enumL (id rs)).take j) []
    rw [List.length_take, len_enumL] at this
    refine Nat.lt_of_le_of_lt this ?_
    simp only [id, List.length_nil, lim] at *
    omega
theorem ok_tlL {rs : List (List Str)} (h : Rows rs) : vc_tellersL rs := ok_tl h
theorem ok_due {rs : List (List Str)} (h : Rows rs) : vc__law_due rs := by
  have hl := h.len
  intro j x hx
  have hx' := List.mem_of_getElem? hx
  have px : Pa x.2 := by
    obtain ⟨i, _, hi⟩ := mem_enumL.mp hx'
    exact h.pa _ (List.mem_of_getElem? hi)
  have hr : ∀ y ∈ rngI 0 (rs.length : Int).toNat, (atI rs y).isSome = true ∧ Pa (ixD rs y) := fun y hy => by
    have hr := mem_rngI.mp hy
    obtain ⟨k, rfl⟩ := Int.eq_ofNat_of_zero_le hr.1
    have hk : k < rs.length := by omega
    have hk2 := List.getElem?_eq_getElem hk
    refine ⟨by rw [atI_nat', hk2]; rfl, ?_⟩
    rw [ixD_nat hk2]
    exact h.pa _ (List.getElem_mem hk)
  have lr : (rngI 0 (rs.length : Int).toNat).length ≤ 100 := by rw [len_rngI]; omega
  refine ⟨⟨inR_nat (by omega), lim_of (by omega), fun y hy _ => ⟨(hr y hy).1, ok_lt (hr y hy).2 px⟩⟩, ⟨⟨?_, fun y hy _ => ?_⟩, fun _ _ => trivial, fun _ _ => trivial⟩, fun _ => ?_⟩
  · exact lim_of (Nat.le_trans (List.length_filter_le _ _) (by omega))
  · have hy1 := (List.mem_filter.mp hy).1
    exact ⟨(hr y hy1).1, ok_lt px (hr y hy1).2⟩
  · have hj := (List.getElem?_eq_some_iff.mp hx).1
    rw [len_enumL] at hj
    have e : ∀ (xs : List (Int × List Str)) (z : List Int), (xs.foldl (f__law_due_2 rs) z).length ≤ z.length + xs.length := by
      intro xs
      induction xs with
      | nil => intro z; simp
      | cons y ys ih =>
        intro z
        rw [List.foldl_cons, List.length_cons]
        refine Nat.le_trans (ih _) ?_
        unfold f__law_due_2
        split
        · rw [List.length_append, List.length_singleton]; omega
        · omega
    have := e ((enumL rs).take j) []
    rw [List.length_take, len_enumL] at this
    refine Nat.lt_of_le_of_lt this ?_
    simp only [List.length_nil, lim] at *
    omega
/-! what is drawn -/
theorem co_pick {u : Unit} {pool : List Str} {many : Int} (h : pool.length ≤ 100) (m0 : 0 ≤ many) (m1 : many ≤ 1000) : Co true 100 (f__law_pick u pool many) fun ys => (∀ y ∈ ys, y ∈ pool) ∧ ys.length = (min many (pool.length : Int)).toNat := by
  unfold f__law_pick f__law_pick_1
  have hm : (min many (pool.length : Int)).toNat ≤ pool.length := by omega
  refine Co.asr ?_ (Co.le (c := (min many (pool.length : Int)).toNat * 1 + 0) (Co.bind ((co_picks (τ := List Str) (u := u) hm (by omega)).mono fun r ⟨rest, ys, hr, hp, hl⟩ => ?_)) (by omega))
  · have e : (min many (pool.length : Int)) = ((min many (pool.length : Int)).toNat : Int) := by omega
    rw [e]
    exact inR_nat (by omega)
  · subst hr
    exact Co.ret ⟨fun y hy => hp.mem_iff.mp (List.mem_append_left _ hy), hl⟩
theorem pickT_is (u : Unit) (pool : List Str) (many : Int) : f__law_pickT u pool many = f__law_pick u pool many := rfl
def nms : List Str := ["a", "b", "c", "ab", "li", "zzzzzzzz", "p", "x"]
theorem nms_ok : ∀ x ∈ nms, PySem.PyData.strOk x = true := by decide +kernel
theorem co_tags {u : Unit} {many : Int} (m0 : 0 < many) (m1 : many ≤ 8) : Co true 100 (f__law_tags u many) fun ys => ys ≠ [] ∧ ys.length ≤ 8 ∧ ∀ y ∈ ys, y ∈ nms := by
  unfold f__law_tags
  refine Co.le (c := 100 + 0) (Co.bind ((co_pick (u := u) (pool := nms) (many := many) (by decide) (by omega) (by omega)).mono fun ys ⟨h1, h2⟩ => ?_)) (by omega)
  have hl : ys.length = many.toNat := by
    rw [h2]
    show (min many (8 : Int)).toNat = _
    omega
  have hp := sortT_perm ys
  refine Co.asr (by unfold srtOk; omega) (Co.ret ⟨?_, ?_, fun y hy => h1 y (hp.mem_iff.mp hy)⟩)
  · intro e
    have := hp.length_eq
    rw [e] at this
    simp at this
    omega
  · rw [hp.length_eq]; omega
theorem co_trail {u : Unit} {tags : List Str} (h0 : tags ≠ []) (h1 : tags.length ≤ 100) : Co true 11 (f__law_trail u tags 5) fun p => p ≠ [] ∧ p.length ≤ 5 ∧ ∀ x ∈ p, x ∈ tags := by
  unfold f__law_trail
  refine Co.le (c := 1 + 10) (Co.bind (co_drawI (by decide) (by decide) fun d d0 d1 => ?_)) (by omega)
  have e : ((1 : Int) + d) = (((1 : Int) + d).toNat : Int) := by omega
  refine Co.asr (by rw [e]; exact inR_nat (by omega)) (Co.asr (by rw [len_rngI]; exact lim_of (by omega)) ?_)
  have q := co_mapP (b := true) (n := 1) (e := fun _ : Int => (f__law_of u tags).bind fun b => .ret b) (P := fun x => x ∈ tags) (rngI 0 ((1 : Int) + d).toNat) fun x _ => by
    rw [bind_pure]
    exact co_one h0 (by omega)
  rw [len_rngI] at q
  refine Co.le (c := ((1 : Int) + d).toNat * 1 + 0) (Co.bind (q.mono fun ys hy => Co.ret ⟨?_, by omega, hy.2⟩)) (by omega)
  intro e2
  have := hy.1
  rw [e2] at this
  simp at this
  omega
theorem tell_mem {rs : List (List Str)} {k : Int} (h : k ∈ f_tellers rs) : ∃ j : Nat, ∃ p, k = (j : Nat) ∧ rs[j]? = some p := by
  rw [tellers_is] at h
  obtain ⟨q, hq, rfl⟩ := List.mem_map.mp h
  obtain ⟨j, h1, h2⟩ := mem_enumL.mp (List.mem_filter.mp hq).1
  exact ⟨j, q.2, h1, h2⟩
theorem tell_len (rs : List (List Str)) : (f_tellers rs).length ≤ rs.length := by
  rw [tellers_is, List.length_map]
  exact Nat.le_trans (List.length_filter_le _ _) (by rw [len_enumL]; exact Nat.le_refl _)
theorem co_6 {u : Unit} {rs : List (List Str)} (h : Rows rs) : Co true 0 (f__law_right_6 u rs (f_tellers rs)) fun r => r = .inl () := by
  have hl := h.len
  have tl := tell_len rs
  unfold f__law_right_6
  have hr : ∀ y ∈ rngI 0 (rs.length : Int).toNat, ∃ j : Nat, ∃ p, y = (j : Nat) ∧ rs[j]? = some p := fun y hy => by
    have hr := mem_rngI.mp hy
    obtain ⟨k, rfl⟩ := Int.eq_ofNat_of_zero_le hr.1
    exact ⟨k, _, rfl, List.getElem?_eq_getElem (by omega)⟩
  refine Co.asr ⟨inR_nat (by omega), lim_of (by rw [len_rngI]; omega), fun y hy => ⟨lim_of (by omega), fun k hk _ => ?_⟩⟩ ?_
  · obtain ⟨j, p, rfl, hj⟩ := hr y hy
    obtain ⟨i, q, rfl, hi⟩ := tell_mem hk
    refine ⟨by rw [atI_nat', hi]; rfl, by rw [atI_nat', hj]; rfl, ?_⟩
    rw [ixD_nat hi, ixD_nat hj]
    exact ok_pt (h.pa q (List.mem_of_getElem? hi)) (h.pa p (List.mem_of_getElem? hj))
  · rw [if_neg ?_]
    · exact Co.ret rfl
    · rw [Bool.not_eq_true', Bool.not_eq_false, List.all_eq_true]
      intro b hb
      obtain ⟨y, hy, rfl⟩ := List.mem_map.mp hb
      obtain ⟨j, p, rfl, hj⟩ := hr y hy
      obtain ⟨k, q, hk, hq, ho⟩ := told h hj
      show (((f_tellers rs).map _).any id) = true
      rw [List.any_eq_true]
      refine ⟨_, List.mem_map.mpr ⟨(k : Int), hk, rfl⟩, ?_⟩
      rcases ho with rfl | ho
      · simp
      · rw [ixD_nat hq, ixD_nat hj, ho]; simp
theorem co_4 {u : Unit} {rs : List (List Str)} (h : Rows rs) : Co true 0 (f__law_right_4 u rs) fun r => r = .inl () := by
  have hl := h.len
  have tl := tell_len rs
  unfold f__law_right_4 f__law_right_5
  refine Co.asr (ok_tl h) ?_
  rw [List.map_id', tellersL_is, due_is h]
  refine Co.asr ⟨⟨lim_of (by omega), ok_tlL h⟩, ⟨ok_due h, by decide, ?_⟩, ?_, ?_⟩ ?_
  · show 1 * 2 ≤ lim
    decide
  · rfl
  · have q : Pl 3 (eT eI (f_tellers rs)) := (pl_of (n := 2) (f := eI) (lim_of (by omega)) fun x _ => pl_int).2
    exact (pl_of (n := 3) (f := eT eI) (xs := [f_tellers rs, f_tellers rs]) (by show 2 ≤ lim; decide) fun x hx => by
      simp only [List.mem_cons, List.not_mem_nil, or_false, or_self] at hx
      rw [hx]
      exact q).1
  · rw [if_neg (by unfold sameF; decide)]
    exact co_6 h
theorem pa_of {p ts : List Str} (h0 : p ≠ []) (hl : p.length ≤ 1000) (hm : ∀ x ∈ p, x ∈ ts) (ht : ∀ x ∈ ts, x ∈ nms) : Pa p := ⟨h0, hl, fun x hx => nms_ok x (ht x (hm x hx))⟩
theorem co_3 {u : Unit} {rs : List (List Str)} (hl : rs.length ≤ 50) (hp : ∀ p ∈ rs, p ≠ [] ∧ p.length ≤ 5 ∧ ∀ x ∈ p, x ∈ nms) : Co true 200 (f__law_right_3 u rs) fun r => r = .inl () := by
  have hR : ∀ p, (p ≠ [] ∧ p.length ≤ 5 ∧ ∀ x ∈ p, x ∈ nms) → Pa p := fun p h => ⟨h.1, by omega, fun x hx => nms_ok x (h.2.2 x hx)⟩
  unfold f__law_right_3
  refine Co.le (c := 200 + 0) (Co.bind (Co.mono (k := fun z => z.length ≤ 60 ∧ ∀ p ∈ z, p ≠ [] ∧ p.length ≤ 5 ∧ ∀ x ∈ p, x ∈ nms) ?_ fun z hz => co_4 ⟨by omega, fun p h => hR p (hz.2 p h)⟩)) (by omega)
  refine Co.asr ⟨fun p h x hx => (hR p (hp p h)).ok x hx, fun p h => by cases h⟩ ?_
  have e1 : Co true 1 (if (!decide (rs = ([] : (List (List Str))))) = true then (((drawI u (2 : Int)).bind fun b => (.ret (decide (b = (0 : Int)))))) else .ret false) fun b => b = true → rs ≠ [] := by
    by_cases hr : rs = []
    · rw [if_neg (by simp [hr])]
      exact Co.ret fun h => by cases h
    · rw [if_pos (by simp [hr])]
      exact Co.le (c := 1 + 0) (Co.bind (co_drawI (by decide) (by decide) fun d _ _ => Co.ret fun _ => hr)) (by omega)
  refine Co.le (c := 1 + 102) (Co.bind (e1.mono fun b hb => ?_)) (by omega)
  cases b with
  | false =>
    rw [if_neg (by decide)]
    exact Co.ret ⟨by omega, hp⟩
  | true =>
    rw [if_pos rfl]
    have hne := hb rfl
    refine Co.le (c := 1 + 100) (Co.bind ((co_one (u := u) hne (by omega)).mono fun own ho => ?_)) (by omega)
    have ow := hp own ho
    refine Co.asr (Nat.lt_of_le_of_lt hl (by decide)) ?_
    refine Co.le (c := 100 + 0) (Co.bind (c := 100) (c2 := 0) (Co.mono (k := fun z => z ≠ [] ∧ z.length ≤ 5 ∧ ∀ x ∈ z, x ∈ nms) ?_ fun z hz => Co.ret ⟨by rw [List.length_append, List.length_singleton]; omega, fun p h => by
      rcases List.mem_append.mp h with h | h
      · exact hp p h
      · rw [List.mem_singleton.mp h]; exact hz⟩)) (by omega)
    obtain ⟨a, l, rfl⟩ := split ow.1
    have cl : cutL (a ++ [l]) (some (-1 : Int)) none = [l] := by
      unfold cutL
      have e1 : HT.sIx (a ++ [l]).length (a ++ [l]).length none = (a ++ [l]).length := rfl
      have e2 : HT.sIx (a ++ [l]).length 0 (some (-1 : Int)) = a.length := by
        unfold HT.sIx
        simp
        omega
      rw [e1, e2]
      simp
    rw [pickT_is, drop_app, cl]
    have la := ow.2.1
    rw [List.length_append, List.length_singleton] at la
    refine Co.le (c := 100 + 0) (Co.bind ((co_pick (u := u) (pool := a) (many := ((a ++ [l]).length : Nat)) (by omega) (by omega) (by rw [List.length_append, List.length_singleton]; omega)).mono fun ys hy => ?_)) (by omega)
    have hyl : ys.length ≤ 4 := by
      have := hy.2
      rw [List.length_append, List.length_singleton] at this
      omega
    refine Co.asr (lim_of (by rw [List.length_singleton]; omega)) (Co.ret ⟨by simp, by rw [List.length_append, List.length_singleton]; omega, fun x hx => ?_⟩)
    rcases List.mem_append.mp hx with hx | hx
    · exact ow.2.2 x (List.mem_append_left _ (hy.1 x hx))
    · exact ow.2.2 x (List.mem_append_right _ hx)
theorem co_1 {u : Unit} {x : Int} : Co true 500 (f__law_right_1 u () x) fun r => r = .inl () := by
  unfold f__law_right_1
  refine Co.le (c := 1 + 400) (Co.bind (co_drawI (by decide) (by decide) fun d d0 d1 => ?_)) (by omega)
  refine Co.le (c := 100 + 300) (Co.bind ((co_tags (u := u) (many := 2 + d) (by omega) (by omega)).mono fun ts ht => ?_)) (by omega)
  unfold f__law_right_2
  refine Co.le (c := 1 + 299) (Co.bind (co_drawI (by decide) (by decide) fun n n0 n1 => ?_)) (by omega)
  have e : n = (n.toNat : Int) := by omega
  refine Co.asr (by rw [e]; exact inR_nat (by omega)) (Co.asr (by rw [len_rngI]; exact lim_of (by omega)) ?_)
  have q := co_mapP (b := true) (n := 11) (e := fun _ : Int => (f__law_trail u ts 5).bind fun b => .ret b) (P := fun p => p ≠ [] ∧ p.length ≤ 5 ∧ ∀ x ∈ p, x ∈ ts) (rngI 0 n.toNat) fun x _ => by
    rw [bind_pure]
    exact co_trail ht.1 (by omega)
  rw [len_rngI] at q
  refine Co.le (c := n.toNat * 11 + 200) (Co.bind (q.mono fun rs hr => co_3 (by omega) fun p hp => ?_)) (by omega)
  have := hr.2 p hp
  exact ⟨this.1, this.2.1, fun x hx => ht.2.2 x (this.2.2 x hx)⟩
theorem co_right : Co true 6000 (f__law_right ()) fun b => b = true := by
  unfold f__law_right
  refine Co.asr (inR_nat (n := 12) (by decide)) ?_
  have q := co_loop (b := true) (n := 500) (step := f__law_right_1 ()) (I := fun _ _ => True) (rngI 0 (12 : Int).toNat) 0 () trivial fun j z x _ => co_1.mono fun r hr => ⟨(), hr, trivial⟩
  rw [len_rngI] at q
  exact Co.le (c := 12 * 500 + 0) (Co.bind (q.mono fun r ⟨z, hr, _⟩ => by subst hr; exact Co.ret rfl)) (by omega)
theorem right_ok : wpB true 1000000 (F__law_right [.cell 0]) fun d _ => d = .bl true := by
  have h : Co true 6000 (F__law_right [.cell 0]) fun d => d = .bl true := Co.ref (t__law_right ()) (Co.map (co_right.mono fun b hb => by rw [hb]))
  exact h.wp (by decide)
theorem hand : F__law_by_hand_right [] = .ret (.bl true) := isT_is (by decide +kernel)
theorem law_ok {ns : List Int} (hl : ns.length ≤ 63) : F_law [.frl (ns.map D.int)] = .ret (.bl true) := law_ahead (t := 3) (H := F__law_by_hand_right) rfl hand (by decide) (by decide) hl
end Q76
end
section
set_option Elab.async false
set_option linter.all false
set_option maxRecDepth 100000
namespace Q76
open PySem L2 DL
def top (i : Nat) : Stmt := PySem.Challenge.pw_deepcuts_k76_paths_that_tell_all_others.main.body.getD i (.Pass ⟨0, 0, 0, 0⟩)
abbrev s_tupled : Stmt := top 1
abbrev s_often_above : Stmt := top 3
abbrev s_more_above : Stmt := top 4
abbrev s_path_tells : Stmt := top 5
abbrev s_tellers : Stmt := top 6
abbrev s__law_cells : Stmt := top 10
abbrev s__law_of : Stmt := top 11
abbrev s__law_same : Stmt := top 12
abbrev s__law_pick : Stmt := top 13
abbrev s__law_tags : Stmt := top 14
abbrev s__law_trail : Stmt := top 15
abbrev s__law_above : Stmt := top 16
abbrev s__law_tells : Stmt := top 17
abbrev s__law_due : Stmt := top 18
abbrev s__law_by_hand_right : Stmt := top 19
abbrev s__law_right : Stmt := top 20
abbrev s_law : Stmt := top 21
abbrev s__law_take : Stmt := top 9
abbrev s__law_box : Stmt := top 8
abbrev gam (K : PySem.W.Frag) : Nat → Addr
  | _ => 0
structure Top (K : PySem.W.Frag) (mg : Str → Option Value) : Prop where
  b_abs : mg "abs" = none
  b_all : mg "all" = none
  b_any : mg "any" = none
  b_bool : mg "bool" = none
  b_enumerate : mg "enumerate" = none
  b_int : mg "int" = none
  b_isinstance : mg "isinstance" = none
  b_len : mg "len" = none
  b_list : mg "list" = none
  b_max : mg "max" = none
  b_min : mg "min" = none
  b_range : mg "range" = none
  b_set : mg "set" = none
  b_sorted : mg "sorted" = none
  b_str : mg "str" = none
  b_sum : mg "sum" = none
  b_tuple : mg "tuple" = none
  b_zip : mg "zip" = none
section
variable {P : Program} {w : World} {K : PySem.W.Frag} {mg : Str → Option Value} {base : Heap}
theorem sc_tupled : FnScope ["thing", "part"] ["thing"] (defScope s_tupled) := ⟨rfl, rfl, rfl, by decide +kernel, rfl, by decide +kernel, by decide +kernel⟩
set_option maxHeartbeats 4000000 in
theorem ok_tupled (T : Top K mg)  {f : Addr} {fd : FuncData} {dvs : List V} (Fn : FnD K "tupled" "tupled" s_tupled dvs f fd) (gR : mg "tupled" = some (.ref f)) (bR : Binds K fd ["thing"] []) : ∀ d : Nat, FnOk P w K mg base CX0 (1 + d) f fd ["thing"] (spOf K (spW (gam K) [] (F_tupled d)))
  | 0 => (fail_ok (n := 0) Fn sc_tupled)
  | d + 1 => by
    have CR : Cal P w K mg base "tupled" (1 + d) (spW (gam K) [] (F_tupled d)) := ⟨f, fd, _, ok_tupled T  Fn gR bR d, gR, Fn.kp, bR⟩
    refine fn_ok (n := 1 + d) (t := B_tupled (F_tupled d)) (by rfl) Fn sc_tupled fun cdv A outer s H E hr => ?_
    have sc := sc_tupled
    exact (b_one (r_ret (i_if (t_truth (fun _ => rfl) (IE.iv (i_isiT rfl T.b_isinstance (i_var (i := 0) rfl (.inl rfl) rfl rfl) (a_cons (i_ty (T := "list") rfl T.b_list (by decide +kernel) (by decide) rfl) (a_cons (i_ty (T := "tuple") rfl T.b_tuple (by decide +kernel) (by decide) rfl) a_nil))))) (i_tuple rfl rfl T.b_tuple (IE.iv (IL.frz (l_lc (own := [("part", 1)]) rfl sc.nd (blkOk_by rfl) (by decide) (n_any (i_var (i := 0) rfl (.inl rfl) rfl rfl)) (by decide) (fun s H C cl fp => (g_name (i := 1) sc.nd rfl (by first | exact .inl rfl | exact .inr rfl) (by first | exact .inr rfl | exact .inl rfl))) (fun s H C cl fp => ts_nil) (fun s H C cl fp => (i_call CR (hr.mono (by first | decide | omega)) rfl (w_nil (a_cons (i_var (i := 1) rfl (.inl rfl) rfl rfl) a_nil)))))))) (i_var (i := 0) rfl (.inl rfl) rfl rfl))))
theorem sc_often_above : FnScope ["path", "name"] ["path"] (defScope s_often_above) := ⟨rfl, rfl, rfl, by decide +kernel, rfl, by decide +kernel, by decide +kernel⟩
set_option maxHeartbeats 4000000 in
theorem ok_often_above (T : Top K mg)  {f : Addr} {fd : FuncData} {dvs : List V} (Fn : FnD K "often_above" "often_above" s_often_above dvs f fd) : FnOk P w K mg base CX0 1 f fd ["path"] (spOf K (spW (gam K) [] F_often_above)) := by
  refine fn_ok (n := 0) (t := B_often_above) (by rfl) Fn sc_often_above fun cdv A outer s H E hr => ?_
  have sc := sc_often_above
  exact (b_one (r_ret (i_dc (own := [("name", 1)]) rfl sc.nd (blkOk_by rfl) (by decide) (n_any (i_sl01 (iv_var (i := 0) rfl (.inr (.inl rfl)) rfl rfl) (i_neg i_int))) (by decide) (fun s H C cl fp => (g_name (i := 1) sc.nd rfl (by first | exact .inl rfl | exact .inr rfl) (by first | exact .inr rfl | exact .inl rfl))) (fun s H C cl fp => ts_nil) (fun s H C cl fp => (i_var (i := 1) rfl (.inl rfl) rfl rfl)) (fun s H C cl fp => (i_cutCnt (i_var (i := 0) rfl (by first | exact .inl rfl | exact .inr (.inl rfl) | exact .inr (.inr rfl)) rfl rfl) (i_var (i := 1) rfl (.inl rfl) rfl rfl))))))
theorem sc_more_above : FnScope ["mine", "its", "last", "name"] ["mine", "its", "last"] (defScope s_more_above) := ⟨rfl, rfl, rfl, by decide +kernel, rfl, by decide +kernel, by decide +kernel⟩
set_option maxHeartbeats 4000000 in
theorem ok_more_above (T : Top K mg)  {f : Addr} {fd : FuncData} {dvs : List V} (Fn : FnD K "more_above" "more_above" s_more_above dvs f fd) : FnOk P w K mg base CX0 1 f fd ["mine", "its", "last"] (spOf K (spW (gam K) [] F_more_above)) := by
  refine fn_ok (n := 0) (t := B_more_above) (by rfl) Fn sc_more_above fun cdv A outer s H E hr => ?_
  have sc := sc_more_above
  exact (b_one (r_ret (IL.frz (l_lc (own := [("name", 3)]) rfl sc.nd (blkOk_by rfl) (by decide) (n_keys (i_var (i := 1) rfl (.inr (.inl rfl)) rfl rfl)) (by decide) (fun s H C cl fp => (g_name (i := 3) sc.nd rfl (by first | exact .inl rfl | exact .inr rfl) (by first | exact .inr rfl | exact .inl rfl))) (fun s H C cl fp => (ts_one (t_w (w_and (t_cmp (by first | exact nomark _ | rfl) (k_ne hr.units (i_var (i := 3) rfl (.inl rfl) rfl rfl) (i_var (i := 2) rfl (by first | exact .inl rfl | exact .inr (.inl rfl) | exact .inr (.inr rfl)) rfl rfl))) (w_and1 (t_cmp (by first | exact nomark _ | rfl) (k_co (i_dix hr.units (fun _ _ => rfl) (i_var (i := 1) rfl (by first | exact .inl rfl | exact .inr (.inl rfl) | exact .inr (.inr rfl)) rfl rfl) (i_var (i := 3) rfl (.inl rfl) rfl rfl)) (i_get2 hr.units (i_var (i := 0) rfl (by first | exact .inl rfl | exact .inr (.inl rfl) | exact .inr (.inr rfl)) rfl rfl) (i_var (i := 3) rfl (.inl rfl) rfl rfl) i_int)))))))) (fun s H C cl fp => (i_var (i := 3) rfl (.inl rfl) rfl rfl))))))
theorem sc_path_tells : FnScope ["path", "other", "own", "far", "mine", "its", "last", "much", "name"] ["path", "other"] (defScope s_path_tells) := ⟨rfl, rfl, rfl, by decide +kernel, rfl, by decide +kernel, by decide +kernel⟩
set_option maxHeartbeats 4000000 in
theorem ok_path_tells (T : Top K mg) (C_more_above : Cal P w K mg base "more_above" 1 (spW (gam K) [] F_more_above)) (C_often_above : Cal P w K mg base "often_above" 1 (spW (gam K) [] F_often_above)) (C_tupled : Cal P w K mg base "tupled" 6 (spW (gam K) [] (F_tupled 5))) {f : Addr} {fd : FuncData} {dvs : List V} (Fn : FnD K "path_tells" "path_tells" s_path_tells dvs f fd) : FnOk P w K mg base CX0 7 f fd ["path", "other"] (spOf K (spW (gam K) [] F_path_tells)) := by
  refine fn_ok (n := 6) (t := B_path_tells) (by rfl) Fn sc_path_tells fun cdv A outer s H E hr => ?_
  have sc := sc_path_tells
  exact (b_cons (r_par (i := 2) (j := 3) rfl sc.nd rfl rfl (by decide) rfl rfl rfl (IE.io (i_call C_tupled (hr.mono (by first | decide | omega)) rfl (w_nil (a_cons (i_var (i := 0) rfl (.inl rfl) rfl rfl) a_nil)))) (IE.io (i_call C_tupled (hr.mono (by first | decide | omega)) rfl (w_nil (a_cons (i_var (i := 1) rfl (.inl rfl) rfl rfl) a_nil))))) (b_cons (r_asg (IE.ix (i_tup (a_cons (i_call C_often_above (hr.mono (by first | decide | omega)) rfl (w_nil (a_cons (i_var (i := 2) rfl (.inl rfl) rfl rfl) a_nil))) (a_cons (i_call C_often_above (hr.mono (by first | decide | omega)) rfl (w_nil (a_cons (i_var (i := 3) rfl (.inl rfl) rfl rfl) a_nil))) (a_cons (i_ix (fun _ _ => rfl) (iv_var (i := 2) rfl (.inl rfl) rfl rfl) (i_neg i_int)) a_nil))))) (g_tup rfl (gs_cons (g_name (i := 4) sc.nd rfl (by first | exact .inl rfl | exact .inr rfl) (by first | exact .inr rfl | exact .inl rfl)) (gs_cons (g_name (i := 5) sc.nd rfl (by first | exact .inl rfl | exact .inr rfl) (by first | exact .inr rfl | exact .inl rfl)) (gs_cons (g_name (i := 6) sc.nd rfl (by first | exact .inl rfl | exact .inr rfl) (by first | exact .inr rfl | exact .inl rfl)) gs_nil))) rfl)) (b_cons (r_if (t_w (w_or (t_cmp (by first | exact nomark _ | rfl) (k_ne hr.units (i_ix (fun _ _ => rfl) (iv_var (i := 3) rfl (.inl rfl) rfl rfl) (i_neg i_int)) (i_var (i := 6) rfl (.inr (.inl rfl)) rfl rfl))) (w_or1 (t_truth (fun _ => rfl) (IE.iv (i_any rfl rfl T.b_any (IE.iv (IL.frz (l_lc (own := [("name", 8)]) rfl sc.nd (blkOk_by rfl) (by decide) (n_keys (i_var (i := 5) rfl (.inr (.inl rfl)) rfl rfl)) (by decide) (fun s H C cl fp => (g_name (i := 8) sc.nd rfl (by first | exact .inl rfl | exact .inr rfl) (by first | exact .inr rfl | exact .inl rfl))) (fun s H C cl fp => (ts_one (t_cmp (by first | exact nomark _ | rfl) (k_ne hr.units (i_var (i := 8) rfl (.inl rfl) rfl rfl) (i_var (i := 6) rfl (by first | exact .inl rfl | exact .inr (.inl rfl) | exact .inr (.inr rfl)) rfl rfl))))) (fun s H C cl fp => (i_cmp (by first | exact nomark _ | rfl) (k_dnotin hr.units (i_var (i := 8) rfl (.inl rfl) rfl rfl) (i_var (i := 4) rfl (by first | exact .inl rfl | exact .inr (.inl rfl) | exact .inr (.inr rfl)) rfl rfl))))))))))))) (b_one (r_ret i_bl)) b_nil) (b_cons (r_set (i := 7) sc.nd rfl (.inl rfl) (.inr rfl) (IE.io (i_sum rfl rfl T.b_sum (IE.iv (IL.frz (l_lc (own := [("name", 8)]) rfl sc.nd (blkOk_by rfl) (by decide) (n_any (i_call C_more_above (hr.mono (by first | decide | omega)) rfl (w_nil (a_cons (i_var (i := 4) rfl (.inr (.inl rfl)) rfl rfl) (a_cons (i_var (i := 5) rfl (.inr (.inl rfl)) rfl rfl) (a_cons (i_var (i := 6) rfl (.inr (.inl rfl)) rfl rfl) a_nil)))))) (by decide) (fun s H C cl fp => (g_name (i := 8) sc.nd rfl (by first | exact .inl rfl | exact .inr rfl) (by first | exact .inr rfl | exact .inl rfl))) (fun s H C cl fp => ts_nil) (fun s H C cl fp => (i_sub (i_dix hr.units (fun _ _ => rfl) (i_var (i := 5) rfl (by first | exact .inl rfl | exact .inr (.inl rfl) | exact .inr (.inr rfl)) rfl rfl) (i_var (i := 8) rfl (.inl rfl) rfl rfl)) (i_get2 hr.units (i_var (i := 4) rfl (by first | exact .inl rfl | exact .inr (.inl rfl) | exact .inr (.inr rfl)) rfl rfl) (i_var (i := 8) rfl (.inl rfl) rfl rfl) i_int))))))))) (b_one (r_ret (i_cmp (by first | exact nomark _ | rfl) (k_co (i_add (i_get2 hr.units (i_var (i := 5) rfl (.inr (.inl rfl)) rfl rfl) (i_var (i := 6) rfl (.inr (.inl rfl)) rfl rfl) i_int) (i_var (i := 7) rfl (.inl rfl) rfl rfl)) (i_get2 hr.units (i_var (i := 4) rfl (.inr (.inl rfl)) rfl rfl) (i_var (i := 6) rfl (.inr (.inl rfl)) rfl rfl) i_int)))))))))
theorem sc_tellers : FnScope ["paths", "rows", "found", "number", "own", "over", "place", "far"] ["paths"] (defScope s_tellers) := ⟨rfl, rfl, rfl, by decide +kernel, rfl, by decide +kernel, by decide +kernel⟩
set_option maxHeartbeats 4000000 in
theorem ok_tellers (T : Top K mg) (C_path_tells : Cal P w K mg base "path_tells" 7 (spW (gam K) [] F_path_tells)) (C_tupled : Cal P w K mg base "tupled" 6 (spW (gam K) [] (F_tupled 5))) {f : Addr} {fd : FuncData} {dvs : List V} (Fn : FnD K "tellers" "tellers" s_tellers dvs f fd) : FnOk P w K mg base CX0 8 f fd ["paths"] (spOf K (spW (gam K) [] F_tellers)) := by
  refine fn_ok (n := 7) (t := B_tellers) (by rfl) Fn sc_tellers fun cdv A outer s H E hr => ?_
  have sc := sc_tellers
  exact (b_cons (r_set (i := 1) sc.nd rfl (.inl rfl) (.inr rfl) (IE.io (i_call C_tupled (hr.mono (by first | decide | omega)) rfl (w_nil (a_cons (i_var (i := 0) rfl (.inl rfl) rfl rfl) a_nil))))) (b_cons (r_set (i := 2) sc.nd rfl (.inl rfl) (.inr rfl) (IL.io (l_lst a_nil))) (b_cons (r_for PassesOwn.never rfl (n_enumA rfl T.b_enumerate (i_var (i := 1) rfl (.inl rfl) rfl rfl)) (g_tup rfl (gs_cons (g_name (i := 3) sc.nd rfl (by first | exact .inl rfl | exact .inr rfl) (by first | exact .inr rfl | exact .inl rfl)) (gs_cons (g_name (i := 4) sc.nd rfl (by first | exact .inl rfl | exact .inr rfl) (by first | exact .inr rfl | exact .inl rfl)) gs_nil)) rfl) (b_cons (r_setLc (i := 5) (own := [("place", 6), ("far", 7)]) rfl sc.nd rfl rfl (sw_true rfl rfl rfl (by decide +kernel)) (blkOk_by rfl) (by decide) (n_enumA rfl T.b_enumerate (i_var (i := 1) rfl (.inl rfl) rfl rfl)) (by decide) (fun s H C cl fp => (g_tup rfl (gs_cons (g_name (i := 6) sc.nd rfl (by first | exact .inl rfl | exact .inr rfl) (by first | exact .inr rfl | exact .inl rfl)) (gs_cons (g_name (i := 7) sc.nd rfl (by first | exact .inl rfl | exact .inr rfl) (by first | exact .inr rfl | exact .inl rfl)) gs_nil)) rfl)) (fun s H C cl fp => (ts_one (t_w (w_and (t_cmp (by first | exact nomark _ | rfl) (k_ne hr.units (i_var (i := 6) rfl (.inl rfl) rfl rfl) (i_var (i := 3) rfl (by first | exact .inl rfl | exact .inr (.inl rfl) | exact .inr (.inr rfl)) rfl rfl))) (w_and (t_truth (fun _ => rfl) (IE.iv (i_call C_path_tells (hr.mono (by first | decide | omega)) rfl (w_nil (a_cons (i_var (i := 7) rfl (.inl rfl) rfl rfl) (a_cons (i_var (i := 4) rfl (by first | exact .inl rfl | exact .inr (.inl rfl) | exact .inr (.inr rfl)) rfl rfl) a_nil)))))) (w_and1 (t_w (w_or (t_cmp (by first | exact nomark _ | rfl) (k_co (i_var (i := 6) rfl (.inl rfl) rfl rfl) (i_var (i := 3) rfl (by first | exact .inl rfl | exact .inr (.inl rfl) | exact .inr (.inr rfl)) rfl rfl))) (w_or1 (t_not (t_truth (fun _ => rfl) (IE.iv (i_call C_path_tells (hr.mono (by first | decide | omega)) rfl (w_nil (a_cons (i_var (i := 4) rfl (by first | exact .inl rfl | exact .inr (.inl rfl) | exact .inr (.inr rfl)) rfl rfl) (a_cons (i_var (i := 7) rfl (.inl rfl) rfl rfl) a_nil)))))))))))))))) (fun s H C cl fp => (i_var (i := 7) rfl (.inl rfl) rfl rfl))) (b_one (r_if (t_cmp (by first | exact nomark _ | rfl) (k_eq hr.units (i_len rfl T.b_len (iv_var (i := 5) rfl (.inl rfl) rfl rfl)) i_int)) (b_one (r_expr (x_app (i := 2) rfl (.inl rfl) rfl rfl (IE.ix (i_var (i := 3) rfl (.inr (.inl rfl)) rfl rfl))))) b_nil)))) (b_frz (b_one (r_ret (i_tuple rfl rfl T.b_tuple (iv_var (i := 2) rfl (.inl rfl) rfl rfl))))))))
theorem sc__law_cells : FnScope ["_law_script", "_law_top", "_law_cells_here", "_law_k", "_law_cell", "_law_at_so"] ["_law_script", "_law_top"] (defScope s__law_cells) := ⟨rfl, rfl, rfl, by decide +kernel, rfl, by decide +kernel, by decide +kernel⟩
set_option maxHeartbeats 4000000 in
theorem ok__law_cells (T : Top K mg)  {f : Addr} {fd : FuncData} {dvs : List V} (Fn : FnD K "_law_cells" "_law_cells" s__law_cells dvs f fd) : FnOk P w K mg base CX0 1 f fd ["_law_script", "_law_top"] (spOf K (spW (gam K) [] F__law_cells)) := by
  refine fn_ok (n := 0) (t := B__law_cells) (by rfl) Fn sc__law_cells fun cdv A outer s H E hr => ?_
  have sc := sc__law_cells
  exact (b_cons (r_set (i := 2) sc.nd rfl (.inl rfl) (.inr rfl) (io_or (l_list rfl rfl T.b_list (IE.iv (i_sl01 (iv_var (i := 0) rfl (.inl rfl) rfl rfl) (i_var (i := 1) rfl (.inl rfl) rfl rfl)))) (l_lst (a_cons i_int a_nil)))) (b_cons (r_for PassesOwn.never rfl (n_enumA rfl T.b_enumerate (i_sl11 (iv_var (i := 0) rfl (.inl rfl) rfl rfl) (i_var (i := 1) rfl (.inl rfl) rfl rfl) i_int)) (g_tup rfl (gs_cons (g_name (i := 3) sc.nd rfl (by first | exact .inl rfl | exact .inr rfl) (by first | exact .inr rfl | exact .inl rfl)) (gs_cons (g_name (i := 4) sc.nd rfl (by first | exact .inl rfl | exact .inr rfl) (by first | exact .inr rfl | exact .inl rfl)) gs_nil)) rfl) (b_cons (r_set (i := 5) sc.nd rfl (.inl rfl) (.inr rfl) (IE.io (i_mod (i_intc rfl T.b_int (i_var (i := 3) rfl (.inl rfl) rfl rfl)) (i_var (i := 1) rfl (.inl rfl) rfl rfl)))) (b_one (r_put (i := 2) rfl (.inl rfl) rfl rfl (i_add (i_ix (fun _ _ => rfl) (iv_var (i := 2) rfl (.inl rfl) rfl rfl) (i_var (i := 5) rfl (.inl rfl) rfl rfl)) (i_mul (i_var (i := 4) rfl (.inl rfl) rfl rfl) (i_add (i_var (i := 3) rfl (.inl rfl) rfl rfl) i_int))) (i_var (i := 5) rfl (.inl rfl) rfl rfl))))) (b_one (r_retO (i := 2) rfl (.inl rfl) rfl rfl))))
theorem sc__law_of : FnScope ["_law_urn", "_law_some_so"] ["_law_urn", "_law_some_so"] (defScope s__law_of) := ⟨rfl, rfl, rfl, by decide +kernel, rfl, by decide +kernel, by decide +kernel⟩
set_option maxHeartbeats 4000000 in
theorem ok__law_of (T : Top K mg) (C__law_take : Cal P w K mg base "_law_take" 1 (spW (gam K) [] takeP)) {f : Addr} {fd : FuncData} {dvs : List V} (Fn : FnD K "_law_of" "_law_of" s__law_of dvs f fd) : FnOk P w K mg base CX0 2 f fd ["_law_urn", "_law_some_so"] (spOf K (spW (gam K) [false, true] F__law_of)) := by
  refine fn_ok (n := 1) (t := B__law_of) (by rfl) Fn sc__law_of fun cdv A outer s H E hr => ?_
  have sc := sc__law_of
  exact (b_one (r_ret (i_ix (fun _ _ => rfl) (iv_var (i := 1) rfl (.inl rfl) rfl rfl) (i_call C__law_take (hr.mono (by first | decide | omega)) rfl (w_nil (a_cons (i_var (i := 0) rfl (.inl rfl) rfl rfl) (a_cons (i_len rfl T.b_len (iv_var (i := 1) rfl (.inl rfl) rfl rfl)) a_nil)))))))
theorem sc__law_same : FnScope ["_law_got", "_law_goal", "_law_mine_so", "_law_own"] ["_law_got", "_law_goal"] (defScope s__law_same) := ⟨rfl, rfl, rfl, by decide +kernel, rfl, by decide +kernel, by decide +kernel⟩
set_option maxHeartbeats 4000000 in
theorem ok__law_same (T : Top K mg)  {f : Addr} {fd : FuncData} {dvs : List V} (Fn : FnD K "_law_same" "_law_same" s__law_same dvs f fd) (gR : mg "_law_same" = some (.ref f)) (bR : Binds K fd ["_law_got", "_law_goal"] []) : ∀ d : Nat, FnOk P w K mg base CX0 (1 + d) f fd ["_law_got", "_law_goal"] (spOf K (spW (gam K) [] (F__law_same d)))
  | 0 => (fail_ok (n := 0) Fn sc__law_same)
  | d + 1 => by
    have CR : Cal P w K mg base "_law_same" (1 + d) (spW (gam K) [] (F__law_same d)) := ⟨f, fd, _, ok__law_same T  Fn gR bR d, gR, Fn.kp, bR⟩
    refine fn_ok (n := 1 + d) (t := B__law_same (F__law_same d)) (by rfl) Fn sc__law_same fun cdv A outer s H E hr => ?_
    have sc := sc__law_same
    exact (b_cons (r_if (t_truth (fun _ => rfl) (IE.iv (i_isiT rfl T.b_isinstance (i_var (i := 1) rfl (.inl rfl) rfl rfl) (a_cons (i_ty (T := "list") rfl T.b_list (by decide +kernel) (by decide) rfl) (a_cons (i_ty (T := "tuple") rfl T.b_tuple (by decide +kernel) (by decide) rfl) a_nil))))) (b_cons (r_if (t_w (w_or (t_cmp (by first | exact nomark _ | rfl) (k_ne hr.units (i_isi rfl T.b_isinstance (i_var (i := 0) rfl (.inl rfl) rfl rfl) (i_ty (T := "list") rfl T.b_list (by decide +kernel) (by decide) rfl)) (i_isi rfl T.b_isinstance (i_var (i := 1) rfl (.inl rfl) rfl rfl) (i_ty (T := "list") rfl T.b_list (by decide +kernel) (by decide) rfl)))) (w_or1 (t_cmp (by first | exact nomark _ | rfl) (k_ne hr.units (i_isi rfl T.b_isinstance (i_var (i := 0) rfl (.inl rfl) rfl rfl) (i_ty (T := "tuple") rfl T.b_tuple (by decide +kernel) (by decide) rfl)) (i_isi rfl T.b_isinstance (i_var (i := 1) rfl (.inl rfl) rfl rfl) (i_ty (T := "tuple") rfl T.b_tuple (by decide +kernel) (by decide) rfl))))))) (b_one (r_ret i_bl)) b_nil) (b_one (r_ret (i_and (i_cmp (by first | exact nomark _ | rfl) (k_eq hr.units (i_len rfl T.b_len (iv_var (i := 0) rfl (.inl rfl) rfl rfl)) (i_len rfl T.b_len (iv_var (i := 1) rfl (.inl rfl) rfl rfl)))) (i_b1 (i_all rfl rfl T.b_all (IE.iv (IL.frz (l_lc (own := [("_law_mine_so", 2), ("_law_own", 3)]) rfl sc.nd (blkOk_by rfl) (by decide) (n_zip rfl T.b_zip (i_var (i := 0) rfl (.inl rfl) rfl rfl) (i_var (i := 1) rfl (.inl rfl) rfl rfl)) (by decide) (fun s H C cl fp => (g_tup rfl (gs_cons (g_name (i := 2) sc.nd rfl (by first | exact .inl rfl | exact .inr rfl) (by first | exact .inr rfl | exact .inl rfl)) (gs_cons (g_name (i := 3) sc.nd rfl (by first | exact .inl rfl | exact .inr rfl) (by first | exact .inr rfl | exact .inl rfl)) gs_nil)) rfl)) (fun s H C cl fp => ts_nil) (fun s H C cl fp => (i_call CR (hr.mono (by first | decide | omega)) rfl (w_nil (a_cons (i_var (i := 2) rfl (.inl rfl) rfl rfl) (a_cons (i_var (i := 3) rfl (.inl rfl) rfl rfl) a_nil)))))))))))))) b_nil) (b_cons (r_if (t_w (w_or (t_cmp (by first | exact nomark _ | rfl) (k_is (i_var (i := 1) rfl (.inl rfl) rfl rfl))) (w_or1 (t_truth (fun _ => rfl) (IE.iv (i_isiT rfl T.b_isinstance (i_var (i := 1) rfl (.inl rfl) rfl rfl) (a_cons (i_ty (T := "bool") rfl T.b_bool (by decide +kernel) (by decide) rfl) (a_cons (i_ty (T := "str") rfl T.b_str (by decide +kernel) (by decide) rfl) a_nil)))))))) (b_one (r_ret (i_and (i_cmp (by first | exact nomark _ | rfl) (k_eq hr.units (i_var (i := 0) rfl (.inl rfl) rfl rfl) (i_var (i := 1) rfl (.inl rfl) rfl rfl))) (i_and (i_cmp (by first | exact nomark _ | rfl) (k_eq hr.units (i_isi rfl T.b_isinstance (i_var (i := 0) rfl (.inl rfl) rfl rfl) (i_ty (T := "bool") rfl T.b_bool (by decide +kernel) (by decide) rfl)) (i_isi rfl T.b_isinstance (i_var (i := 1) rfl (.inl rfl) rfl rfl) (i_ty (T := "bool") rfl T.b_bool (by decide +kernel) (by decide) rfl)))) (i_b1 (i_cmp (by first | exact nomark _ | rfl) (k_eq hr.units (i_cmp (by first | exact nomark _ | rfl) (k_is (i_var (i := 0) rfl (.inl rfl) rfl rfl))) (i_cmp (by first | exact nomark _ | rfl) (k_is (i_var (i := 1) rfl (.inl rfl) rfl rfl)))))))))) b_nil) (b_one (r_ret (i_and (i_isi rfl T.b_isinstance (i_var (i := 0) rfl (.inl rfl) rfl rfl) (i_ty (T := "int") rfl T.b_int (by decide +kernel) (by decide) rfl)) (i_and (i_not (i_isi rfl T.b_isinstance (i_var (i := 0) rfl (.inl rfl) rfl rfl) (i_ty (T := "bool") rfl T.b_bool (by decide +kernel) (by decide) rfl))) (i_b1 (i_cmp (by first | exact nomark _ | rfl) (k_eq hr.units (i_var (i := 0) rfl (.inl rfl) rfl rfl) (i_var (i := 1) rfl (.inl rfl) rfl rfl))))))))))
theorem sc__law_pick : FnScope ["_law_urn", "_law_pool", "_law_many_so", "_law_rest_so", "_law_found", "_law_turn"] ["_law_urn", "_law_pool", "_law_many_so"] (defScope s__law_pick) := ⟨rfl, rfl, rfl, by decide +kernel, rfl, by decide +kernel, by decide +kernel⟩
set_option maxHeartbeats 4000000 in
theorem ok__law_pick (T : Top K mg) (C__law_take : Cal P w K mg base "_law_take" 1 (spW (gam K) [] takeP)) {f : Addr} {fd : FuncData} {dvs : List V} (Fn : FnD K "_law_pick" "_law_pick" s__law_pick dvs f fd) : FnOk P w K mg base CX0 2 f fd ["_law_urn", "_law_pool", "_law_many_so"] (spOf K (spW (gam K) [] F__law_pick)) := by
  refine fn_ok (n := 1) (t := B__law_pick) (by rfl) Fn sc__law_pick fun cdv A outer s H E hr => ?_
  have sc := sc__law_pick
  exact (b_cons (r_par (i := 3) (j := 4) rfl sc.nd rfl rfl (by decide) rfl rfl rfl (IL.io (l_list rfl rfl T.b_list (iv_var (i := 1) rfl (.inl rfl) rfl rfl))) (IL.io (l_lst a_nil))) (b_cons (r_for PassesOwn.never rfl (n_rg1 rfl T.b_range (i_min2 rfl rfl T.b_min (i_var (i := 2) rfl (.inl rfl) rfl rfl) (i_len rfl T.b_len (iv_var (i := 3) rfl (.inl rfl) rfl rfl)))) (g_name (i := 5) sc.nd rfl (by first | exact .inl rfl | exact .inr rfl) (by first | exact .inr rfl | exact .inl rfl)) (b_one (r_expr (x_app (i := 4) rfl (.inl rfl) rfl rfl (x_pop (i := 3) rfl (.inl rfl) rfl rfl (i_call C__law_take (hr.mono (by first | decide | omega)) rfl (w_nil (a_cons (i_var (i := 0) rfl (.inl rfl) rfl rfl) (a_cons (i_len rfl T.b_len (iv_var (i := 3) rfl (.inl rfl) rfl rfl)) a_nil))))))))) (b_one (r_retO (i := 4) rfl (.inl rfl) rfl rfl))))
theorem sc__law_tags : FnScope ["_law_urn", "_law_many_so"] ["_law_urn", "_law_many_so"] (defScope s__law_tags) := ⟨rfl, rfl, rfl, by decide +kernel, rfl, by decide +kernel, by decide +kernel⟩
set_option maxHeartbeats 4000000 in
theorem ok__law_tags (T : Top K mg) (C__law_pick : Cal P w K mg base "_law_pick" 2 (spW (gam K) [] F__law_pick)) {f : Addr} {fd : FuncData} {dvs : List V} (Fn : FnD K "_law_tags" "_law_tags" s__law_tags dvs f fd) : FnOk P w K mg base CX0 3 f fd ["_law_urn", "_law_many_so"] (spOf K (spW (gam K) [] F__law_tags)) := by
  refine fn_ok (n := 2) (t := B__law_tags) (by rfl) Fn sc__law_tags fun cdv A outer s H E hr => ?_
  have sc := sc__law_tags
  exact (b_one (r_ret (IL.frz (l_sorted rfl T.b_sorted (IE.iv (i_call C__law_pick (hr.mono (by first | decide | omega)) rfl (w_nil (a_cons (i_var (i := 0) rfl (.inl rfl) rfl rfl) (a_cons (IL.frz (l_lst (a_cons i_str (a_cons i_str (a_cons i_str (a_cons i_str (a_cons i_str (a_cons i_str (a_cons i_str (a_cons i_str a_nil)))))))))) (a_cons (i_var (i := 1) rfl (.inl rfl) rfl rfl) a_nil))))))))))
theorem sc__law_trail : FnScope ["_law_urn", "_law_tags_here", "_law_most_so", "_law_turn"] ["_law_urn", "_law_tags_here", "_law_most_so"] (defScope s__law_trail) := ⟨rfl, rfl, rfl, by decide +kernel, rfl, by decide +kernel, by decide +kernel⟩
set_option maxHeartbeats 4000000 in
theorem ok__law_trail (T : Top K mg) (C__law_of : Cal P w K mg base "_law_of" 2 (spW (gam K) [false, true] F__law_of)) (C__law_take : Cal P w K mg base "_law_take" 1 (spW (gam K) [] takeP)) {f : Addr} {fd : FuncData} {dvs : List V} (Fn : FnD K "_law_trail" "_law_trail" s__law_trail dvs f fd) : FnOk P w K mg base CX0 3 f fd ["_law_urn", "_law_tags_here", "_law_most_so"] (spOf K (spW (gam K) [] F__law_trail)) := by
  refine fn_ok (n := 2) (t := B__law_trail) (by rfl) Fn sc__law_trail fun cdv A outer s H E hr => ?_
  have sc := sc__law_trail
  exact (b_one (r_ret (i_tuple rfl rfl T.b_tuple (IE.iv (IL.frz (l_lc (own := [("_law_turn", 3)]) rfl sc.nd (blkOk_by rfl) (by decide) (n_rg1 rfl T.b_range (i_add i_int (i_call C__law_take (hr.mono (by first | decide | omega)) rfl (w_nil (a_cons (i_var (i := 0) rfl (.inr (.inl rfl)) rfl rfl) (a_cons (i_var (i := 2) rfl (.inl rfl) rfl rfl) a_nil)))))) (by decide) (fun s H C cl fp => (g_name (i := 3) sc.nd rfl (by first | exact .inl rfl | exact .inr rfl) (by first | exact .inr rfl | exact .inl rfl))) (fun s H C cl fp => ts_nil) (fun s H C cl fp => (i_call C__law_of (hr.mono (by first | decide | omega)) rfl (w_v (i_var (i := 0) rfl (by first | exact .inl rfl | exact .inr (.inl rfl) | exact .inr (.inr rfl)) rfl rfl) (w_w (iv_var (i := 1) rfl (by first | exact .inl rfl | exact .inr (.inl rfl) | exact .inr (.inr rfl)) rfl rfl) (w_nil a_nil)))))))))))
theorem sc__law_above : FnScope ["_law_row", "_law_tag", "_law_own"] ["_law_row", "_law_tag"] (defScope s__law_above) := ⟨rfl, rfl, rfl, by decide +kernel, rfl, by decide +kernel, by decide +kernel⟩
set_option maxHeartbeats 4000000 in
theorem ok__law_above (T : Top K mg)  {f : Addr} {fd : FuncData} {dvs : List V} (Fn : FnD K "_law_above" "_law_above" s__law_above dvs f fd) : FnOk P w K mg base CX0 1 f fd ["_law_row", "_law_tag"] (spOf K (spW (gam K) [] F__law_above)) := by
  refine fn_ok (n := 0) (t := B__law_above) (by rfl) Fn sc__law_above fun cdv A outer s H E hr => ?_
  have sc := sc__law_above
  exact (b_one (r_ret (i_len rfl T.b_len (IE.iv (IL.frz (l_lc (own := [("_law_own", 2)]) rfl sc.nd (blkOk_by rfl) (by decide) (n_any (i_sl01 (iv_var (i := 0) rfl (.inl rfl) rfl rfl) (i_neg i_int))) (by decide) (fun s H C cl fp => (g_name (i := 2) sc.nd rfl (by first | exact .inl rfl | exact .inr rfl) (by first | exact .inr rfl | exact .inl rfl))) (fun s H C cl fp => (ts_one (t_cmp (by first | exact nomark _ | rfl) (k_eq hr.units (i_var (i := 2) rfl (.inl rfl) rfl rfl) (i_var (i := 1) rfl (by first | exact .inl rfl | exact .inr (.inl rfl) | exact .inr (.inr rfl)) rfl rfl))))) (fun s H C cl fp => (i_var (i := 2) rfl (.inl rfl) rfl rfl))))))))
theorem sc__law_tells : FnScope ["_law_row", "_law_far", "_law_others_so", "_law_more_so", "_law_own"] ["_law_row", "_law_far"] (defScope s__law_tells) := ⟨rfl, rfl, rfl, by decide +kernel, rfl, by decide +kernel, by decide +kernel⟩
set_option maxHeartbeats 4000000 in
theorem ok__law_tells (T : Top K mg) (C__law_above : Cal P w K mg base "_law_above" 1 (spW (gam K) [] F__law_above)) {f : Addr} {fd : FuncData} {dvs : List V} (Fn : FnD K "_law_tells" "_law_tells" s__law_tells dvs f fd) : FnOk P w K mg base CX0 2 f fd ["_law_row", "_law_far"] (spOf K (spW (gam K) [] F__law_tells)) := by
  refine fn_ok (n := 1) (t := B__law_tells) (by rfl) Fn sc__law_tells fun cdv A outer s H E hr => ?_
  have sc := sc__law_tells
  exact (b_cons (r_set (i := 2) sc.nd rfl (.inl rfl) (.inr rfl) (IE.io (IL.frz (l_sortSet rfl rfl T.b_sorted rfl T.b_set (IE.iv (IL.frz (l_lc (own := [("_law_own", 4)]) rfl sc.nd (blkOk_by rfl) (by decide) (n_any (i_sl01 (iv_var (i := 1) rfl (.inr (.inl rfl)) rfl rfl) (i_neg i_int))) (by decide) (fun s H C cl fp => (g_name (i := 4) sc.nd rfl (by first | exact .inl rfl | exact .inr rfl) (by first | exact .inr rfl | exact .inl rfl))) (fun s H C cl fp => (ts_one (t_cmp (by first | exact nomark _ | rfl) (k_ne hr.units (i_var (i := 4) rfl (.inl rfl) rfl rfl) (i_ix (fun _ _ => rfl) (iv_var (i := 0) rfl (by first | exact .inl rfl | exact .inr (.inl rfl) | exact .inr (.inr rfl)) rfl rfl) (i_neg i_int)))))) (fun s H C cl fp => (i_var (i := 4) rfl (.inl rfl) rfl rfl))))))))) (b_cons (r_if (t_w (w_or (t_cmp (by first | exact nomark _ | rfl) (k_ne hr.units (i_ix (fun _ _ => rfl) (iv_var (i := 1) rfl (.inr (.inl rfl)) rfl rfl) (i_neg i_int)) (i_ix (fun _ _ => rfl) (iv_var (i := 0) rfl (.inr (.inl rfl)) rfl rfl) (i_neg i_int)))) (w_or1 (t_cmp (by first | exact nomark _ | rfl) (k_ne hr.units (IL.frz (l_lc (own := [("_law_own", 4)]) rfl sc.nd (blkOk_by rfl) (by decide) (n_any (i_var (i := 2) rfl (.inl rfl) rfl rfl)) (by decide) (fun s H C cl fp => (g_name (i := 4) sc.nd rfl (by first | exact .inl rfl | exact .inr rfl) (by first | exact .inr rfl | exact .inl rfl))) (fun s H C cl fp => (ts_one (t_cmp (by first | exact nomark _ | rfl) (k_notin (i_var (i := 4) rfl (.inl rfl) rfl rfl) (IE.iv (i_sl01 (iv_var (i := 0) rfl (by first | exact .inl rfl | exact .inr (.inl rfl) | exact .inr (.inr rfl)) rfl rfl) (i_neg i_int))))))) (fun s H C cl fp => (i_var (i := 4) rfl (.inl rfl) rfl rfl)))) (IL.frz (l_lst a_nil))))))) (b_one (r_ret i_bl)) b_nil) (b_cons (r_set (i := 3) sc.nd rfl (.inl rfl) (.inr rfl) (IE.io (i_sum rfl rfl T.b_sum (IE.iv (IL.frz (l_lc (own := [("_law_own", 4)]) rfl sc.nd (blkOk_by rfl) (by decide) (n_any (i_var (i := 2) rfl (.inl rfl) rfl rfl)) (by decide) (fun s H C cl fp => (g_name (i := 4) sc.nd rfl (by first | exact .inl rfl | exact .inr rfl) (by first | exact .inr rfl | exact .inl rfl))) (fun s H C cl fp => ts_nil) (fun s H C cl fp => (i_max2 rfl rfl T.b_max i_int (i_sub (i_call C__law_above (hr.mono (by first | decide | omega)) rfl (w_nil (a_cons (i_var (i := 1) rfl (by first | exact .inl rfl | exact .inr (.inl rfl) | exact .inr (.inr rfl)) rfl rfl) (a_cons (i_var (i := 4) rfl (.inl rfl) rfl rfl) a_nil)))) (i_call C__law_above (hr.mono (by first | decide | omega)) rfl (w_nil (a_cons (i_var (i := 0) rfl (by first | exact .inl rfl | exact .inr (.inl rfl) | exact .inr (.inr rfl)) rfl rfl) (a_cons (i_var (i := 4) rfl (.inl rfl) rfl rfl) a_nil))))))))))))) (b_one (r_ret (i_cmp (by first | exact nomark _ | rfl) (k_co (i_add (i_call C__law_above (hr.mono (by first | decide | omega)) rfl (w_nil (a_cons (i_var (i := 1) rfl (.inr (.inl rfl)) rfl rfl) (a_cons (i_ix (fun _ _ => rfl) (iv_var (i := 0) rfl (.inr (.inl rfl)) rfl rfl) (i_neg i_int)) a_nil)))) (i_var (i := 3) rfl (.inl rfl) rfl rfl)) (i_call C__law_above (hr.mono (by first | decide | omega)) rfl (w_nil (a_cons (i_var (i := 0) rfl (.inr (.inl rfl)) rfl rfl) (a_cons (i_ix (fun _ _ => rfl) (iv_var (i := 0) rfl (.inr (.inl rfl)) rfl rfl) (i_neg i_int)) a_nil)))))))))))
theorem sc__law_due : FnScope ["_law_rows", "_law_found", "_law_k", "_law_own", "_law_over_so", "_law_j"] ["_law_rows"] (defScope s__law_due) := ⟨rfl, rfl, rfl, by decide +kernel, rfl, by decide +kernel, by decide +kernel⟩
set_option maxHeartbeats 4000000 in
theorem ok__law_due (T : Top K mg) (C__law_tells : Cal P w K mg base "_law_tells" 2 (spW (gam K) [] F__law_tells)) {f : Addr} {fd : FuncData} {dvs : List V} (Fn : FnD K "_law_due" "_law_due" s__law_due dvs f fd) : FnOk P w K mg base CX0 3 f fd ["_law_rows"] (spOf K (spW (gam K) [] F__law_due)) := by
  refine fn_ok (n := 2) (t := B__law_due) (by rfl) Fn sc__law_due fun cdv A outer s H E hr => ?_
  have sc := sc__law_due
  exact (b_cons (r_set (i := 1) sc.nd rfl (.inl rfl) (.inr rfl) (IL.io (l_lst a_nil))) (b_cons (r_for PassesOwn.never rfl (n_enumA rfl T.b_enumerate (i_var (i := 0) rfl (.inr (.inl rfl)) rfl rfl)) (g_tup rfl (gs_cons (g_name (i := 2) sc.nd rfl (by first | exact .inl rfl | exact .inr rfl) (by first | exact .inr rfl | exact .inl rfl)) (gs_cons (g_name (i := 3) sc.nd rfl (by first | exact .inl rfl | exact .inr rfl) (by first | exact .inr rfl | exact .inl rfl)) gs_nil)) rfl) (b_cons (r_setLc (i := 4) (own := [("_law_j", 5)]) rfl sc.nd rfl rfl (sw_true rfl rfl rfl (by decide +kernel)) (blkOk_by rfl) (by decide) (n_rg1 rfl T.b_range (i_len rfl T.b_len (iv_var (i := 0) rfl (.inr (.inl rfl)) rfl rfl))) (by decide) (fun s H C cl fp => (g_name (i := 5) sc.nd rfl (by first | exact .inl rfl | exact .inr rfl) (by first | exact .inr rfl | exact .inl rfl))) (fun s H C cl fp => (ts_one (t_w (w_and (t_cmp (by first | exact nomark _ | rfl) (k_ne hr.units (i_var (i := 5) rfl (.inl rfl) rfl rfl) (i_var (i := 2) rfl (by first | exact .inl rfl | exact .inr (.inl rfl) | exact .inr (.inr rfl)) rfl rfl))) (w_and1 (t_truth (fun _ => rfl) (IE.iv (i_call C__law_tells (hr.mono (by first | decide | omega)) rfl (w_nil (a_cons (i_ix (fun _ _ => rfl) (iv_var (i := 0) rfl (by first | exact .inl rfl | exact .inr (.inl rfl) | exact .inr (.inr rfl)) rfl rfl) (i_var (i := 5) rfl (.inl rfl) rfl rfl)) (a_cons (i_var (i := 3) rfl (by first | exact .inl rfl | exact .inr (.inl rfl) | exact .inr (.inr rfl)) rfl rfl) a_nil))))))))))) (fun s H C cl fp => (i_var (i := 5) rfl (.inl rfl) rfl rfl))) (b_one (r_if (t_cmp (by first | exact nomark _ | rfl) (k_eq hr.units (IL.frz (l_lc (own := [("_law_j", 5)]) rfl sc.nd (blkOk_by rfl) (by decide) (n_any (i_var (i := 4) rfl (.inl rfl) rfl rfl)) (by decide) (fun s H C cl fp => (g_name (i := 5) sc.nd rfl (by first | exact .inl rfl | exact .inr rfl) (by first | exact .inr rfl | exact .inl rfl))) (fun s H C cl fp => (ts_one (t_w (w_or (t_cmp (by first | exact nomark _ | rfl) (k_co (i_var (i := 5) rfl (.inl rfl) rfl rfl) (i_var (i := 2) rfl (by first | exact .inl rfl | exact .inr (.inl rfl) | exact .inr (.inr rfl)) rfl rfl))) (w_or1 (t_not (t_truth (fun _ => rfl) (IE.iv (i_call C__law_tells (hr.mono (by first | decide | omega)) rfl (w_nil (a_cons (i_var (i := 3) rfl (by first | exact .inl rfl | exact .inr (.inl rfl) | exact .inr (.inr rfl)) rfl rfl) (a_cons (i_ix (fun _ _ => rfl) (iv_var (i := 0) rfl (by first | exact .inl rfl | exact .inr (.inl rfl) | exact .inr (.inr rfl)) rfl rfl) (i_var (i := 5) rfl (.inl rfl) rfl rfl)) a_nil)))))))))))) (fun s H C cl fp => (i_var (i := 5) rfl (.inl rfl) rfl rfl)))) (IL.frz (l_lst a_nil)))) (b_one (r_expr (x_app (i := 1) rfl (.inl rfl) rfl rfl (IE.ix (i_var (i := 2) rfl (.inr (.inl rfl)) rfl rfl))))) b_nil)))) (b_frz (b_one (r_ret (i_tuple rfl rfl T.b_tuple (iv_var (i := 1) rfl (.inl rfl) rfl rfl)))))))
theorem sc__law_by_hand_right : FnScope ["_law_cases", "_law_k", "_law_own", "_law_rows", "_law_due_here"] [] (defScope s__law_by_hand_right) := ⟨rfl, rfl, rfl, by decide +kernel, rfl, by decide +kernel, by decide +kernel⟩
set_option maxHeartbeats 4000000 in
theorem ok__law_by_hand_right (T : Top K mg) (C__law_same : Cal P w K mg base "_law_same" 6 (spW (gam K) [] (F__law_same 5))) (C_tellers : Cal P w K mg base "tellers" 8 (spW (gam K) [] F_tellers)) {f : Addr} {fd : FuncData} {dvs : List V} (Fn : FnD K "_law_by_hand_right" "_law_by_hand_right" s__law_by_hand_right dvs f fd) : FnOk P w K mg base CX0 9 f fd [] (spOf K (spW (gam K) [] F__law_by_hand_right)) := by
  refine fn_ok (n := 8) (t := B__law_by_hand_right) (by rfl) Fn sc__law_by_hand_right fun cdv A outer s H E hr => ?_
  have sc := sc__law_by_hand_right
  exact (b_cons (r_set (i := 0) sc.nd rfl (.inl rfl) (.inr rfl) (IL.io (l_lst (a_cons (i_tup (a_cons (i_tup a_nil) (a_cons (i_tup a_nil) a_nil))) (a_cons (i_tup (a_cons (i_tup (a_cons i_str a_nil)) (a_cons (i_tup (a_cons i_int a_nil)) a_nil))) (a_cons (i_tup (a_cons (i_tup (a_cons i_str (a_cons i_str (a_cons i_str (a_cons i_str a_nil))))) (a_cons (i_tup (a_cons i_int a_nil)) a_nil))) (a_cons (i_tup (a_cons (i_tup (a_cons i_str (a_cons i_str (a_cons i_str a_nil)))) (a_cons (i_tup (a_cons i_int (a_cons i_int a_nil))) a_nil))) (a_cons (i_tup (a_cons (i_tup (a_cons i_str (a_cons i_str a_nil))) (a_cons (i_tup (a_cons i_int (a_cons i_int a_nil))) a_nil))) a_nil)))))))) (b_cons (r_set (i := 0) sc.nd rfl (.inl rfl) (.inr rfl) (IL.io (l_add (iv_var (i := 0) rfl (.inl rfl) rfl rfl) (IE.iv (IL.frz (l_lst (a_cons (i_tup (a_cons (i_tup (a_cons i_str (a_cons i_str (a_cons i_str a_nil)))) (a_cons (i_tup (a_cons i_int a_nil)) a_nil))) (a_cons (i_tup (a_cons (i_tup (a_cons i_str (a_cons i_str a_nil))) (a_cons (i_tup (a_cons i_int a_nil)) a_nil))) (a_cons (i_tup (a_cons (i_tup (a_cons i_str (a_cons i_str a_nil))) (a_cons (i_tup (a_cons i_int a_nil)) a_nil))) (a_cons (i_tup (a_cons (i_tup (a_cons i_str (a_cons i_str (a_cons i_str a_nil)))) (a_cons (i_tup (a_cons i_int a_nil)) a_nil))) a_nil)))))))))) (b_cons (r_set (i := 0) sc.nd rfl (.inl rfl) (.inr rfl) (IL.io (l_add (iv_var (i := 0) rfl (.inl rfl) rfl rfl) (IE.iv (IL.frz (l_lst (a_cons (i_tup (a_cons (i_tup (a_cons i_str (a_cons i_str (a_cons i_str a_nil)))) (a_cons (i_tup (a_cons i_int a_nil)) a_nil))) (a_cons (i_tup (a_cons (i_tup (a_cons i_str (a_cons i_str a_nil))) (a_cons (i_tup (a_cons i_int (a_cons i_int a_nil))) a_nil))) (a_cons (i_tup (a_cons (i_tup (a_cons i_str (a_cons i_str (a_cons i_str (a_cons i_str (a_cons i_str (a_cons i_str a_nil))))))) (a_cons (i_tup (a_cons i_int (a_cons i_int (a_cons i_int a_nil)))) a_nil))) a_nil))))))))) (b_cons (r_expr (x_app (i := 0) rfl (.inl rfl) rfl rfl (IE.ix (i_tup (a_cons (IL.frz (l_lc (own := [("_law_k", 1)]) rfl sc.nd (blkOk_by rfl) (by decide) (n_rg1 rfl T.b_range i_int) (by decide) (fun s H C cl fp => (g_name (i := 1) sc.nd rfl (by first | exact .inl rfl | exact .inr rfl) (by first | exact .inr rfl | exact .inl rfl))) (fun s H C cl fp => ts_nil) (fun s H C cl fp => (i_add (i_smul i_str (i_var (i := 1) rfl (.inl rfl) rfl rfl)) i_str)))) (a_cons (i_tup (a_cons i_int a_nil)) a_nil)))))) (b_cons (r_expr (x_app (i := 0) rfl (.inl rfl) rfl rfl (IE.ix (i_tup (a_cons (IL.frz (l_lc (own := [("_law_k", 1)]) rfl sc.nd (blkOk_by rfl) (by decide) (n_rg1 rfl T.b_range i_int) (by decide) (fun s H C cl fp => (g_name (i := 1) sc.nd rfl (by first | exact .inl rfl | exact .inr rfl) (by first | exact .inr rfl | exact .inl rfl))) (fun s H C cl fp => ts_nil) (fun s H C cl fp => (i_add (i_smul i_str (i_mod (i_var (i := 1) rfl (.inl rfl) rfl rfl) i_int)) (i_ix (fun _ _ => rfl) (IE.iv i_str) (i_fdiv (i_var (i := 1) rfl (.inl rfl) rfl rfl) i_int)))))) (a_cons (i_tup (a_cons i_int (a_cons i_int a_nil))) a_nil)))))) (b_frz (b_one (r_ret (i_all rfl rfl T.b_all (IE.iv (IL.frz (l_lc (own := [("_law_rows", 3), ("_law_due_here", 4)]) rfl sc.nd (blkOk_by rfl) (by decide) (n_any (i_var (i := 0) rfl (.inl rfl) rfl rfl)) (by decide) (fun s H C cl fp => (g_tup rfl (gs_cons (g_name (i := 3) sc.nd rfl (by first | exact .inl rfl | exact .inr rfl) (by first | exact .inr rfl | exact .inl rfl)) (gs_cons (g_name (i := 4) sc.nd rfl (by first | exact .inl rfl | exact .inr rfl) (by first | exact .inr rfl | exact .inl rfl)) gs_nil)) rfl)) (fun s H C cl fp => ts_nil) (fun s H C cl fp => (i_call C__law_same (hr.mono (by first | decide | omega)) rfl (w_nil (a_cons (i_call C_tellers (hr.mono (by first | decide | omega)) rfl (w_nil (a_cons (i_tuple rfl rfl T.b_tuple (IE.iv (IL.frz (l_lc (own := [("_law_own", 2)]) rfl sc.nd (blkOk_by rfl) (by decide) (n_any (i_var (i := 3) rfl (.inl rfl) rfl rfl)) (by decide) (fun s H C cl fp => (g_name (i := 2) sc.nd rfl (by first | exact .inl rfl | exact .inr rfl) (by first | exact .inr rfl | exact .inl rfl))) (fun s H C cl fp => ts_nil) (fun s H C cl fp => (i_tuple rfl rfl T.b_tuple (iv_var (i := 2) rfl (.inl rfl) rfl rfl))))))) a_nil))) (a_cons (i_var (i := 4) rfl (.inl rfl) rfl rfl) a_nil)))))))))))))))))
theorem sc__law_right : FnScope ["_law_urn", "_law_turn", "_law_tags_here", "_law_rows", "_law_lap", "_law_own", "_law_told", "_law_k", "_law_j"] ["_law_urn"] (defScope s__law_right) := ⟨rfl, rfl, rfl, by decide +kernel, rfl, by decide +kernel, by decide +kernel⟩
set_option maxHeartbeats 4000000 in
theorem ok__law_right (T : Top K mg) (CK_tellers_paths : CalK P w K mg base "tellers" 8 0 ["paths"] (fun a b => a ++ b) (spW (gam K) [] F_tellers)) (C__law_due : Cal P w K mg base "_law_due" 3 (spW (gam K) [] F__law_due)) (C__law_of : Cal P w K mg base "_law_of" 2 (spW (gam K) [false, true] F__law_of)) (C__law_pick : Cal P w K mg base "_law_pick" 2 (spW (gam K) [] F__law_pick)) (C__law_same : Cal P w K mg base "_law_same" 6 (spW (gam K) [] (F__law_same 5))) (C__law_tags : Cal P w K mg base "_law_tags" 3 (spW (gam K) [] F__law_tags)) (C__law_take : Cal P w K mg base "_law_take" 1 (spW (gam K) [] takeP)) (C__law_trail : Cal P w K mg base "_law_trail" 3 (spW (gam K) [] F__law_trail)) (C_path_tells : Cal P w K mg base "path_tells" 7 (spW (gam K) [] F_path_tells)) (C_tellers : Cal P w K mg base "tellers" 8 (spW (gam K) [] F_tellers)) {f : Addr} {fd : FuncData} {dvs : List V} (Fn : FnD K "_law_right" "_law_right" s__law_right dvs f fd) : FnOk P w K mg base CX0 9 f fd ["_law_urn"] (spOf K (spW (gam K) [] F__law_right)) := by
  refine fn_ok (n := 8) (t := B__law_right) (by rfl) Fn sc__law_right fun cdv A outer s H E hr => ?_
  have sc := sc__law_right
  exact (b_cons (r_for PassesOwn.never rfl (n_rg1 rfl T.b_range i_int) (g_name (i := 1) sc.nd rfl (by first | exact .inl rfl | exact .inr rfl) (by first | exact .inr rfl | exact .inl rfl)) (b_cons (r_set (i := 2) sc.nd rfl (.inr rfl) (.inl rfl) (IE.io (i_call C__law_tags (hr.mono (by first | decide | omega)) rfl (w_nil (a_cons (i_var (i := 0) rfl (.inr (.inl rfl)) rfl rfl) (a_cons (i_add i_int (i_call C__law_take (hr.mono (by first | decide | omega)) rfl (w_nil (a_cons (i_var (i := 0) rfl (.inr (.inl rfl)) rfl rfl) (a_cons i_int a_nil))))) a_nil)))))) (b_cons (r_set (i := 3) sc.nd rfl (.inr rfl) (.inl rfl) (IL.io (l_lc (own := [("_law_lap", 4)]) rfl sc.nd (blkOk_by rfl) (by decide) (n_rg1 rfl T.b_range (i_call C__law_take (hr.mono (by first | decide | omega)) rfl (w_nil (a_cons (i_var (i := 0) rfl (.inr (.inl rfl)) rfl rfl) (a_cons i_int a_nil))))) (by decide) (fun s H C cl fp => (g_name (i := 4) sc.nd rfl (by first | exact .inl rfl | exact .inr rfl) (by first | exact .inr rfl | exact .inl rfl))) (fun s H C cl fp => ts_nil) (fun s H C cl fp => (i_call C__law_trail (hr.mono (by first | decide | omega)) rfl (w_nil (a_cons (i_var (i := 0) rfl (by first | exact .inl rfl | exact .inr (.inl rfl) | exact .inr (.inr rfl)) rfl rfl) (a_cons (i_var (i := 2) rfl (by first | exact .inl rfl | exact .inr (.inl rfl) | exact .inr (.inr rfl)) rfl rfl) (a_cons i_int a_nil))))))))) (b_cons (r_if (t_w (w_and (t_cmp (by first | exact nomark _ | rfl) (k_neV hr.units (iv_var (i := 3) rfl (.inr (.inl rfl)) rfl rfl) (IL.frz (l_lst a_nil)))) (w_and1 (t_cmp (by first | exact nomark _ | rfl) (k_eq hr.units (i_call C__law_take (hr.mono (by first | decide | omega)) rfl (w_nil (a_cons (i_var (i := 0) rfl (.inr (.inl rfl)) rfl rfl) (a_cons i_int a_nil)))) i_int))))) (b_cons (r_set (i := 5) sc.nd rfl (.inl rfl) (.inr rfl) (IE.io (i_call C__law_of (hr.mono (by first | decide | omega)) rfl (w_v (i_var (i := 0) rfl (.inr (.inl rfl)) rfl rfl) (w_w (iv_var (i := 3) rfl (.inr (.inl rfl)) rfl rfl) (w_nil a_nil)))))) (b_one (r_expr (x_app (i := 3) rfl (.inr (.inl rfl)) rfl rfl (IE.ix (i_add (i_tuple rfl rfl T.b_tuple (IE.iv (i_call C__law_pick (hr.mono (by first | decide | omega)) rfl (w_nil (a_cons (i_var (i := 0) rfl (.inr (.inl rfl)) rfl rfl) (a_cons (i_sl01 (iv_var (i := 5) rfl (.inl rfl) rfl rfl) (i_neg i_int)) (a_cons (i_len rfl T.b_len (iv_var (i := 5) rfl (.inl rfl) rfl rfl)) a_nil))))))) (i_sl10 (iv_var (i := 5) rfl (.inl rfl) rfl rfl) (i_neg i_int)))))))) b_nil) (b_frz (b_cons (r_set (i := 6) sc.nd rfl (.inr rfl) (.inl rfl) (IE.io (i_call C_tellers (hr.mono (by first | decide | omega)) rfl (w_nil (a_cons (i_tuple rfl rfl T.b_tuple (iv_var (i := 3) rfl (.inr (.inl rfl)) rfl rfl)) a_nil))))) (b_cons (r_if (t_not (t_truth (fun _ => rfl) (IE.iv (i_call C__law_same (hr.mono (by first | decide | omega)) rfl (w_nil (a_cons (IL.frz (l_lst (a_cons (i_var (i := 6) rfl (.inr (.inl rfl)) rfl rfl) (a_cons (i_callK0 CK_tellers_paths (hr.mono (by first | decide | omega)) rfl ordA (k_cons (IL.frz (l_lc (own := [("_law_own", 5)]) rfl sc.nd (blkOk_by rfl) (by decide) (n_any (i_var (i := 3) rfl (.inr (.inl rfl)) rfl rfl)) (by decide) (fun s H C cl fp => (g_name (i := 5) sc.nd rfl (by first | exact .inl rfl | exact .inr rfl) (by first | exact .inr rfl | exact .inl rfl))) (fun s H C cl fp => ts_nil) (fun s H C cl fp => (IL.frz (l_list rfl rfl T.b_list (iv_var (i := 5) rfl (.inl rfl) rfl rfl)))))) k_nil)) a_nil)))) (a_cons (i_mul (IL.frz (l_lst (a_cons (i_call C__law_due (hr.mono (by first | decide | omega)) rfl (w_nil (a_cons (i_var (i := 3) rfl (.inr (.inl rfl)) rfl rfl) a_nil))) a_nil))) i_int) a_nil))))))) (b_one (r_ret i_bl)) b_nil) (b_one (r_if (t_not (t_truth (fun _ => rfl) (IE.iv (i_all rfl rfl T.b_all (IE.iv (IL.frz (l_lc (own := [("_law_j", 8)]) rfl sc.nd (blkOk_by rfl) (by decide) (n_rg1 rfl T.b_range (i_len rfl T.b_len (iv_var (i := 3) rfl (.inr (.inl rfl)) rfl rfl))) (by decide) (fun s H C cl fp => (g_name (i := 8) sc.nd rfl (by first | exact .inl rfl | exact .inr rfl) (by first | exact .inr rfl | exact .inl rfl))) (fun s H C cl fp => ts_nil) (fun s H C cl fp => (i_any rfl rfl T.b_any (IE.iv (IL.frz (l_lc (own := [("_law_k", 7)]) rfl sc.nd (blkOk_by rfl) (by decide) (n_any (i_var (i := 6) rfl (by first | exact .inl rfl | exact .inr (.inl rfl) | exact .inr (.inr rfl)) rfl rfl)) (by decide) (fun s H C cl fp => (g_name (i := 7) sc.nd rfl (by first | exact .inl rfl | exact .inr rfl) (by first | exact .inr rfl | exact .inl rfl))) (fun s H C cl fp => ts_nil) (fun s H C cl fp => (i_or (i_cmp (by first | exact nomark _ | rfl) (k_eq hr.units (i_var (i := 7) rfl (.inl rfl) rfl rfl) (i_var (i := 8) rfl (by first | exact .inl rfl | exact .inr (.inl rfl) | exact .inr (.inr rfl)) rfl rfl))) (i_b1 (i_call C_path_tells (hr.mono (by first | decide | omega)) rfl (w_nil (a_cons (i_ix (fun _ _ => rfl) (iv_var (i := 3) rfl (by first | exact .inl rfl | exact .inr (.inl rfl) | exact .inr (.inr rfl)) rfl rfl) (i_var (i := 7) rfl (.inl rfl) rfl rfl)) (a_cons (i_ix (fun _ _ => rfl) (iv_var (i := 3) rfl (by first | exact .inl rfl | exact .inr (.inl rfl) | exact .inr (.inr rfl)) rfl rfl) (i_var (i := 8) rfl (by first | exact .inl rfl | exact .inr (.inl rfl) | exact .inr (.inr rfl)) rfl rfl)) a_nil))))))))))))))))))) (b_one (r_ret i_bl)) b_nil))))))))) (b_one (r_ret i_bl)))
theorem sc_law : FnScope ["_law_script", "_law_cells_here", "_law_k"] ["_law_script"] (defScope s_law) := ⟨rfl, rfl, rfl, by decide +kernel, rfl, by decide +kernel, by decide +kernel⟩
set_option maxHeartbeats 4000000 in
theorem ok_law (T : Top K mg) (C__law_by_hand_right : Cal P w K mg base "_law_by_hand_right" 9 (spW (gam K) [] F__law_by_hand_right)) (C__law_cells : Cal P w K mg base "_law_cells" 1 (spW (gam K) [] F__law_cells)) (C__law_right : Cal P w K mg base "_law_right" 9 (spW (gam K) [] F__law_right)) (C_box : Cal P w K mg base "_law_box" 1 spBox) (W__law_right : wpB true 1000000 (F__law_right [.cell 0]) fun d _ => d = .bl true) {f : Addr} {fd : FuncData} {dvs : List V} (Fn : FnD K "law" "law" s_law dvs f fd) : FnOk P w K mg base CX0 10 f fd ["_law_script"] (spOf K (spW (gam K) [] F_law)) := by
  refine fn_ok (n := 9) (t := B_law) (by rfl) Fn sc_law fun cdv A outer s H E hr => ?_
  have sc := sc_law
  exact (b_cons (r_if (t_not (t_truth (fun _ => rfl) (IE.iv (i_call0 C__law_by_hand_right (hr.mono (by first | decide | omega)) rfl)))) (b_one (r_ret i_bl)) b_nil) (b_cons (r_set (i := 1) sc.nd rfl (.inr rfl) (.inl rfl) (IE.io (i_call C__law_cells (hr.mono (by first | decide | omega)) rfl (w_nil (a_cons (i_var (i := 0) rfl (.inl rfl) rfl rfl) (a_cons i_int a_nil)))))) (b_one (r_ret (i_all rfl rfl T.b_all (IE.iv (IL.frz (l_lc (own := [("_law_k", 2)]) rfl sc.nd (blkOk_by rfl) (by decide) (n_rg1 rfl T.b_range (i_len rfl T.b_len (iv_var (i := 1) rfl (.inr (.inl rfl)) rfl rfl))) (by decide) (fun s H C cl fp => (g_name (i := 2) sc.nd rfl (by first | exact .inl rfl | exact .inr rfl) (by first | exact .inr rfl | exact .inl rfl))) (fun s H C cl fp => ts_nil) (fun s H C cl fp => (i_box C_box C__law_right (hr.mono (by first | decide | omega)) (hr.mono (by first | decide | omega)) rfl rfl W__law_right (i_var (i := 1) rfl (by first | exact .inl rfl | exact .inr (.inl rfl) | exact .inr (.inr rfl)) rfl rfl) (i_var (i := 2) rfl (.inl rfl) rfl rfl)))))))))))
end
end Q76
end
section
set_option Elab.async false
set_option linter.all false
set_option maxRecDepth 100000
namespace Q76
open PySem L2 DL

local macro_rules | `(tactic| tm_at "size") => `(tactic| first | decide | assumption | omega | (simp [PySem.sizeLine_eq]; done) | (simp [PySem.sizeLine_eq]; omega) | (simp [PySem.sizeLine_eq] at *; omega))
local macro_rules | `(tactic| tm_at "rng") => `(tactic| first | decide | (constructor <;> omega) | (refine ⟨?_, ?_, ?_, ?_⟩ <;> omega) | (simp; omega))
local macro_rules | `(tactic| tm_at "at") => `(tactic| first | exact rfl | exact at_cell (by assumption) rfl | exact at_cell mup_same rfl)
local macro_rules | `(tactic| tm_at "cell") => `(tactic| first | assumption | exact mup_same | (rw [mup_ne (by assumption)]; assumption) | (rw [mup_ne (Ne.symm (by assumption))]; assumption))
local macro_rules | `(tactic| tm_at "add") => `(tactic| first | refine add_int ?_ | refine add_str (by tm_at "size") ?_ | refine add_lst (by tm_at "size") ?_ | refine add_tup (by tm_at "size") ?_)
local macro_rules | `(tactic| tm_at "num") => `(tactic| refine num_int ?_)
local macro_rules | `(tactic| tm_at "mulok") => `(tactic| first | exact CMul.ok (.inl (by constructor <;> omega)) | exact CMul.ok (.inr (by constructor <;> omega)))
local macro_rules | `(tactic| tm_at "mul") => `(tactic| first | refine DL.mul_int (by tm_at "mulok") ?_ | refine mul_lst (by decide) ?_)
local macro_rules | `(tactic| tm_at "intc") => `(tactic| first | decide | omega | assumption | exact ⟨by decide, by decide⟩ | exact ⟨by omega, by assumption⟩ | exact ⟨by decide, by decide, by decide⟩)
local macro_rules | `(tactic| tm_at "intp") => `(tactic| refine intp_int (by tm_at "intc") ?_)
local macro_rules | `(tactic| tm_at "co") => `(tactic| first | refine DL.lt_int ?_ | refine DL.le_int ?_ | refine DL.gt_int ?_ | refine DL.ge_int ?_)
local macro_rules | `(tactic| tm_at "eq") => `(tactic| first | refine DL.eq_int ?_ | refine DL.eq_str ?_ | refine DL.eq_bl ?_ | refine DL.eq_non ?_ | refine DL.eq_nonI ?_)
local macro_rules | `(tactic| tm_at "noteq") => `(tactic| first | refine DL.ne_int ?_ | refine DL.ne_str ?_ | refine DL.ne_bl ?_)
local macro_rules | `(tactic| tm_at "sl") => `(tactic| first | refine sl_tup ?_ | refine DL.sl_lst ?_ | refine sl_frl ?_ | refine DL.sl_str (by tm_at "size") ?_)
local macro_rules | `(tactic| tm_at "strs") => `(tactic| first | rfl | exact strL rfl | assumption)
local macro_rules | `(tactic| tm_at "seq") => `(tactic| first | rfl | assumption)
local macro_rules | `(tactic| tm_at "in") => `(tactic| refine .inl ⟨_, _, _, rfl, rfl, rfl, ?_⟩)
local macro_rules | `(tactic| tm_at "nm") => `(tactic| first | assumption | exact nm_nil | exact nm_ss (by tm_at "nm") | exact nm_andN (by tm_at "nm") (by tm_at "nm"))
local macro_rules | `(tactic| tm_at "jsize") => `(tactic| first | exact jsz (by tm_at "nm") (by tm_at "size") (by decide))
local macro_rules | `(tactic| tm_at "jsize2") => `(tactic| exact Nat.le_trans (Nat.add_le_add_left (jsz2 (by tm_at "nm") (by tm_at "size") (by decide)) _) (by decide))
section
variable {P : Program} {w : World} {K : PySem.W.Frag} {mg : Str → Option Value} {base : Heap} {M : Store}
theorem box_pos (i : Int) (c : Bool) : 0 ≤ (if i < 0 then -i else i) * (if c = true then 1 else 0) := by
  split <;> split <;> omega
theorem small01 (c : Bool) : -(2 ^ 64) < (if c = true then (1 : Int) else 0) ∧ (if c = true then (1 : Int) else 0) < 2 ^ 64 := by cases c <;> decide
theorem atI_ints {ns : List Int} {j : Nat} (h : j < ns.length) : atD M (.lst (ns.map D.int)) (j : Nat) = some (.int ns[j]) := by
  show atI (ns.map D.int) (j : Nat) = _
  refine DL.atI_nat ?_
  rw [List.getElem?_map, List.getElem?_eq_getElem h]
  rfl
theorem sc__law_take : FnScope ["_law_urn", "_law_low_so", "_law_drawn", "_law_once", "_law_far", "_law_twice"] ["_law_urn", "_law_low_so"] (defScope s__law_take) := ⟨rfl, rfl, rfl, by decide +kernel, rfl, by decide +kernel, by decide +kernel⟩
set_option maxHeartbeats 4000000 in
theorem ok__law_take (T : Top K mg)   {f : Addr} {fd : FuncData} {dvs : List V} (Fn : FnD K "_law_take" "_law_take" s__law_take dvs f fd) : FnOk P w K mg base CX0 (0 + 1) f fd ["_law_urn", "_law_low_so"] (spOf K spTake) := by
  refine ok_dD Fn sc__law_take (fun ds M k h => by obtain ⟨u, low, n, rfl, _⟩ := h; rfl) fun cdv A outer s H E ds M k hr h => ?_
  have sc := sc__law_take
  obtain ⟨u, low, n, rfl, hl, hb, ⟨a, b, c, hM, ha, hb0, hb1, hc, hcn⟩, hk⟩ := h
  refine ss_cons ?_
  refine s_if ?_
  refine te_c1 (by first | exact nomark _ | rfl) ?_
  refine c_co ?_
  refine ev_ix (fun _ _ => rfl) ?_
  refine ev_var (i := 0) rfl (.inl rfl) rfl rfl rfl ?_
  refine ev_int ?_
  refine ⟨_, _, rfl, by tm_at "at", ?_⟩
  refine ev_int ?_
  tm_at "co"
  refine ⟨_, rfl, ?_⟩
  refine iteB (fun h1 => ?_) (fun h1 => ?_)
  · refine ss_cons ?_
    refine s_set (i := 2) sc.nd rfl (.inl rfl) (.inr rfl) ?_
    refine ev_mod ?_
    refine ev_intc rfl T.b_int ?_
    refine ev_ix (fun _ _ => rfl) ?_
    refine ev_var (i := 0) rfl (.inl rfl) rfl rfl rfl ?_
    refine ev_int ?_
    refine ⟨_, _, rfl, by tm_at "at", ?_⟩
    first | refine intc_int ?_ | refine intc_bl ?_
    refine ev_var (i := 1) rfl (.inl rfl) rfl rfl rfl ?_
    tm_at "intp"
    refine ss_cons ?_
    refine s_put ?_
    refine ev_fdiv ?_
    refine ev_ix (fun _ _ => rfl) ?_
    refine ev_var (i := 0) rfl (.inl rfl) rfl rfl rfl ?_
    refine ev_int ?_
    refine ⟨_, _, rfl, by tm_at "at", ?_⟩
    refine ev_var (i := 1) rfl (.inl rfl) rfl rfl rfl ?_
    tm_at "intp"
    refine ev_var (i := 0) rfl (.inl rfl) rfl rfl rfl ?_
    refine ev_int ?_
    refine ⟨_, _, _, _, rfl, rfl, by tm_at "cell", rfl, ?_⟩
    refine ss_one ?_
    refine s_ret ?_
    refine ev_var (i := 2) rfl (.inl rfl) rfl rfl rfl ?_
    have ha' : 0 ≤ a / low := Int.ediv_nonneg ha (by omega)
    exact hk _ _ (Int.emod_nonneg _ (by omega)) (Int.emod_lt_of_pos _ hl) Keep.mup ⟨_, b, c, mup_same, ha', hb0, hb1, hc, by omega⟩
  · refine ss_nil ?_
    refine ss_cons ?_
    refine s_put ?_
    refine ev_add ?_
    refine ev_ix (fun _ _ => rfl) ?_
    refine ev_var (i := 0) rfl (.inl rfl) rfl rfl rfl ?_
    refine ev_int ?_
    refine ⟨_, _, rfl, by tm_at "at", ?_⟩
    refine ev_int ?_
    tm_at "add"
    refine ev_var (i := 0) rfl (.inl rfl) rfl rfl rfl ?_
    refine ev_int ?_
    refine ⟨_, _, _, _, rfl, rfl, by tm_at "cell", rfl, ?_⟩
    refine ss_cons ?_
    refine s_set (i := 3) sc.nd rfl (.inl rfl) (.inr rfl) ?_
    refine ev_mod ?_
    refine ev_intc rfl T.b_int ?_
    refine ev_mul ?_
    refine ev_add ?_
    refine ev_ix (fun _ _ => rfl) ?_
    refine ev_var (i := 0) rfl (.inl rfl) rfl rfl rfl ?_
    refine ev_int ?_
    refine ⟨_, _, rfl, by tm_at "at", ?_⟩
    refine ev_mul ?_
    refine ev_int ?_
    refine ev_ix (fun _ _ => rfl) ?_
    refine ev_var (i := 0) rfl (.inl rfl) rfl rfl rfl ?_
    refine ev_int ?_
    refine ⟨_, _, rfl, by tm_at "at", ?_⟩
    tm_at "mul"
    tm_at "add"
    refine ev_add ?_
    refine ev_int ?_
    refine ev_ix (fun _ _ => rfl) ?_
    refine ev_var (i := 0) rfl (.inl rfl) rfl rfl rfl ?_
    refine ev_int ?_
    refine ⟨_, _, rfl, by tm_at "at", ?_⟩
    tm_at "add"
    refine DL.mul_int (CMul.ok (.inr (by constructor <;> omega))) ?_
    first | refine intc_int ?_ | refine intc_bl ?_
    refine ev_int ?_
    tm_at "intp"
    refine ss_cons ?_
    refine s_set (i := 4) sc.nd rfl (.inl rfl) (.inr rfl) ?_
    refine ev_add ?_
    refine ev_mod ?_
    refine ev_intc rfl T.b_int ?_
    refine ev_var (i := 3) rfl (.inl rfl) rfl rfl rfl ?_
    first | refine intc_int ?_ | refine intc_bl ?_
    refine ev_int ?_
    tm_at "intp"
    refine ev_int ?_
    tm_at "add"
    refine ss_cons ?_
    refine s_set (i := 5) sc.nd rfl (.inl rfl) (.inr rfl) ?_
    refine ev_mod ?_
    refine ev_intc rfl T.b_int ?_
    refine ev_mul ?_
    refine ev_add ?_
    refine ev_add ?_
    refine ev_var (i := 3) rfl (.inl rfl) rfl rfl rfl ?_
    refine ev_ix (fun _ _ => rfl) ?_
    refine ev_var (i := 0) rfl (.inl rfl) rfl rfl rfl ?_
    refine ev_int ?_
    refine ⟨_, _, rfl, by tm_at "at", ?_⟩
    tm_at "add"
    refine ev_fdiv ?_
    refine ev_ix (fun _ _ => rfl) ?_
    refine ev_var (i := 0) rfl (.inl rfl) rfl rfl rfl ?_
    refine ev_int ?_
    refine ⟨_, _, rfl, by tm_at "at", ?_⟩
    refine ev_int ?_
    tm_at "intp"
    tm_at "add"
    refine ev_var (i := 4) rfl (.inl rfl) rfl rfl rfl ?_
    tm_at "mul"
    first | refine intc_int ?_ | refine intc_bl ?_
    refine ev_int ?_
    tm_at "intp"
    refine ss_one ?_
    refine s_ret ?_
    refine ev_mod ?_
    refine ev_intc rfl T.b_int ?_
    refine ev_fdiv ?_
    refine ev_mod ?_
    refine ev_intc rfl T.b_int ?_
    refine ev_add ?_
    refine ev_mul ?_
    refine ev_var (i := 5) rfl (.inl rfl) rfl rfl rfl ?_
    refine ev_int ?_
    tm_at "mul"
    refine ev_var (i := 3) rfl (.inl rfl) rfl rfl rfl ?_
    tm_at "add"
    first | refine intc_int ?_ | refine intc_bl ?_
    refine ev_int ?_
    tm_at "intp"
    refine ev_int ?_
    tm_at "intp"
    first | refine intc_int ?_ | refine intc_bl ?_
    refine ev_var (i := 1) rfl (.inl rfl) rfl rfl rfl ?_
    tm_at "intp"
    exact hk _ _ (Int.emod_nonneg _ (by omega)) (Int.emod_lt_of_pos _ hl) Keep.mup ⟨a, b, c + 1, mup_same, ha, hb0, hb1, by omega, by omega⟩

theorem sc__law_box : FnScope ["_law_script", "_law_k", "_law_cell"] ["_law_script", "_law_k"] (defScope s__law_box) := ⟨rfl, rfl, rfl, by decide +kernel, rfl, by decide +kernel, by decide +kernel⟩
set_option maxHeartbeats 4000000 in
theorem ok__law_box (T : Top K mg)   {f : Addr} {fd : FuncData} {dvs : List V} (Fn : FnD K "_law_box" "_law_box" s__law_box dvs f fd) : FnOk P w K mg base CX0 (0 + 1) f fd ["_law_script", "_law_k"] (spOf K spBox) := by
  refine ok_dD Fn sc__law_box (fun ds M k h => by obtain ⟨ns, j, rfl, _⟩ := h; rfl) fun cdv A outer s H E ds M k hr h => ?_
  have sc := sc__law_box
  obtain ⟨ns, j, rfl, hj, hj2, hk⟩ := h
  refine ss_cons ?_
  refine s_set (i := 2) sc.nd rfl (.inl rfl) (.inr rfl) ?_
  refine ev_if ?_
  refine te_c1 (by first | exact nomark _ | rfl) ?_
  refine c_co ?_
  refine ev_var (i := 1) rfl (.inl rfl) rfl rfl rfl ?_
  refine ev_len rfl T.b_len ?_
  refine ev_var (i := 0) rfl (.inl rfl) rfl rfl rfl ?_
  refine ⟨_, rfl, ?_⟩
  tm_at "co"
  refine ⟨_, rfl, ?_⟩
  refine iteB (fun h1 => ?_) (fun h1 => ?_)
  · refine ev_ix (fun _ _ => rfl) ?_
    refine ev_var (i := 0) rfl (.inl rfl) rfl rfl rfl ?_
    refine ev_var (i := 1) rfl (.inl rfl) rfl rfl rfl ?_
    refine ⟨_, .int (ns[j]), rfl, ?_, ?_⟩
    · exact atI_ints hj
    refine ss_one ?_
    refine s_ret ?_
    refine EvL.cell ?_
    refine el_lst ?_
    refine ea_cons ?_
    refine ev_mul ?_
    refine ev_abs rfl T.b_abs ?_
    refine ev_var (i := 2) rfl (.inl rfl) rfl rfl rfl ?_
    refine num1_int ?_
    refine ev_intc rfl T.b_int ?_
    refine ev_c1 (by first | exact nomark _ | rfl) ?_
    refine c_co ?_
    refine ev_abs rfl T.b_abs ?_
    refine ev_var (i := 2) rfl (.inl rfl) rfl rfl rfl ?_
    refine num1_int ?_
    refine ev_pow ?_
    refine ev_int ?_
    refine ev_int ?_
    tm_at "intp"
    tm_at "co"
    first | refine intc_int ?_ | refine intc_bl ?_
    refine DL.mul_int (CMul.ok (.inr (small01 _))) ?_
    refine ea_cons ?_
    refine ev_add ?_
    refine ev_add ?_
    refine ev_mod ?_
    refine ev_intc rfl T.b_int ?_
    refine ev_var (i := 2) rfl (.inl rfl) rfl rfl rfl ?_
    first | refine intc_int ?_ | refine intc_bl ?_
    refine ev_int ?_
    tm_at "intp"
    refine ev_mul ?_
    refine ev_int ?_
    refine ev_var (i := 1) rfl (.inl rfl) rfl rfl rfl ?_
    tm_at "mul"
    tm_at "add"
    refine ev_int ?_
    tm_at "add"
    refine ea_cons ?_
    refine ev_int ?_
    refine ea_nil ?_
    refine ⟨by tm_at "size", ?_⟩
    intro q2 nq2
    have hm := Int.emod_nonneg (ns[j]) (show (2305843009213693951 : Int) ≠ 0 by decide)
    have hm2 := Int.emod_lt_of_pos (ns[j]) (show (0 : Int) < 2305843009213693951 by decide)
    refine hk _ _ (Keep0.refl.new nq2) nq2 ⟨_, _, _, mup_same, ?_, ?_, ?_, by decide, by decide⟩
    · exact box_pos _ _
    · omega
    · omega
  · exact absurd h1 (by simp; omega)
end
end Q76
end
section
set_option Elab.async false
set_option linter.all false
set_option maxRecDepth 100000
set_option maxHeartbeats 0
namespace Q76
open PySem PySem.W PySem.Calls PyProof.Rows L2 DL He He5
def tTyC (x : PySem.Str) (K : Frag) : Bool := decide (findIn K (.ref (ga K x)) "__class__" = some (some (.builtin "object.__class__"))) && (decide (specialIn K (.builtin "object.__class__") "__get__" = some (some (.builtin "getset_descriptor.__get__"))) && (decide (takesIn K (.builtin "object.__class__") = some true) && decide (mroIn K (ga K x) (.type "object") = some true)))
def tTup0 (p : Frag → Addr) (K : Frag) : Bool := match K.lookup (p K) with
  | some ⟨c, _, .seq its _, _⟩ => decide (c = .type "tuple") && its.toList.isEmpty
  | _ => false
theorem tup0_ok {p : Frag → Addr} {K : Frag} (c : tTup0 p K = true) (F : Hp) : Is K F (.tup []) (.ref (p K)) := by
  unfold tTup0 at c
  split at c
  · rename_i cl x its n y hl
    obtain ⟨c1, c2⟩ := Bool.and_eq_true_iff.mp c
    have e : its.toList = [] := List.isEmpty_iff.1 c2
    refine is_tup.2 ⟨_, [], rfl, .inr ⟨_, its, n, hl, of_decide_eq_true c1, rfl, ?_, by rw [e]; exact .nil⟩, IsL.nil⟩
    rw [← Array.length_toList, e]
    exact Nat.zero_le _
  · cases c
def tNe (x : PySem.Str) (K : Frag) : Bool := decide (findIn K (.ref (ga K x)) "__ne__" = some (some (.builtin "object.__ne__")))
def tNfC (x y : PySem.Str) (K : Frag) : Bool := notFirst K (ga K x) (.ref (ga K y))
def tKit (x : PySem.Str) (t : String) (b : Bool) (K : Frag) : Bool := decide (kitOne K (.type t) (.ref (ga K x)) = some b)
def tKitC (x y : PySem.Str) (b : Bool) (K : Frag) : Bool := decide (kitOne K (.ref (ga K y)) (.ref (ga K x)) = some b)
def dF (x : PySem.Str) (st : Stmt) : DefA := ⟨gA x, x, x, defArgs st, defBody st, defScope st, [], []⟩
def fn : List DefA := [dF "tupled" s_tupled,
  dF "often_above" s_often_above,
  dF "more_above" s_more_above,
  dF "path_tells" s_path_tells,
  dF "tellers" s_tellers,
  dF "_law_box" s__law_box,
  dF "_law_take" s__law_take,
  dF "_law_cells" s__law_cells,
  dF "_law_of" s__law_of,
  dF "_law_same" s__law_same,
  dF "_law_pick" s__law_pick,
  dF "_law_tags" s__law_tags,
  dF "_law_trail" s__law_trail,
  dF "_law_above" s__law_above,
  dF "_law_tells" s__law_tells,
  dF "_law_due" s__law_due,
  dF "_law_by_hand_right" s__law_by_hand_right,
  dF "_law_right" s__law_right,
  dF "law" s_law]
def fa : List (Frag → Bool) := [tFa (.glo "tupled"),
  tFa (.glo "often_above"),
  tFa (.glo "more_above"),
  tFa (.glo "path_tells"),
  tFa (.glo "tellers"),
  tFa (.glo "_law_box"),
  tFa (.glo "_law_take"),
  tFa (.glo "_law_cells"),
  tFa (.glo "_law_of"),
  tFa (.glo "_law_same"),
  tFa (.glo "_law_pick"),
  tFa (.glo "_law_tags"),
  tFa (.glo "_law_trail"),
  tFa (.glo "_law_above"),
  tFa (.glo "_law_tells"),
  tFa (.glo "_law_due"),
  tFa (.glo "_law_by_hand_right"),
  tFa (.glo "_law_right"),
  tFa (.glo "law"),
  tFa (.free "abs"),
  tFa (.free "all"),
  tFa (.free "any"),
  tFa (.free "bool"),
  tFa (.free "enumerate"),
  tFa (.free "int"),
  tFa (.free "isinstance"),
  tFa (.free "len"),
  tFa (.free "list"),
  tFa (.free "max"),
  tFa (.free "min"),
  tFa (.free "range"),
  tFa (.free "set"),
  tFa (.free "sorted"),
  tFa (.free "str"),
  tFa (.free "sum"),
  tFa (.free "tuple"),
  tFa (.free "zip")]
abbrev R : PySem.W.OpenRow := PySem.W.OpenLaw.row PySem.Challenge.rw_deepcuts_k76_paths_that_tell_all_others
abbrev hk : PySem.W.Hook := hookF 6 fa fn
def ob (s : PySem.W.SharedT) : He.AlD := obsFG 6 fa fn (HandSHeadRun.getT s)
theorem ob_eq (s : PySem.W.SharedT) : ob s = hk.obs s.abs := obsFG_eq (HandSHeadRun.getT_eq s)
def loose : List PySem.Str := ["__name__", "tupled", "often_above", "more_above", "path_tells", "tellers", "_law_box", "_law_take", "_law_cells", "_law_of", "_law_same", "_law_pick", "_law_tags", "_law_trail", "_law_above", "_law_tells", "_law_due", "_law_by_hand_right", "_law_right"]
theorem run (w : World) : HandSHeadRun.RunEq R (PySem.W.view R.prog [21]) hk ob 4000 loose w := by
  intro os
  kernel_rfl
end Q76
end
section
set_option Elab.async false
set_option linter.all false
set_option maxRecDepth 100000
namespace Q76
open PySem PySem.W PySem.Calls PyProof.Rows L2 DL He He5
theorem ty_ok {K : Frag} {x : PySem.Str} (c : tTyC x K = true) (h : Cls K (ga K x)) : TyC K (ga K x) := by
  obtain ⟨c1, c⟩ := Bool.and_eq_true_iff.mp c
  obtain ⟨c2, c⟩ := Bool.and_eq_true_iff.mp c
  obtain ⟨c3, c4⟩ := Bool.and_eq_true_iff.mp c
  exact ⟨h, of_decide_eq_true c1, of_decide_eq_true c2, of_decide_eq_true c3, of_decide_eq_true c4⟩
theorem rev_vals : ∀ {vs : List V} {us : List Value}, Vals vs us → Vals vs.reverse us.reverse
  | [], [], _ => .nil
  | _ :: _, _ :: _, .cons h t => by rw [List.reverse_cons, List.reverse_cons]; exact (rev_vals t).append (.cons h .nil)
theorem top_ok {K : Frag} {h : Heap} {mg : PySem.Str → Option Value} (X : K.In h) (G : h.Ns mainGlobals mg) (c : SaysF fa fn K) : Top K mg :=
  { b_abs := free_ok X G (c.fact 19 (f := tFa (.free "abs"))),
    b_all := free_ok X G (c.fact 20 (f := tFa (.free "all"))),
    b_any := free_ok X G (c.fact 21 (f := tFa (.free "any"))),
    b_bool := free_ok X G (c.fact 22 (f := tFa (.free "bool"))),
    b_enumerate := free_ok X G (c.fact 23 (f := tFa (.free "enumerate"))),
    b_int := free_ok X G (c.fact 24 (f := tFa (.free "int"))),
    b_isinstance := free_ok X G (c.fact 25 (f := tFa (.free "isinstance"))),
    b_len := free_ok X G (c.fact 26 (f := tFa (.free "len"))),
    b_list := free_ok X G (c.fact 27 (f := tFa (.free "list"))),
    b_max := free_ok X G (c.fact 28 (f := tFa (.free "max"))),
    b_min := free_ok X G (c.fact 29 (f := tFa (.free "min"))),
    b_range := free_ok X G (c.fact 30 (f := tFa (.free "range"))),
    b_set := free_ok X G (c.fact 31 (f := tFa (.free "set"))),
    b_sorted := free_ok X G (c.fact 32 (f := tFa (.free "sorted"))),
    b_str := free_ok X G (c.fact 33 (f := tFa (.free "str"))),
    b_sum := free_ok X G (c.fact 34 (f := tFa (.free "sum"))),
    b_tuple := free_ok X G (c.fact 35 (f := tFa (.free "tuple"))),
    b_zip := free_ok X G (c.fact 36 (f := tFa (.free "zip"))) }
section
variable {P : Program} {w : World} {K : Frag} {h base : Heap} {mg : PySem.Str → Option Value} {f : Addr} {fd : FuncData}
theorem k_CK_tellers_paths (Fn : FnD K "tellers" "tellers" s_tellers [] f fd) : KBn K fd ["paths"] 0 ["paths"] (fun us ws => us ++ ws) (fun vs zs => vs ++ zs) :=
  kbn_of Fn 0 ["paths"] (fun a b => a ++ b) (fun r1 r2 => r1.append r2) fun kV doc pm an cdv ct us ws h1 h2 => match us, ws, h1, h2 with | [], [_], _, _ => rfl
end
theorem law_fn {P : Program} {w : World} {K : Frag} {h : Heap} {mg : PySem.Str → Option Value} (X : K.In h) (G : h.Ns mainGlobals mg) (c : SaysF fa fn K) :
    ∃ fd, FnD K "law" "law" s_law [] (gA "law" K) fd ∧ ∀ base : Heap, FnOk P w K mg base CX0 10 (gA "law" K) fd ["_law_script"] (spOf K (spW (gam K) [] F_law)) := by
  have T := top_ok X G c
  obtain ⟨fd_tupled, Fn_tupled⟩ := c.def_ 0
  obtain ⟨fd_often_above, Fn_often_above⟩ := c.def_ 1
  obtain ⟨fd_more_above, Fn_more_above⟩ := c.def_ 2
  obtain ⟨fd_path_tells, Fn_path_tells⟩ := c.def_ 3
  obtain ⟨fd_tellers, Fn_tellers⟩ := c.def_ 4
  obtain ⟨fd__law_box, Fn__law_box⟩ := c.def_ 5
  obtain ⟨fd__law_take, Fn__law_take⟩ := c.def_ 6
  obtain ⟨fd__law_cells, Fn__law_cells⟩ := c.def_ 7
  obtain ⟨fd__law_of, Fn__law_of⟩ := c.def_ 8
  obtain ⟨fd__law_same, Fn__law_same⟩ := c.def_ 9
  obtain ⟨fd__law_pick, Fn__law_pick⟩ := c.def_ 10
  obtain ⟨fd__law_tags, Fn__law_tags⟩ := c.def_ 11
  obtain ⟨fd__law_trail, Fn__law_trail⟩ := c.def_ 12
  obtain ⟨fd__law_above, Fn__law_above⟩ := c.def_ 13
  obtain ⟨fd__law_tells, Fn__law_tells⟩ := c.def_ 14
  obtain ⟨fd__law_due, Fn__law_due⟩ := c.def_ 15
  obtain ⟨fd__law_by_hand_right, Fn__law_by_hand_right⟩ := c.def_ 16
  obtain ⟨fd__law_right, Fn__law_right⟩ := c.def_ 17
  obtain ⟨fd_law, Fn_law⟩ := c.def_ 18
  refine ⟨_, Fn_law, fun base => ?_⟩
  have C__law_take : Cal P w K mg base "_law_take" 1 (spW (gam K) [] takeP) := ⟨_, _, _, take_ok (ok__law_take T Fn__law_take), (glo_ok X G (c.fact 6 (f := tFa (.glo "_law_take")))), Fn__law_take.kp, (FunD.bindsN (ps := ["_law_urn", "_law_low_so"]) Fn__law_take fun _ _ _ _ _ _ us hl => match us, hl with | [_, _], _ => rfl)⟩
  have C_box : Cal P w K mg base "_law_box" 1 spBox := ⟨_, _, _, ok__law_box T Fn__law_box, (glo_ok X G (c.fact 5 (f := tFa (.glo "_law_box")))), Fn__law_box.kp, (FunD.bindsN (ps := ["_law_script", "_law_k"]) Fn__law_box fun _ _ _ _ _ _ us hl => match us, hl with | [_, _], _ => rfl)⟩
  have C_tupled : Cal P w K mg base "tupled" 6 (spW (gam K) [] (F_tupled 5)) := ⟨_, _, _, ok_tupled T Fn_tupled (glo_ok X G (c.fact 0 (f := tFa (.glo "tupled")))) (FunD.bindsN (ps := ["thing"]) Fn_tupled fun _ _ _ _ _ _ us hl => match us, hl with | [_], _ => rfl) 5, (glo_ok X G (c.fact 0 (f := tFa (.glo "tupled")))), Fn_tupled.kp, (FunD.bindsN (ps := ["thing"]) Fn_tupled fun _ _ _ _ _ _ us hl => match us, hl with | [_], _ => rfl)⟩
  have C_often_above : Cal P w K mg base "often_above" 1 (spW (gam K) [] F_often_above) := ⟨_, _, _, ok_often_above T Fn_often_above, (glo_ok X G (c.fact 1 (f := tFa (.glo "often_above")))), Fn_often_above.kp, (FunD.bindsN (ps := ["path"]) Fn_often_above fun _ _ _ _ _ _ us hl => match us, hl with | [_], _ => rfl)⟩
  have C_more_above : Cal P w K mg base "more_above" 1 (spW (gam K) [] F_more_above) := ⟨_, _, _, ok_more_above T Fn_more_above, (glo_ok X G (c.fact 2 (f := tFa (.glo "more_above")))), Fn_more_above.kp, (FunD.bindsN (ps := ["mine", "its", "last"]) Fn_more_above fun _ _ _ _ _ _ us hl => match us, hl with | [_, _, _], _ => rfl)⟩
  have C_path_tells : Cal P w K mg base "path_tells" 7 (spW (gam K) [] F_path_tells) := ⟨_, _, _, ok_path_tells T C_more_above C_often_above C_tupled Fn_path_tells, (glo_ok X G (c.fact 3 (f := tFa (.glo "path_tells")))), Fn_path_tells.kp, (FunD.bindsN (ps := ["path", "other"]) Fn_path_tells fun _ _ _ _ _ _ us hl => match us, hl with | [_, _], _ => rfl)⟩
  have C_tellers : Cal P w K mg base "tellers" 8 (spW (gam K) [] F_tellers) := ⟨_, _, _, ok_tellers T C_path_tells C_tupled Fn_tellers, (glo_ok X G (c.fact 4 (f := tFa (.glo "tellers")))), Fn_tellers.kp, (FunD.bindsN (ps := ["paths"]) Fn_tellers fun _ _ _ _ _ _ us hl => match us, hl with | [_], _ => rfl)⟩
  have CK_tellers_paths : CalK P w K mg base "tellers" 8 0 ["paths"] (fun a b => a ++ b) (spW (gam K) [] F_tellers) := ⟨_, _, _, _, _, (ok_tellers T C_path_tells C_tupled Fn_tellers), (glo_ok X G (c.fact 4 (f := tFa (.glo "tellers")))), Fn_tellers.kp, k_CK_tellers_paths Fn_tellers, fun _ _ _ _ _ h1 h2 => h1.app h2⟩
  have C__law_cells : Cal P w K mg base "_law_cells" 1 (spW (gam K) [] F__law_cells) := ⟨_, _, _, ok__law_cells T Fn__law_cells, (glo_ok X G (c.fact 7 (f := tFa (.glo "_law_cells")))), Fn__law_cells.kp, (FunD.bindsN (ps := ["_law_script", "_law_top"]) Fn__law_cells fun _ _ _ _ _ _ us hl => match us, hl with | [_, _], _ => rfl)⟩
  have C__law_of : Cal P w K mg base "_law_of" 2 (spW (gam K) [false, true] F__law_of) := ⟨_, _, _, ok__law_of T C__law_take Fn__law_of, (glo_ok X G (c.fact 8 (f := tFa (.glo "_law_of")))), Fn__law_of.kp, (FunD.bindsN (ps := ["_law_urn", "_law_some_so"]) Fn__law_of fun _ _ _ _ _ _ us hl => match us, hl with | [_, _], _ => rfl)⟩
  have C__law_same : Cal P w K mg base "_law_same" 6 (spW (gam K) [] (F__law_same 5)) := ⟨_, _, _, ok__law_same T Fn__law_same (glo_ok X G (c.fact 9 (f := tFa (.glo "_law_same")))) (FunD.bindsN (ps := ["_law_got", "_law_goal"]) Fn__law_same fun _ _ _ _ _ _ us hl => match us, hl with | [_, _], _ => rfl) 5, (glo_ok X G (c.fact 9 (f := tFa (.glo "_law_same")))), Fn__law_same.kp, (FunD.bindsN (ps := ["_law_got", "_law_goal"]) Fn__law_same fun _ _ _ _ _ _ us hl => match us, hl with | [_, _], _ => rfl)⟩
  have C__law_pick : Cal P w K mg base "_law_pick" 2 (spW (gam K) [] F__law_pick) := ⟨_, _, _, ok__law_pick T C__law_take Fn__law_pick, (glo_ok X G (c.fact 10 (f := tFa (.glo "_law_pick")))), Fn__law_pick.kp, (FunD.bindsN (ps := ["_law_urn", "_law_pool", "_law_many_so"]) Fn__law_pick fun _ _ _ _ _ _ us hl => match us, hl with | [_, _, _], _ => rfl)⟩
  have C__law_tags : Cal P w K mg base "_law_tags" 3 (spW (gam K) [] F__law_tags) := ⟨_, _, _, ok__law_tags T C__law_pick Fn__law_tags, (glo_ok X G (c.fact 11 (f := tFa (.glo "_law_tags")))), Fn__law_tags.kp, (FunD.bindsN (ps := ["_law_urn", "_law_many_so"]) Fn__law_tags fun _ _ _ _ _ _ us hl => match us, hl with | [_, _], _ => rfl)⟩
  have C__law_trail : Cal P w K mg base "_law_trail" 3 (spW (gam K) [] F__law_trail) := ⟨_, _, _, ok__law_trail T C__law_of C__law_take Fn__law_trail, (glo_ok X G (c.fact 12 (f := tFa (.glo "_law_trail")))), Fn__law_trail.kp, (FunD.bindsN (ps := ["_law_urn", "_law_tags_here", "_law_most_so"]) Fn__law_trail fun _ _ _ _ _ _ us hl => match us, hl with | [_, _, _], _ => rfl)⟩
  have C__law_above : Cal P w K mg base "_law_above" 1 (spW (gam K) [] F__law_above) := ⟨_, _, _, ok__law_above T Fn__law_above, (glo_ok X G (c.fact 13 (f := tFa (.glo "_law_above")))), Fn__law_above.kp, (FunD.bindsN (ps := ["_law_row", "_law_tag"]) Fn__law_above fun _ _ _ _ _ _ us hl => match us, hl with | [_, _], _ => rfl)⟩
  have C__law_tells : Cal P w K mg base "_law_tells" 2 (spW (gam K) [] F__law_tells) := ⟨_, _, _, ok__law_tells T C__law_above Fn__law_tells, (glo_ok X G (c.fact 14 (f := tFa (.glo "_law_tells")))), Fn__law_tells.kp, (FunD.bindsN (ps := ["_law_row", "_law_far"]) Fn__law_tells fun _ _ _ _ _ _ us hl => match us, hl with | [_, _], _ => rfl)⟩
  have C__law_due : Cal P w K mg base "_law_due" 3 (spW (gam K) [] F__law_due) := ⟨_, _, _, ok__law_due T C__law_tells Fn__law_due, (glo_ok X G (c.fact 15 (f := tFa (.glo "_law_due")))), Fn__law_due.kp, (FunD.bindsN (ps := ["_law_rows"]) Fn__law_due fun _ _ _ _ _ _ us hl => match us, hl with | [_], _ => rfl)⟩
  have C__law_by_hand_right : Cal P w K mg base "_law_by_hand_right" 9 (spW (gam K) [] F__law_by_hand_right) := ⟨_, _, _, ok__law_by_hand_right T C__law_same C_tellers Fn__law_by_hand_right, (glo_ok X G (c.fact 16 (f := tFa (.glo "_law_by_hand_right")))), Fn__law_by_hand_right.kp, (FunD.bindsN (ps := []) Fn__law_by_hand_right fun _ _ _ _ _ _ us hl => match us, hl with | [], _ => rfl)⟩
  have C__law_right : Cal P w K mg base "_law_right" 9 (spW (gam K) [] F__law_right) := ⟨_, _, _, ok__law_right T CK_tellers_paths C__law_due C__law_of C__law_pick C__law_same C__law_tags C__law_take C__law_trail C_path_tells C_tellers Fn__law_right, (glo_ok X G (c.fact 17 (f := tFa (.glo "_law_right")))), Fn__law_right.kp, (FunD.bindsN (ps := ["_law_urn"]) Fn__law_right fun _ _ _ _ _ _ us hl => match us, hl with | [_], _ => rfl)⟩
  exact ok_law T C__law_by_hand_right C__law_cells C__law_right C_box right_ok Fn_law
theorem law_sp {K : Frag} {H : Hp} {a : Addr} {ns : List Int} (hl : ns.length ≤ 63) (hS : SqL K H a (ns.map V.int)) : spOf K (spW (gam K) [] F_law) [.ref a] H (fun v _ => v = .bl true) (fun _ _ _ => False) := by
  refine ⟨[.frl (ns.map D.int)], H, fun _ => none, fun d _ => d = .bl true, ?_, ⟨?_, ?_⟩, ⟨false, (0, 0), [.frl (ns.map D.int)], 0, ?_, ?_, ?_⟩, ?_⟩
  · exact IsL.cons (by unfold Is; exact ⟨a, _, rfl, hS, (IsL.ints ns).2 rfl⟩) IsL.nil
  · exact fun _ _ h => .inl h
  · intro a m h; cases h
  · show [D.frl (ns.map D.int)] = rnL _ [D.frl (ns.map D.int)]
    simp only [rnL, rn, rn_ints]
  · exact fun h => by cases h
  · rw [law_ok hl]
    exact fun _ _ => rfl
  · intro d M' F' H' v hk _ _ his
    subst hk
    exact is_bl.1 his
end Q76
end
set_option Elab.async false
set_option linter.all false
set_option maxRecDepth 100000
set_option maxHeartbeats 0
open PySem PySem.W PySem.Calls PyProof.Rows
theorem PySem.Challenge.cw_deepcuts_k76_paths_that_tell_all_others_holds : PySem.Challenge.rw_deepcuts_k76_paths_that_tell_all_others.Holds := by
  w_on; o_law
  refine HandSHeadRun.head_any (r := OpenLaw.row PySem.Challenge.rw_deepcuts_k76_paths_that_tell_all_others) (q := view (OpenLaw.row PySem.Challenge.rw_deepcuts_k76_paths_that_tell_all_others).prog [21]) (H := Q76.hk) (ob := Q76.ob) (M := 4000) (loose := Q76.loose) (d := HandSHeadRun.topDef (OpenLaw.row PySem.Challenge.rw_deepcuts_k76_paths_that_tell_all_others).prog 21) (kwd := []) Q76.ob_eq
    (by kernel_rfl) (fun s => by kernel_rfl) Q76.run (by kernel_rfl) (by kernel_rfl) (by kernel_rfl) (by rfl) (by first | assumption | decide +kernel) (by decide +kernel) ⟨rfl, rfl, rfl, rfl, rfl, by decide +kernel⟩ ?hw ?hc
  case hw => w_witness2
  case hc =>
    refine L2.walk_ofE (l := PySem.Challenge.rw_deepcuts_k76_paths_that_tell_all_others) (n := 63) (k := 10) (x := "_law_script") (CX := L2.CX0) rfl (by decide) (by kernel_rfl) ⟨rfl, by decide, by decide⟩ ?F (fun _ _ _ _ z => z)
    intro w mg fa h Y G hmg0
    obtain ⟨K, KX, c⟩ := Y
    have hmg : mg ("law" : PySem.Str) = some (.ref fa) := by
      have e : (HandSHeadRun.topDef (OpenLaw.row PySem.Challenge.rw_deepcuts_k76_paths_that_tell_all_others).prog 21).name = ("law" : PySem.Str) := by kernel_rfl
      rw [← e]
      exact hmg0
    have e := hmg.symm.trans (He.glo_ok KX G (c.fact 18 (f := DL.tFa (.glo "law"))))
    cases e
    obtain ⟨fd, Fn, hF⟩ := Q76.law_fn (P := (PySem.Challenge.rw_deepcuts_k76_paths_that_tell_all_others).prog) (w := w) KX G c
    have b := L2.FunD.bindsA (ps := ["_law_script"]) Fn fun _ _ _ _ _ _ us hl => match us, hl with | [_], _ => rfl
    exact ⟨K, fd, _, KX, fun s v => b s [v] rfl, fun H a ns hl _ hS => Q76.law_sp hl hS, fun base _ _ => hF base⟩
