import PyProof.Rows.All
import Wide.All
import OpenK.AllK
import Wide.FinOn
import HandS.ForMost
import HandS.Evl
import HandS.ExcInit
import HandS.Flow
import HandS.IsInst
import HandS.Wide
import HandS.TupAny
import PyProof.ReprRoads
import HandS.Zip
import PyProof.FitsInt
import HandS.SetFor
import HandS.Strs
import HandS.More
import KE.KDictPairs
import KE.KDictZip
import HandS.Conv
import HandS.SortRule
import PyProof.CollectIter
import HandS.Ends
import HandS.Style
import HandS.SortInts
import HandS.Iter
import HandS.DictComp
import KE.GoesEnumKw
import PyProof.Rows.CallKwBuiltin
import HandS.Star
import HandS.TryOnly
import KE.GoesZip
import KE.GoesMore
import PyProof.EnumMake
import HandS.Text
import HandS.TupLe
import HandS.Comp
import HandS.List
import HandS.WordsDict
import HandS.Defaults
import HandS.SetKeys
import HandS.ListItems
import HandS.SortOrd
import HandS.Keys
import KE.GoesEnum
import KE.DatumOrd
import KE.KRevSl
import HandS.NoneIn
import PyProof.CompUse
import KE.KExcSuper
import KE.KExcInit
import HandS.Nested
import KE.KExcIs
import HandS.ExcOwn
import HandS.Head0
import HandS.Head1
import HandS.Head2
import HandS.HeadHook1
import HandS.HeadHook2
import PySem.Challenge.RW_splitstays_k08_errors
set_option Elab.async false
set_option linter.all false
set_option maxRecDepth 100000
set_option maxHeartbeats 4000000
/-! DA: data and memory over the hand layer: what a value is (Sl), what may change (Mem), the readings by data. -/
namespace DL
open PySem L2
open Evl (Ex)

/-- what is known of a value: a datum that never changes, or the value itself -/
inductive Sl where
  | d (x : PyData)
  | v (u : V)
  | r (ns : List Int)
  | w (ds : List PyData)
  | e (C : Addr) (fs : List (Str × PyData))
  | pe (d : PyData) (C : Addr) (fs : List (Str × PyData))
abbrev Sl.i (n : Int) : Sl := .d (.int n)
abbrev Sl.b (n : Bool) : Sl := .d (.bool n)
abbrev Sl.s (n : Str) : Sl := .d (.str n)
abbrev Sl.n : Sl := .d .none

/-- a tuple, a plain object -/
def TqT (K : PySem.W.Frag) (F : Hp) (a : Addr) (vs : List V) : Prop := (∃ o, F a = some (.frz o (.tup vs)) ∧ o.dict = none) ∨
  ∃ (o : Obj) (ws : Array Value) (n : Nat), K.lookup a = some o ∧ o.cls = .type "tuple" ∧ o.data = .seq ws n ∧ ws.size ≤ sizeLine ∧ Vals vs ws.toList ∧ o.dict = none
theorem TqT.sq {K : PySem.W.Frag} {F : Hp} {a : Addr} {vs : List V} (h : TqT K F a vs) : SqT K F a vs := by
  rcases h with ⟨o, q, _⟩ | ⟨o, ws, n, a1, a2, a3, a4, a5, _⟩
  · exact .inl (.inr ⟨o, q⟩)
  · exact .inr ⟨o, ws, n, a1, a2, a3, a4, a5⟩
theorem TqT.mono {K : PySem.W.Frag} {F F' : Hp} (e : Ex F F') {a : Addr} {vs : List V} (h : TqT K F a vs) : TqT K F' a vs := by
  rcases h with ⟨o, q, z⟩ | q
  · exact .inl ⟨o, e _ _ q, z⟩
  · exact .inr q
mutual
/-- the value v is the datum d, all of whose lists stand in F -/
inductive Dq (K : PySem.W.Frag) (F : Hp) : V → PyData → Prop
  | non : Dq K F .non .none
  | bl (b : Bool) : Dq K F (.bl b) (.bool b)
  | int (i : Int) : Dq K F (.int i) (.int i)
  | str (x : Str) : Dq K F (.str x) (.str x)
  | lst {a : Addr} {vs : List V} {ds : List PyData} : F a = some (.lst vs) → DqAll K F vs ds → Dq K F (.ref a) (.list ds)
  | tup {a : Addr} {vs : List V} {ds : List PyData} : TqT K F a vs → DqAll K F vs ds → Dq K F (.ref a) (.tuple ds)
inductive DqAll (K : PySem.W.Frag) (F : Hp) : List V → List PyData → Prop
  | nil : DqAll K F [] []
  | cons {v : V} {vs : List V} {d : PyData} {ds : List PyData} : Dq K F v d → DqAll K F vs ds → DqAll K F (v :: vs) (d :: ds)
end
mutual
theorem dq_dp {K : PySem.W.Frag} {F : Hp} : ∀ {d : PyData} {v : V}, Dq K F v d → Dp K F v d
  | _, _, .non => .non
  | _, _, .bl b => .bl b
  | _, _, .int i => .int i
  | _, _, .str x => .str x
  | _, _, .lst h1 h2 => .lst (SqL.of h1) (dqAll_dp h2)
  | _, _, .tup h1 h2 => .tup h1.sq (dqAll_dp h2)
theorem dqAll_dp {K : PySem.W.Frag} {F : Hp} : ∀ {ds : List PyData} {vs : List V}, DqAll K F vs ds → DpAll K F vs ds
  | _, _, .nil => .nil
  | _, _, .cons h1 h2 => .cons (dq_dp h1) (dqAll_dp h2)
end
mutual
theorem dq_mono {K : PySem.W.Frag} {F F' : Hp} (e : Ex F F') : ∀ {d : PyData} {v : V}, Dq K F v d → Dq K F' v d
  | _, _, .non => .non
  | _, _, .bl b => .bl b
  | _, _, .int i => .int i
  | _, _, .str x => .str x
  | _, _, .lst h1 h2 => .lst (e _ _ h1) (dqAll_mono e h2)
  | _, _, .tup h1 h2 => .tup (h1.mono e) (dqAll_mono e h2)
theorem dqAll_mono {K : PySem.W.Frag} {F F' : Hp} (e : Ex F F') : ∀ {ds : List PyData} {vs : List V}, DqAll K F vs ds → DqAll K F' vs ds
  | _, _, .nil => .nil
  | _, _, .cons h1 h2 => .cons (dq_mono e h1) (dqAll_mono e h2)
end

/-- both lists go together -/
inductive All2 {A B : Type} (R : A → B → Prop) : List A → List B → Prop
  | nil : All2 R [] []
  | cons {a : A} {b : B} {as : List A} {bs : List B} : R a b → All2 R as bs → All2 R (a :: as) (b :: bs)
/-- a finished exception of the class at C, its own fields by name: it never changes -/
def XAt (K : PySem.W.Frag) (F : Hp) (a C : Addr) (fs : List (Str × PyData)) : Prop := (fs = [] ∧ F a = some (exo a C none)) ∨
  ∃ dx vs, F a = some (exo a C (some dx)) ∧ F dx = some (exd dx vs) ∧ All2 (fun (p : Str × PyData) (q : Str × V) => p.1 = q.1 ∧ Dq K F q.2 p.2) fs vs
theorem XAt.mono {K : PySem.W.Frag} {F F' : Hp} (e : Ex F F') {a C : Addr} {fs : List (Str × PyData)} (h : XAt K F a C fs) : XAt K F' a C fs := by
  rcases h with ⟨h1, h2⟩ | ⟨dx, vs, h1, h2, h3⟩
  · exact .inl ⟨h1, e _ _ h2⟩
  · refine .inr ⟨dx, vs, e _ _ h1, e _ _ h2, ?_⟩
    clear h1 h2
    induction h3 with
    | nil => exact .nil
    | cons h _ ih => exact .cons ⟨h.1, dq_mono e h.2⟩ ih
def Is (K : PySem.W.Frag) (F : Hp) : Sl → V → Prop
  | .d x, u => Dq K F u x
  | .v w, u => u = w
  | .r ns, u => ∃ a, u = .ref a ∧ SqL K F a (ns.map V.int)
  | .w ds, u => ∃ a vs, u = .ref a ∧ SqT K F a vs ∧ DqAll K F vs ds
  | .e C fs, u => ∃ a, u = .ref a ∧ XAt K F a C fs
  | .pe d C fs, u => ∃ a v b, u = .ref a ∧ SqT K F a [v, .ref b] ∧ Dq K F v d ∧ XAt K F b C fs

theorem ex_l {K : PySem.W.Frag} {F F' : Hp} (e : Ex F F') {a : Addr} {xs : List V} (h : SqL K F a xs) : SqL K F' a xs := by
  rcases h with (q | ⟨o, q⟩) | q
  · exact .inl (.inl (e _ _ q))
  · exact .inl (.inr ⟨o, e _ _ q⟩)
  · exact .inr q
theorem is_mono {K : PySem.W.Frag} {F F' : Hp} (e : Ex F F') : ∀ {r : Sl} {v : V}, Is K F r v → Is K F' r v
  | .d _, _, h => dq_mono e h
  | .v _, _, h => h
  | .r _, _, ⟨a, h1, h2⟩ => ⟨a, h1, ex_l e h2⟩
  | .w _, _, ⟨a, vs, h1, h2, h3⟩ => ⟨a, vs, h1, Evl.ex_t e h2, dqAll_mono e h3⟩
  | .e _ _, _, ⟨a, h1, h2⟩ => ⟨a, h1, h2.mono e⟩
  | .pe _ _ _, _, ⟨a, v, b, h1, h2, h3, h4⟩ => ⟨a, v, b, h1, Evl.ex_t e h2, dq_mono e h3, h4.mono e⟩

section
variable {A B : Type} {R S : A → B → Prop}
theorem All2.imp (f : ∀ a b, R a b → S a b) : ∀ {as : List A} {bs : List B}, All2 R as bs → All2 S as bs
  | _, _, .nil => .nil
  | _, _, .cons h t => .cons (f _ _ h) (All2.imp f t)
theorem All2.length : ∀ {as : List A} {bs : List B}, All2 R as bs → as.length = bs.length
  | _, _, .nil => rfl
  | _, _, .cons _ t => congrArg (· + 1) t.length
theorem All2.append : ∀ {as cs : List A} {bs ds : List B}, All2 R as bs → All2 R cs ds → All2 R (as ++ cs) (bs ++ ds)
  | _, _, _, _, .nil, h => h
  | _, _, _, _, .cons h t, k => .cons h (t.append k)
theorem All2.get : ∀ {as : List A} {bs : List B} {i : Nat} {a : A}, All2 R as bs → as[i]? = some a → ∃ b, bs[i]? = some b ∧ R a b
  | _, _, _, _, .nil, e => by simp at e
  | _, _, 0, _, .cons h _, e => by simp at e; subst e; exact ⟨_, rfl, h⟩
  | _, _, i + 1, a, .cons _ t, e => by
    obtain ⟨b, h1, h2⟩ := All2.get (i := i) (a := a) t (by simpa using e)
    exact ⟨b, by simpa using h1, h2⟩
theorem All2.get' : ∀ {as : List A} {bs : List B} {i : Nat} {b : B}, All2 R as bs → bs[i]? = some b → ∃ a, as[i]? = some a ∧ R a b
  | _, _, _, _, .nil, e => by simp at e
  | _, _, 0, _, .cons h _, e => by simp at e; subst e; exact ⟨_, rfl, h⟩
  | _, _, i + 1, a, .cons _ t, e => by
    obtain ⟨b, h1, h2⟩ := All2.get' (i := i) (b := a) t (by simpa using e)
    exact ⟨b, by simpa using h1, h2⟩
theorem All2.set {a : A} {b : B} (h : R a b) : ∀ {as : List A} {bs : List B} (i : Nat), All2 R as bs → All2 R (as.set i a) (bs.set i b)
  | _, _, _, .nil => .nil
  | _, _, 0, .cons _ t => .cons h t
  | _, _, i + 1, .cons q t => .cons q (t.set h i)
theorem All2.take : ∀ {as : List A} {bs : List B} (n : Nat), All2 R as bs → All2 R (as.take n) (bs.take n)
  | _, _, 0, _ => .nil
  | _, _, _ + 1, .nil => .nil
  | _, _, n + 1, .cons h t => .cons h (t.take n)
theorem All2.drop : ∀ {as : List A} {bs : List B} (n : Nat), All2 R as bs → All2 R (as.drop n) (bs.drop n)
  | _, _, 0, h => h
  | _, _, _ + 1, .nil => .nil
  | _, _, n + 1, .cons _ t => t.drop n
theorem All2.eraseIdx : ∀ {as : List A} {bs : List B} (n : Nat), All2 R as bs → All2 R (as.eraseIdx n) (bs.eraseIdx n)
  | _, _, _, .nil => .nil
  | _, _, 0, .cons _ t => t
  | _, _, n + 1, .cons h t => .cons h (t.eraseIdx n)
end

abbrev IsAll (K : PySem.W.Frag) (F : Hp) : List Sl → List V → Prop := All2 (Is K F)
theorem isAll_mono {K : PySem.W.Frag} {F F' : Hp} (e : Ex F F') {rs : List Sl} {vs : List V} (h : IsAll K F rs vs) : IsAll K F' rs vs := h.imp fun _ _ q => is_mono e q
theorem isAll_d {K : PySem.W.Frag} {F : Hp} : ∀ {ds : List PyData} {vs : List V}, DqAll K F vs ds → IsAll K F (ds.map Sl.d) vs
  | _, _, .nil => .nil
  | _, _, .cons h t => .cons h (isAll_d t)
theorem dqAll_of {K : PySem.W.Frag} {F : Hp} : ∀ {ds : List PyData} {vs : List V}, IsAll K F (ds.map Sl.d) vs → DqAll K F vs ds
  | [], _, h => by cases h; exact .nil
  | _ :: _, _, h => by cases h with | cons h t => exact .cons h (dqAll_of t)

/-- what may change: a list, a dict -/
inductive MO where
  | lst (ss : List Sl)
  | dic (ks : List (Key × Sl))
  | lok (od : Obj) (kvs : List (Key × V)) (ks : List (Key × Sl))
  | ob (C : Addr) (fs : List (Str × Sl))
  | tup (ss : List Sl)
abbrev Mem := Addr → Option MO
def upM (M : Mem) (a : Addr) (o : MO) : Mem := fun b => if b = a then some o else M b
theorem upM_same {M : Mem} {a : Addr} {o : MO} : upM M a o a = some o := by unfold upM; rw [if_pos rfl]
theorem upM_ne {M : Mem} {a b : Addr} {o : MO} (h : b ≠ a) : upM M a o b = M b := by unfold upM; rw [if_neg h]
theorem upM_upM {M : Mem} {a : Addr} {o u : MO} : upM (upM M a o) a u = upM M a u := by funext b; unfold upM; split <;> rfl
theorem neM {M : Mem} {a b : Addr} {o : MO} (h : M a = some o) (h' : M b = none) : a ≠ b := by intro e; subst e; rw [h] at h'; cases h'
/-- the second one knows all of the first one -/
def Le (M M' : Mem) : Prop := ∀ a o, M a = some o → M' a = some o
theorem Le.refl (M : Mem) : Le M M := fun _ _ h => h
theorem Le.trans {M M1 M2 : Mem} (a : Le M M1) (b : Le M1 M2) : Le M M2 := fun x o h => b x o (a x o h)
theorem Le.up {M M' : Mem} {p : Addr} {o : MO} (e : Le M M') (h : M p = none) : Le M (upM M' p o) := fun a u ha => by
  rw [upM_ne (neM ha h)]; exact e a u ha

abbrev KIs (K : PySem.W.Frag) (F : Hp) : Key × Sl → Key × V → Prop := fun p q => p.1 = q.1 ∧ Is K F p.2 q.2
abbrev FIs (K : PySem.W.Frag) (F : Hp) : Str × Sl → Str × V → Prop := fun p q => p.1 = q.1 ∧ Is K F p.2 q.2
def MIs (K : PySem.W.Frag) (F H : Hp) (a : Addr) : MO → Prop
  | .lst ss => ∃ vs, H a = some (.lst vs) ∧ IsAll K F ss vs
  | .dic ks => ∃ kvs, H a = some (.dK kvs) ∧ All2 (KIs K F) ks kvs
  | .lok od kvs ks => H a = some (.frz od (.dK kvs)) ∧ All2 (KIs K F) ks kvs
  | .ob C fs => ∃ dx vs, H a = some (.ins C dx vs) ∧ All2 (FIs K F) fs vs
  | .tup ss => ∃ o vs, H a = some (.frz o (.tup vs)) ∧ o.dict = none ∧ IsAll K F ss vs
theorem mis_mono {K : PySem.W.Frag} {F F' H H' : Hp} {a : Addr} (e : Ex F F') (hh : H' a = H a) : ∀ {o : MO}, MIs K F H a o → MIs K F' H' a o
  | .lst _, ⟨vs, h1, h2⟩ => ⟨vs, hh.trans h1, isAll_mono e h2⟩
  | .dic _, ⟨kvs, h1, h2⟩ => ⟨kvs, hh.trans h1, h2.imp fun _ _ q => ⟨q.1, is_mono e q.2⟩⟩
  | .lok _ _ _, ⟨h1, h2⟩ => ⟨hh.trans h1, h2.imp fun _ _ q => ⟨q.1, is_mono e q.2⟩⟩
  | .ob _ _, ⟨dx, vs, h1, h2⟩ => ⟨dx, vs, hh.trans h1, h2.imp fun _ _ q => ⟨q.1, is_mono e q.2⟩⟩
  | .tup _, ⟨o, vs, h1, hd, h2⟩ => ⟨o, vs, hh.trans h1, hd, isAll_mono e h2⟩

/-- the heap: what never changes (F) and what may (M) -/
structure At (K : PySem.W.Frag) (F : Hp) (M : Mem) (H : Hp) : Prop where
  ex : Ex F H
  mem : ∀ a o, M a = some o → F a = none ∧ MIs K F H a o
section
variable {K : PySem.W.Frag} {F F' H : Hp} {M M' : Mem} {a p : Addr}
theorem At.at (h : At K F M H) {o : MO} (e : M a = some o) : ∃ ho, H a = some ho := by
  obtain ⟨_, q⟩ := h.mem a o e
  cases o with
  | lst ss => obtain ⟨vs, q, _⟩ := q; exact ⟨_, q⟩
  | dic ks => obtain ⟨vs, q, _⟩ := q; exact ⟨_, q⟩
  | lok od kvs ks => exact ⟨_, q.1⟩
  | ob C fs => obtain ⟨dx, vs, q, _⟩ := q; exact ⟨_, q⟩
  | tup ss => obtain ⟨o, vs, q, _⟩ := q; exact ⟨_, q⟩
theorem At.freeM (h : At K F M H) (e : H p = none) : M p = none := by
  cases q : M p with
  | none => rfl
  | some o => obtain ⟨ho, z⟩ := h.at q; rw [e] at z; cases z
theorem At.freeF (h : At K F M H) (e : H p = none) : F p = none := Evl.fresh_back h.ex e
theorem At.le (h : At K F M H) (l : Le M' M) : At K F M' H := ⟨h.ex, fun a o e => h.mem a o (l a o e)⟩
/-- a new thing that never changes -/
theorem At.laid (h : At K F M H) {o : HO} (e : H p = none) : Ex F (upd F p o) ∧ At K (upd F p o) M (upd H p o) := by
  have e1 : Ex F (upd F p o) := Ex.new (h.freeF e)
  refine ⟨e1, fun b u q => ?_, fun b u q => ?_⟩
  · by_cases hb : b = p
    · subst hb; rw [upd_same] at q ⊢; exact q
    · rw [upd_ne hb] at q ⊢; exact h.ex b u q
  · have hb : b ≠ p := neM q (h.freeM e)
    obtain ⟨q1, q2⟩ := h.mem b u q
    exact ⟨by rw [upd_ne hb]; exact q1, mis_mono e1 (by rw [upd_ne hb]) q2⟩
/-- something that may change is changed, or is new -/
theorem At.put (h : At K F M H) {o : MO} {ho : HO} (f : F p = none) (q : MIs K F (upd H p ho) p o) : At K F (upM M p o) (upd H p ho) := by
  refine ⟨fun b u z => ?_, fun b u z => ?_⟩
  · rw [upd_ne (ne_of_none z f)]; exact h.ex b u z
  · by_cases hb : b = p
    · subst hb; rw [upM_same] at z; cases z; exact ⟨f, q⟩
    · rw [upM_ne hb] at z
      obtain ⟨q1, q2⟩ := h.mem b u z
      exact ⟨q1, mis_mono (Ex.refl F) (by rw [upd_ne hb]) q2⟩
end
/-- the heap has gone on: what never changes is there, what is not spoken of is as it was -/
structure Go (K : PySem.W.Frag) (F : Hp) (M : Mem) (H : Hp) (F' : Hp) (M' : Mem) (H' : Hp) : Prop where
  ex : Ex F F'
  at' : At K F' M' H'
  fr : ∀ a o, H a = some o → F a = none → M a = none → H' a = some o ∧ F' a = none ∧ M' a = none
section
variable {K : PySem.W.Frag} {F F1 F2 H H1 H2 : Hp} {M M1 M2 : Mem} {p : Addr}
theorem Go.refl (h : At K F M H) : Go K F M H F M H := ⟨Ex.refl F, h, fun _ _ a b c => ⟨a, b, c⟩⟩
theorem Go.trans (g : Go K F M H F1 M1 H1) (g' : Go K F1 M1 H1 F2 M2 H2) : Go K F M H F2 M2 H2 :=
  ⟨g.ex.trans g'.ex, g'.at', fun a o h1 h2 h3 => let ⟨q1, q2, q3⟩ := g.fr a o h1 h2 h3; g'.fr a o q1 q2 q3⟩
/-- a new thing that never changes -/
theorem Go.laid (h : At K F M H) {o : HO} (e : H p = none) : Go K F M H (upd F p o) M (upd H p o) := by
  obtain ⟨e1, a1⟩ := h.laid (o := o) e
  refine ⟨e1, a1, fun a u h1 h2 h3 => ?_⟩
  have hn : a ≠ p := ne_of_none h1 e
  exact ⟨by rw [upd_ne hn]; exact h1, by rw [upd_ne hn]; exact h2, h3⟩
/-- something that may change is new -/
theorem Go.new (h : At K F M H) {o : MO} {ho : HO} (e : H p = none) (q : MIs K F (upd H p ho) p o) : Go K F M H F (upM M p o) (upd H p ho) := by
  refine ⟨Ex.refl F, h.put (h.freeF e) q, fun a u h1 h2 h3 => ?_⟩
  have hn : a ≠ p := ne_of_none h1 e
  exact ⟨by rw [upd_ne hn]; exact h1, h2, by rw [upM_ne hn]; exact h3⟩
/-- .. is changed -/
theorem Go.put (h : At K F M H) {o o0 : MO} {ho : HO} (e : M p = some o0) (q : MIs K F (upd H p ho) p o) : Go K F M H F (upM M p o) (upd H p ho) := by
  refine ⟨Ex.refl F, h.put (h.mem p o0 e).1 q, fun a u h1 h2 h3 => ?_⟩
  have hn : a ≠ p := fun z => by subst z; rw [e] at h3; cases h3
  exact ⟨by rw [upd_ne hn]; exact h1, h2, by rw [upM_ne hn]; exact h3⟩
/-- less is spoken of -/
theorem Go.le (g : Go K F M H F1 M1 H1) (l : Le M2 M1) : Go K F M H F1 M2 H1 :=
  ⟨g.ex, g.at'.le l, fun a o h1 h2 h3 => by
    obtain ⟨q1, q2, q3⟩ := g.fr a o h1 h2 h3
    refine ⟨q1, q2, ?_⟩
    cases z : M2 a with
    | none => rfl
    | some u => rw [l a u z] at q3; cases q3⟩
/-- a list that will not change any more -/
theorem Go.freeze (h : At K F M H) {ds : List PyData} (e : M p = some (.lst (ds.map Sl.d))) (hl : Le M1 M) (hp : M1 p = none) : ∃ F', Go K F M H F' M1 H ∧ Dq K F' (.ref p) (.list ds) := by
  obtain ⟨f, vs, q1, q2⟩ := h.mem p _ e
  have e1 : Ex F (upd F p (.lst vs)) := Ex.new f
  refine ⟨upd F p (.lst vs), ⟨e1, ⟨fun b u z => ?_, fun b u z => ?_⟩, fun b u h1 h2 h3 => ?_⟩, .lst upd_same (dqAll_mono e1 (dqAll_of q2))⟩
  · by_cases hb : b = p
    · subst hb; rw [upd_same] at z; cases z; exact q1
    · rw [upd_ne hb] at z; exact h.ex b u z
  · have hb : b ≠ p := neM z hp
    obtain ⟨r1, r2⟩ := h.mem b u (hl b u z)
    exact ⟨by rw [upd_ne hb]; exact r1, mis_mono e1 rfl r2⟩
  · have hb : b ≠ p := fun z => by subst z; rw [e] at h3; cases h3
    refine ⟨h1, by rw [upd_ne hb]; exact h2, ?_⟩
    cases z : M1 b with
    | none => rfl
    | some w => rw [hl b w z] at h3; cases h3
end

/-! ### the slots -/
abbrev Env' := List (Option Sl)
def SIs (K : PySem.W.Frag) (F : Hp) : Option Sl → Option V → Prop
  | none, _ => True
  | some r, o => ∃ u, o = some u ∧ Is K F r u
abbrev SOk (K : PySem.W.Frag) (F : Hp) : Env' → St → Prop := All2 (SIs K F)
theorem sis_mono {K : PySem.W.Frag} {F F' : Hp} (e : Ex F F') : ∀ {r : Option Sl} {o : Option V}, SIs K F r o → SIs K F' r o
  | none, _, _ => trivial
  | some _, _, ⟨u, h1, h2⟩ => ⟨u, h1, is_mono e h2⟩
theorem sok_mono {K : PySem.W.Frag} {F F' : Hp} (e : Ex F F') {dl : Env'} {st : St} (h : SOk K F dl st) : SOk K F' dl st := h.imp fun _ _ q => sis_mono e q
theorem sok_get {K : PySem.W.Frag} {F : Hp} {dl : Env'} {st : St} {i : Nat} {r : Sl} (h : SOk K F dl st) (e : dl[i]? = some (some r)) : ∃ u, st[i]? = some (some u) ∧ Is K F r u := by
  obtain ⟨o, h1, u, rfl, h2⟩ := h.get e
  exact ⟨u, h1, h2⟩
theorem sok_start {K : PySem.W.Frag} {F : Hp} {rs : List Sl} {vs : List V} (h : IsAll K F rs vs) (n : Nat) : SOk K F (rs.map some ++ List.replicate n none) (vs.map some ++ List.replicate n none) := by
  refine All2.append ?_ ?_
  · induction h with
    | nil => exact .nil
    | cons h _ ih => exact .cons ⟨_, rfl, h⟩ ih
  · induction n with
    | zero => exact .nil
    | succ n ih => exact .cons trivial ih

/-! ### readings -/
abbrev RK := Sl → Mem → Prop
abbrev WE := Env' → Mem → RK → Prop
abbrev WT := Env' → Mem → (Bool → Mem → Prop) → Prop
abbrev WA := Env' → Mem → (List Sl → Mem → Prop) → Prop
structure PK where
  nx : Env' → Mem → Prop
  rt : RK
  bk : Env' → Mem → Prop := fun _ _ => False
  ct : Env' → Mem → Prop := fun _ _ => False
abbrev WS := PK → Env' → Mem → Prop

def Po (K : PySem.W.Frag) (F : Hp) (M : Mem) (H : Hp) (R : RK) (Q : VK) : Prop := ∀ v F' H' r M', R r M' → Go K F M H F' M' H' → Is K F' r v → Q v H'
def PoT (K : PySem.W.Frag) (F : Hp) (M : Mem) (H : Hp) (R : Bool → Mem → Prop) (Q : Bool → Hp → Prop) : Prop := ∀ b F' H' M', R b M' → Go K F M H F' M' H' → Q b H'
def PoA (K : PySem.W.Frag) (F : Hp) (M : Mem) (H : Hp) (R : List Sl → Mem → Prop) (Q : List V → Hp → Prop) : Prop := ∀ vs F' H' rs M', R rs M' → Go K F M H F' M' H' → IsAll K F' rs vs → Q vs H'
def PoN (K : PySem.W.Frag) (F : Hp) (M : Mem) (H : Hp) (R : Env' → Mem → Prop) (Q : St → Hp → Prop) : Prop := ∀ st F' H' dl M', R dl M' → Go K F M H F' M' H' → SOk K F' dl st → Q st H'
structure PoS (K : PySem.W.Frag) (F : Hp) (M : Mem) (H : Hp) (P : PK) (D : Ends) : Prop where
  nx : PoN K F M H P.nx D.nx
  rt : Po K F M H P.rt D.rt
  bk : PoN K F M H P.bk D.bk
  ct : PoN K F M H P.ct D.ct
section
variable {K : PySem.W.Frag} {F F' H H' : Hp} {M M' : Mem}
theorem Po.mono {R : RK} {Q : VK} (h : Po K F M H R Q) (e : Go K F M H F' M' H') : Po K F' M' H' R Q := fun v G J r N a b => h v G J r N a (e.trans b)
theorem PoT.mono {R : Bool → Mem → Prop} {Q : Bool → Hp → Prop} (h : PoT K F M H R Q) (e : Go K F M H F' M' H') : PoT K F' M' H' R Q := fun v G J N a b => h v G J N a (e.trans b)
theorem PoN.mono {R : Env' → Mem → Prop} {Q : St → Hp → Prop} (h : PoN K F M H R Q) (e : Go K F M H F' M' H') : PoN K F' M' H' R Q := fun v G J r N a b => h v G J r N a (e.trans b)
theorem PoS.mono {P : PK} {D : Ends} (h : PoS K F M H P D) (e : Go K F M H F' M' H') : PoS K F' M' H' P D := ⟨h.nx.mono e, h.rt.mono e, h.bk.mono e, h.ct.mono e⟩
end

def tD (K : PySem.W.Frag) (w : WE) : TE := fun st H Q => ∃ F dl M R, SOk K F dl st ∧ At K F M H ∧ w dl M R ∧ Po K F M H R Q
def tDT (K : PySem.W.Frag) (w : WT) : TT := fun st H Q => ∃ F dl M R, SOk K F dl st ∧ At K F M H ∧ w dl M R ∧ PoT K F M H R Q
def tDA (K : PySem.W.Frag) (w : WA) : TA := fun st H Q => ∃ F dl M R, SOk K F dl st ∧ At K F M H ∧ w dl M R ∧ PoA K F M H R Q
def tDS (K : PySem.W.Frag) (w : WS) : TS := fun D st H => ∃ F dl M P, SOk K F dl st ∧ At K F M H ∧ w P dl M ∧ PoS K F M H P D

def PD (X : Cx) (e : Expr) (w : WE) : Prop := PE X e (tD X.K w)
def PDT (X : Cx) (e : Expr) (w : WT) : Prop := PT X e (tDT X.K w)
def PDA (X : Cx) (es : List Expr) (w : WA) : Prop := PA X es (tDA X.K w)
def PDS (X : Cx) (st : Stmt) (w : WS) : Prop := PS X st (tDS X.K w)
def PDB (X : Cx) (st : List Stmt) (w : WS) : Prop := PSs X st (tDS X.K w)

theorem pe_imp {X : Cx} {e : Expr} {t u : TE} (h : PE X e t) (i : ∀ st H Q, u st H Q → t st H Q) : PE X e u := ⟨fun pins s st H Q I q => h.run pins s st H Q I (i st H Q q)⟩
theorem pt_imp {X : Cx} {e : Expr} {t u : TT} (h : PT X e t) (i : ∀ st H Q, u st H Q → t st H Q) : PT X e u := ⟨fun pins s st H Q I q => h.run pins s st H Q I (i st H Q q)⟩
theorem pa_imp {X : Cx} {e : List Expr} {t u : TA} (h : PA X e t) (i : ∀ st H Q, u st H Q → t st H Q) : PA X e u := ⟨fun po pins s st H Q I q => h.run po pins s st H Q I (i st H Q q)⟩
theorem ps_imp {X : Cx} {e : Stmt} {t u : TS} (h : PS X e t) (i : ∀ D st H, u D st H → t D st H) : PS X e u := ⟨fun pins s st H D I q => h.run pins s st H D I (i D st H q)⟩
theorem pss_imp {X : Cx} {e : List Stmt} {t u : TS} (h : PSs X e t) (i : ∀ D st H, u D st H → t D st H) : PSs X e u := ⟨fun pins s st H D I q => h.run pins s st H D I (i D st H q)⟩

/-- one reading behind another -/
theorem tD_to {K : PySem.W.Frag} {F : Hp} {dl : Env'} {M : Mem} {st : St} {H : Hp} {w : WE} {R : RK} {Q : VK} (so : SOk K F dl st) (at0 : At K F M H) (hw : w dl M R) (k : ∀ v F' H' r M', R r M' → Go K F M H F' M' H' → SOk K F' dl st → At K F' M' H' → Is K F' r v → Q v H') : tD K w st H Q :=
  ⟨F, dl, M, R, so, at0, hw, fun v F' H' r M' a b d => k v F' H' r M' a b (sok_mono b.ex so) b.at' d⟩
theorem tDT_to {K : PySem.W.Frag} {F : Hp} {dl : Env'} {M : Mem} {st : St} {H : Hp} {w : WT} {R : Bool → Mem → Prop} {Q : Bool → Hp → Prop} (so : SOk K F dl st) (at0 : At K F M H) (hw : w dl M R) (k : ∀ b F' H' M', R b M' → Go K F M H F' M' H' → SOk K F' dl st → At K F' M' H' → Q b H') : tDT K w st H Q :=
  ⟨F, dl, M, R, so, at0, hw, fun v F' H' M' a b => k v F' H' M' a b (sok_mono b.ex so) b.at'⟩
theorem tDA_to {K : PySem.W.Frag} {F : Hp} {dl : Env'} {M : Mem} {st : St} {H : Hp} {w : WA} {R : List Sl → Mem → Prop} {Q : List V → Hp → Prop} (so : SOk K F dl st) (at0 : At K F M H) (hw : w dl M R) (k : ∀ vs F' H' rs M', R rs M' → Go K F M H F' M' H' → SOk K F' dl st → At K F' M' H' → IsAll K F' rs vs → Q vs H') : tDA K w st H Q :=
  ⟨F, dl, M, R, so, at0, hw, fun v F' H' r M' a b d => k v F' H' r M' a b (sok_mono b.ex so) b.at' d⟩

/-! ### expressions -/
abbrev wVar (i : Nat) : WE := fun dl M R => ∃ r, dl[i]? = some (some r) ∧ R r M
abbrev wC (r : Sl) : WE := fun _ M R => R r M
section
variable {X : Cx} {a b c : Expr} {wa wb wc : WE} {pos : Pos}
theorem pd_var (i : Nat) {x : Str} (hN : X.N[i]? = some x := by rfl) (hv : Vis X.env.scope x := by first | exact Or.inl rfl | exact Or.inr (Or.inl rfl) | exact Or.inr (Or.inr rfl)) (hd : (x == ("__debug__" : Str)) = false := by decide)
    (hcd : (x == ("__classdict__" : Str)) = false := by decide) : PD X (.Name x pos) (wVar i) := by
  refine pe_imp (pv i hN hv hd hcd) fun st H Q ⟨F, dl, M, R, so, at0, ⟨r, h1, h2⟩, po⟩ => ?_
  obtain ⟨u, g1, g2⟩ := sok_get so h1
  exact ⟨u, g1, po u F H r M h2 (Go.refl at0) g2⟩
theorem pd_c {e : Expr} {v : V} {x : PyData} (h : PE X e (tC v)) (hd : ∀ F, Dq X.K F v x) : PD X e (wC (.d x)) :=
  pe_imp h fun st H Q ⟨F, dl, M, R, so, at0, hw, po⟩ => po v F H _ M hw (Go.refl at0) (hd F)
theorem pd_int {i j pos} : PD X (.Constant (.int i) j pos) (wC (.i i)) := pd_c pe_int fun _ => .int i
theorem pd_str {i j pos} : PD X (.Constant (.str i) j pos) (wC (.s i)) := pd_c pe_str fun _ => .str i
theorem pd_bl {i j pos} : PD X (.Constant (.bool i) j pos) (wC (.b i)) := pd_c pe_bl fun _ => .bl i
theorem pd_non {j pos} : PD X (.Constant .none j pos) (wC .n) := pd_c pe_non fun _ => .non

/-- a two-place operation by what is known of its operands -/
abbrev W2 := Sl → Sl → Mem → RK → Prop
def OpD (X : Cx) (f : Value → Value → Sem Value) (g : W2) : Prop := ∃ r : R2, OpR X f r ∧ ∀ (F H : Hp) (M : Mem) (x y : V) (p q : Sl) (R : RK) (Q : VK), At X.K F M H → Is X.K F p x → Is X.K F q y → g p q M R → Po X.K F M H R Q → r x y H Q
abbrev wOp (g : W2) (wa wb : WE) : WE := fun dl M R => wa dl M fun p M1 => wb dl M1 fun q M2 => g p q M2 R
theorem tD_op {K : PySem.W.Frag} {g : W2} {r : R2} (hr : ∀ (F H : Hp) (M : Mem) (x y : V) (p q : Sl) (R : RK) (Q : VK), At K F M H → Is K F p x → Is K F q y → g p q M R → Po K F M H R Q → r x y H Q) {st : St} {H : Hp} {Q : VK}
    (h : tD K (wOp g wa wb) st H Q) : tOp r (tD K wa) (tD K wb) st H Q := by
  obtain ⟨F, dl, M, R, so, at0, hw, po⟩ := h
  refine tD_to so at0 hw fun x F1 H1 p M1 h1 e1 so1 at1 i1 => ?_
  refine tD_to so1 at1 h1 fun y F2 H2 q M2 h2 e2 so2 at2 i2 => ?_
  exact hr F2 H2 M2 x y p q R Q at2 (is_mono e2.ex i1) i2 h2 (po.mono (e1.trans e2))
theorem pd_op {op : Operator} {g : W2} (ho : OpD X (binaryOp op) g) (ha : PD X a wa) (hb : PD X b wb) : PD X (.BinOp a op b pos) (wOp g wa wb) := by
  obtain ⟨r, h1, h2⟩ := ho
  exact pe_imp (pe_op h1 ha hb) fun st H Q h => tD_op h2 h
theorem pd_cmp {op : CmpOp} {g : W2} (ho : OpD X (compareOp op) g) (ha : PD X a wa) (hb : PD X b wb) (hm : behindInMarks op b = false) : PD X (.Compare a [op] [b] pos) (wOp g wa wb) := by
  obtain ⟨r, h1, h2⟩ := ho
  exact pe_imp (pe_cmpR h1 ha hb hm) fun st H Q h => tD_op h2 h
end
end DL

set_option Elab.async false
set_option linter.all false
set_option maxRecDepth 100000
set_option maxHeartbeats 4000000
/-! DB: operators, tests, displays, items, slices by data. -/
namespace DL
open PySem L2
open Evl (Ex)

/-- every rule of an operation at once -/
def rAny (X : Cx) (f : Value → Value → Sem Value) : R2 := fun x y H Q => ∃ r : R2, OpR X f r ∧ r x y H Q
theorem opR_any {X : Cx} {f : Value → Value → Sem Value} : OpR X f (rAny X f) := fun pins s st H x y v u Q I rx ry ⟨_, ho, h⟩ => ho pins s st H x y v u Q I rx ry h
/-- an operation by shapes -/
theorem opD_of {X : Cx} {f : Value → Value → Sem Value} {g : W2} (h : ∀ (F H : Hp) (M : Mem) (x y : V) (p q : Sl) (R : RK) (Q : VK), At X.K F M H → Is X.K F p x → Is X.K F q y → g p q M R → Po X.K F M H R Q → rAny X f x y H Q) : OpD X f g := ⟨rAny X f, opR_any, h⟩

/-- the items of a list, of a tuple -/
def lsOf (M : Mem) : Sl → Option (List Sl)
  | .d (.list ds) => some (ds.map Sl.d)
  | .v (.ref p) => match M p with
    | some (.lst ss) => some ss
    | _ => none
  | _ => none
theorem lsOf_at {K : PySem.W.Frag} {F H : Hp} {M : Mem} (at0 : At K F M H) : ∀ {r : Sl} {v : V} {ss : List Sl}, Is K F r v → lsOf M r = some ss → ∃ a vs, v = .ref a ∧ H a = some (.lst vs) ∧ IsAll K F ss vs
  | .d (.list ds), _, _, h, e => by
    cases e
    cases h with
    | lst h1 h2 => exact ⟨_, _, rfl, at0.ex _ _ h1, isAll_d h2⟩
  | .v (.ref p), v, ss, h, e => by
    have h' : v = .ref p := h
    subst h'
    simp only [lsOf] at e
    split at e
    · rename_i s2 q
      cases e
      obtain ⟨_, vs, h1, h2⟩ := at0.mem p _ q
      exact ⟨p, vs, rfl, h1, h2⟩
    · cases e
  | .r _, _, _, _, e => by simp [lsOf] at e
  | .w _, _, _, _, e => by simp [lsOf] at e
  | .e _ _, _, _, _, e => by simp [lsOf] at e
  | .pe _ _ _, _, _, _, e => by simp [lsOf] at e
  | .d .none, _, _, _, e => by simp [lsOf] at e
  | .d (.bool _), _, _, _, e => by simp [lsOf] at e
  | .d (.int _), _, _, _, e => by simp [lsOf] at e
  | .d (.str _), _, _, _, e => by simp [lsOf] at e
  | .d (.tuple _), _, _, _, e => by simp [lsOf] at e
  | .d (.dict _), _, _, _, e => by simp [lsOf] at e
theorem sqT_at {K : PySem.W.Frag} {F H : Hp} {M : Mem} (at0 : At K F M H) {v : V} {ds : List PyData} (h : Dq K F v (.tuple ds)) : ∃ a vs, v = .ref a ∧ SqT K H a vs ∧ DqAll K F vs ds := by
  cases h with
  | tup h1 h2 => exact ⟨_, _, rfl, Evl.ex_t at0.ex h1.sq, h2⟩
/-- .. that is only read -/
def rlOf (M : Mem) : Sl → Option (List Sl)
  | .r ns => some (ns.map fun n => Sl.i n)
  | .d x => lsOf M (.d x)
  | .v x => lsOf M (.v x)
  | .w x => lsOf M (.w x)
  | .e C x => lsOf M (.e C x)
  | .pe d C x => lsOf M (.pe d C x)
theorem isAll_ints {K : PySem.W.Frag} {F : Hp} : ∀ ns : List Int, IsAll K F (ns.map fun n => Sl.i n) (ns.map V.int)
  | [] => .nil
  | n :: r => .cons (Dq.int n) (isAll_ints r)
theorem rlOf_at {K : PySem.W.Frag} {F H : Hp} {M : Mem} (at0 : At K F M H) : ∀ {r : Sl} {v : V} {ss : List Sl}, Is K F r v → rlOf M r = some ss → ∃ a vs, v = .ref a ∧ SqL K H a vs ∧ IsAll K F ss vs
  | .r ns, _, _, ⟨a, h1, h2⟩, e => by
    cases e
    exact ⟨a, _, h1, ex_l at0.ex h2, isAll_ints ns⟩
  | .d _, _, _, h, e => by
    obtain ⟨a, vs, h1, h2, h3⟩ := lsOf_at at0 h e
    exact ⟨a, vs, h1, SqL.of h2, h3⟩
  | .v _, _, _, h, e => by
    obtain ⟨a, vs, h1, h2, h3⟩ := lsOf_at at0 h e
    exact ⟨a, vs, h1, SqL.of h2, h3⟩
  | .w _, _, _, _, e => by simp [rlOf, lsOf] at e
  | .e _ _, _, _, _, e => by simp [rlOf, lsOf] at e
  | .pe _ _ _, _, _, _, e => by simp [rlOf, lsOf] at e
/-- data out of slots -/
def datOf : List Sl → Option (List PyData)
  | [] => some []
  | .d x :: r => (datOf r).map (x :: ·)
  | .v _ :: _ => none
  | .r _ :: _ => none
  | .w _ :: _ => none
  | .e _ _ :: _ => none
  | .pe _ _ _ :: _ => none
theorem datOf_eq : ∀ {ss : List Sl} {ds : List PyData}, datOf ss = some ds → ss = ds.map Sl.d
  | [], _, h => by cases h; rfl
  | .d x :: r, ds, h => by
    simp only [datOf, Option.map_eq_some_iff] at h
    obtain ⟨rs, h1, rfl⟩ := h
    rw [datOf_eq h1]; rfl
  | .v _ :: _, _, h => by cases h
  | .r _ :: _, _, h => by cases h
  | .w _ :: _, _, h => by cases h
  | .e _ _ :: _, _, h => by cases h
  | .pe _ _ _ :: _, _, h => by cases h
theorem datOf_map (ds : List PyData) : datOf (ds.map Sl.d) = some ds := by
  induction ds with
  | nil => rfl
  | cons a r ih => simp only [List.map_cons, datOf, ih, Option.map_some]

section
variable {X : Cx}
theorem dq_int {K : PySem.W.Frag} {F : Hp} {v : V} {i : Int} (h : Dq K F v (.int i)) : v = .int i := by cases h; rfl
theorem dq_str {K : PySem.W.Frag} {F : Hp} {v : V} {i : Str} (h : Dq K F v (.str i)) : v = .str i := by cases h; rfl
theorem dq_bl {K : PySem.W.Frag} {F : Hp} {v : V} {i : Bool} (h : Dq K F v (.bool i)) : v = .bl i := by cases h; rfl
theorem dq_non {K : PySem.W.Frag} {F : Hp} {v : V} (h : Dq K F v .none) : v = .non := by cases h; rfl
/-- two ints -/
abbrev gI (C : Int → Int → Prop) (g : Int → Int → PyData) : W2 := fun p q M R => match p, q with
  | .d (.int i), .d (.int j) => C i j ∧ R (.d (g i j)) M
  | _, _ => False
abbrev gI0 (g : Int → Int → PyData) : W2 := fun p q M R => match p, q with
  | .d (.int i), .d (.int j) => R (.d (g i j)) M
  | _, _ => False
theorem gI_to {C : Int → Int → Prop} {g : Int → Int → PyData} {p q : Sl} {M : Mem} {R : RK} (h : gI C g p q M R) : ∃ i j, p = .i i ∧ q = .i j ∧ C i j ∧ R (.d (g i j)) M := by
  unfold gI at h
  split at h
  · exact ⟨_, _, rfl, rfl, h⟩
  · exact h.elim
theorem gI0_to {g : Int → Int → PyData} {p q : Sl} {M : Mem} {R : RK} (h : gI0 g p q M R) : ∃ i j, p = .i i ∧ q = .i j ∧ R (.d (g i j)) M := by
  unfold gI0 at h
  split at h
  · exact ⟨_, _, rfl, rfl, h⟩
  · exact h.elim
theorem oI {f : Value → Value → Sem Value} {C : Int → Int → Prop} {g : Int → Int → PyData} {gv : Int → Int → V} (ho : OpR X f (rI C gv)) (hg : ∀ F i j, Dq X.K F (gv i j) (g i j)) : OpD X f (gI C g) :=
  opD_of fun F H M x y p q R Q at0 h1 h2 h3 po => by
    obtain ⟨i, j, rfl, rfl, hc, hR⟩ := gI_to h3
    exact ⟨_, ho, i, j, dq_int h1, dq_int h2, hc, po _ F H _ M hR (Go.refl at0) (hg F i j)⟩
theorem oI0 {f : Value → Value → Sem Value} {g : Int → Int → PyData} {gv : Int → Int → V} (ho : OpR X f (rI0 gv)) (hg : ∀ F i j, Dq X.K F (gv i j) (g i j)) : OpD X f (gI0 g) :=
  opD_of fun F H M x y p q R Q at0 h1 h2 h3 po => by
    obtain ⟨i, j, rfl, rfl, hR⟩ := gI0_to h3
    exact ⟨_, ho, i, j, dq_int h1, dq_int h2, po _ F H _ M hR (Go.refl at0) (hg F i j)⟩
abbrev gAdd : W2 := gI0 fun i j => .int (i + j)
abbrev gSub : W2 := gI0 fun i j => .int (i - j)
abbrev gMul : W2 := gI (fun i j => (-(2 ^ 64) < i ∧ i < 2 ^ 64) ∨ (-(2 ^ 64) < j ∧ j < 2 ^ 64)) fun i j => .int (i * j)
abbrev gDiv : W2 := gI (fun _ j => 0 < j ∧ j < 1073741824) fun i j => .int (i / j)
abbrev gMod : W2 := gI (fun _ j => 0 < j) fun i j => .int (i % j)
abbrev gPow : W2 := gI (fun i j => 0 ≤ j ∧ j ≤ 1000000 ∧ i.natAbs < 2 ^ 64) fun i j => .int (i ^ j.toNat)
abbrev gLt : W2 := gI0 fun i j => .bool (decide (i < j))
abbrev gLe : W2 := gI0 fun i j => .bool (decide (i ≤ j))
abbrev gGt : W2 := gI0 fun i j => .bool (decide (j < i))
abbrev gGe : W2 := gI0 fun i j => .bool (decide (j ≤ i))
theorem o_add : OpD X (binaryOp .Add) gAdd := oI0 op_add fun _ _ _ => .int _
theorem o_sub : OpD X (binaryOp .Sub) gSub := oI0 op_sub fun _ _ _ => .int _
theorem o_mul : OpD X (binaryOp .Mult) gMul := oI op_mul fun _ _ _ => .int _
theorem o_div : OpD X (binaryOp .FloorDiv) gDiv := oI op_fdiv fun _ _ _ => .int _
theorem o_mod : OpD X (binaryOp .Mod) gMod := oI op_mod fun _ _ _ => .int _
theorem o_pow : OpD X (binaryOp .Pow) gPow := oI op_pow fun _ _ _ => .int _
theorem o_lt : OpD X (compareOp .Lt) gLt := oI0 op_lt fun _ _ _ => .bl _
theorem o_le : OpD X (compareOp .LtE) gLe := oI0 op_le fun _ _ _ => .bl _
theorem o_gt : OpD X (compareOp .Gt) gGt := oI0 op_gt fun _ _ _ => .bl _
theorem o_ge : OpD X (compareOp .GtE) gGe := oI0 op_ge fun _ _ _ => .bl _

/-! ### == and != of data -/
abbrev gEq : W2 := fun p q M R => match p, q with
  | .d (.str a), .d (.str b) => R (.b (decide (a = b))) M
  | .d (.int a), .d (.int b) => R (.b (decide (a = b))) M
  | .d a, .d b => SeqAt.shaped a = true ∧ SeqAt.shaped b = true ∧ R (.b (PyData.eqv a b)) M
  | .v (.ref p), .d b => ∃ ss ds, M p = some (.lst ss) ∧ datOf ss = some ds ∧ SeqAt.shaped (.list ds) = true ∧ SeqAt.shaped b = true ∧ R (.b (PyData.eqv (.list ds) b)) M
  | _, _ => False
abbrev gNe : W2 := fun p q M R => match p, q with
  | .d (.str a), .d (.str b) => R (.b (!decide (a = b))) M
  | .d (.int a), .d (.int b) => R (.b (!decide (a = b))) M
  | .d a, .d b => SeqAt.shaped a = true ∧ SeqAt.shaped b = true ∧ R (.b (!PyData.eqv a b)) M
  | .v (.ref p), .d b => ∃ ss ds, M p = some (.lst ss) ∧ datOf ss = some ds ∧ SeqAt.shaped (.list ds) = true ∧ SeqAt.shaped b = true ∧ R (.b (!PyData.eqv (.list ds) b)) M
  | _, _ => False
theorem dq_up {K : PySem.W.Frag} {F H : Hp} (e : Ex F H) {v : V} {d : PyData} (h : Dq K F v d) : Dp K H v d := dq_dp (dq_mono e h)
theorem dp_mem {K : PySem.W.Frag} {F H : Hp} {M : Mem} (at0 : At K F M H) {p : Addr} {ss : List Sl} {ds : List PyData} (m : M p = some (.lst ss)) (e : datOf ss = some ds) : Dp K H (.ref p) (.list ds) := by
  obtain ⟨_, vs, h1, h2⟩ := at0.mem p _ m
  rw [datOf_eq e] at h2
  exact .lst (SqL.of h1) (dqAll_dp (dqAll_mono at0.ex (dqAll_of h2)))
theorem decV_str {a b : Str} : decide (V.str a = V.str b) = decide (a = b) := by simp
theorem decV_int {a b : Int} : decide (V.int a = V.int b) = decide (a = b) := by simp
theorem o_eq (hu : X.A.units + 64 < cLine) : OpD X (compareOp .Eq) gEq :=
  opD_of fun F H M x y p q R Q at0 h1 h2 h3 po => by
    unfold gEq at h3
    split at h3
    · cases dq_str h1; cases dq_str h2
      exact ⟨_, op_eq, rfl, by rw [decV_str]; exact po _ F H _ M h3 (Go.refl at0) (.bl _)⟩
    · cases dq_int h1; cases dq_int h2
      exact ⟨_, op_eq, rfl, by rw [decV_int]; exact po _ F H _ M h3 (Go.refl at0) (.bl _)⟩
    · exact ⟨_, op_eqD hu, _, _, dq_up at0.ex h1, dq_up at0.ex h2, h3.1, h3.2.1, po _ F H _ M h3.2.2 (Go.refl at0) (.bl _)⟩
    · obtain ⟨ss, ds, m, e, s1, s2, hR⟩ := h3
      have e1 : x = .ref _ := h1
      subst e1
      exact ⟨_, op_eqD hu, _, _, dp_mem at0 m e, dq_up at0.ex h2, s1, s2, po _ F H _ M hR (Go.refl at0) (.bl _)⟩
    · exact h3.elim
theorem o_ne (hu : X.A.units + 64 < cLine) : OpD X (compareOp .NotEq) gNe :=
  opD_of fun F H M x y p q R Q at0 h1 h2 h3 po => by
    unfold gNe at h3
    split at h3
    · cases dq_str h1; cases dq_str h2
      exact ⟨_, op_ne, rfl, by rw [decV_str]; exact po _ F H _ M h3 (Go.refl at0) (.bl _)⟩
    · cases dq_int h1; cases dq_int h2
      exact ⟨_, op_ne, rfl, by rw [decV_int]; exact po _ F H _ M h3 (Go.refl at0) (.bl _)⟩
    · exact ⟨_, op_neD hu, _, _, dq_up at0.ex h1, dq_up at0.ex h2, h3.1, h3.2.1, po _ F H _ M h3.2.2 (Go.refl at0) (.bl _)⟩
    · obtain ⟨ss, ds, m, e, s1, s2, hR⟩ := h3
      have e1 : x = .ref _ := h1
      subst e1
      exact ⟨_, op_neD hu, _, _, dp_mem at0 m e, dq_up at0.ex h2, s1, s2, po _ F H _ M hR (Go.refl at0) (.bl _)⟩
    · exact h3.elim
/-! ### is None -/
def isN : PyData → Bool
  | .none => true
  | _ => false
abbrev gIsN : W2 := fun p q M R => match p, q with
  | .d a, .d .none => R (.b (isN a)) M
  | _, _ => False
abbrev gNotN : W2 := fun p q M R => match p, q with
  | .d a, .d .none => R (.b (!isN a)) M
  | _, _ => False
theorem isN_eq {K : PySem.W.Frag} {F : Hp} {v : V} {d : PyData} (h : Dq K F v d) : decide (v = V.non) = isN d := by cases h <;> rfl
theorem gIsN_to {p q : Sl} {M : Mem} {R : RK} (h : gIsN p q M R) : ∃ a, p = .d a ∧ q = .n ∧ R (.b (isN a)) M := by
  unfold gIsN at h
  split at h
  · exact ⟨_, rfl, rfl, h⟩
  · exact h.elim
theorem gNotN_to {p q : Sl} {M : Mem} {R : RK} (h : gNotN p q M R) : ∃ a, p = .d a ∧ q = .n ∧ R (.b (!isN a)) M := by
  unfold gNotN at h
  split at h
  · exact ⟨_, rfl, rfl, h⟩
  · exact h.elim
theorem o_isN : OpD X (compareOp .Is) gIsN :=
  opD_of fun F H M x y p q R Q at0 h1 h2 h3 po => by
    obtain ⟨a, rfl, rfl, hR⟩ := gIsN_to h3
    exact ⟨_, op_isN, dq_non h2, by rw [isN_eq h1]; exact po _ F H _ M hR (Go.refl at0) (.bl _)⟩
theorem o_notN : OpD X (compareOp .IsNot) gNotN :=
  opD_of fun F H M x y p q R Q at0 h1 h2 h3 po => by
    obtain ⟨a, rfl, rfl, hR⟩ := gNotN_to h3
    exact ⟨_, op_notN, dq_non h2, by rw [isN_eq h1]; exact po _ F H _ M hR (Go.refl at0) (.bl _)⟩

/-! ### new things -/
theorem po_dat {K : PySem.W.Frag} {F H : Hp} {M : Mem} {R : RK} {Q : VK} {p : Addr} {o : HO} {d : PyData} (at0 : At K F M H) (po : Po K F M H R Q) (hp : H p = none) (hR : R (.d d) M) (hd : ∀ F', Ex F F' → F' p = some o → Dq K F' (.ref p) d) : Q (.ref p) (upd H p o) := by
  have g := Go.laid at0 (o := o) hp
  exact po _ _ _ _ M hR g (hd _ g.ex upd_same)
theorem po_lst {K : PySem.W.Frag} {F H : Hp} {M : Mem} {R : RK} {Q : VK} {p : Addr} {vs : List V} {ss : List Sl} (at0 : At K F M H) (po : Po K F M H R Q) (hp : H p = none) (h : IsAll K F ss vs) (hR : ∀ a, M a = none → R (.v (.ref a)) (upM M a (.lst ss))) : Q (.ref p) (upd H p (.lst vs)) :=
  po _ F _ _ _ (hR p (at0.freeM hp)) (Go.new at0 hp ⟨vs, upd_same, h⟩) rfl

/-! ### + of lists and tuples, * of a list -/
/-- lists, to a datum -/
abbrev gCat : W2 := fun p q M R => ∃ xs ys zs, lsOf M p = some xs ∧ lsOf M q = some ys ∧ datOf (xs ++ ys) = some zs ∧ xs.length + ys.length ≤ sizeLine ∧ R (.d (.list zs)) M
/-- lists, to a new list that may change -/
abbrev gCatM : W2 := fun p q M R => ∃ xs ys, lsOf M p = some xs ∧ lsOf M q = some ys ∧ xs.length + ys.length ≤ sizeLine ∧ ∀ a, M a = none → R (.v (.ref a)) (upM M a (.lst (xs ++ ys)))
theorem o_cat : OpD X (binaryOp .Add) gCat :=
  opD_of fun F H M x y p q R Q at0 h1 h2 h3 po => by
    obtain ⟨xs, ys, zs, e1, e2, e3, hz, hR⟩ := h3
    obtain ⟨a, vs, rfl, g1, i1⟩ := lsOf_at at0 h1 e1
    obtain ⟨b, us, rfl, g2, i2⟩ := lsOf_at at0 h2 e2
    refine ⟨_, op_cat, a, b, vs, us, rfl, rfl, g1, g2, by rw [← i1.length, ← i2.length]; exact hz, fun c hc => ?_⟩
    have i3 := i1.append i2
    rw [datOf_eq e3] at i3
    exact po_dat at0 po hc hR fun F' e h => .lst h (dqAll_mono e (dqAll_of i3))
theorem o_catM : OpD X (binaryOp .Add) gCatM :=
  opD_of fun F H M x y p q R Q at0 h1 h2 h3 po => by
    obtain ⟨xs, ys, e1, e2, hz, hR⟩ := h3
    obtain ⟨a, vs, rfl, g1, i1⟩ := lsOf_at at0 h1 e1
    obtain ⟨b, us, rfl, g2, i2⟩ := lsOf_at at0 h2 e2
    exact ⟨_, op_cat, a, b, vs, us, rfl, rfl, g1, g2, by rw [← i1.length, ← i2.length]; exact hz, fun c hc => po_lst at0 po hc (i1.append i2) hR⟩
theorem dqAll_app {K : PySem.W.Frag} {F : Hp} : ∀ {xs ys : List PyData} {vs us : List V}, DqAll K F vs xs → DqAll K F us ys → DqAll K F (vs ++ us) (xs ++ ys)
  | _, _, _, _, .nil, h => h
  | _, _, _, _, .cons a t, h => .cons a (dqAll_app t h)
theorem dqAll_len {K : PySem.W.Frag} {F : Hp} : ∀ {xs : List PyData} {vs : List V}, DqAll K F vs xs → vs.length = xs.length
  | _, _, .nil => rfl
  | _, _, .cons _ t => congrArg (· + 1) (dqAll_len t)
/-- tuples (the left one not empty) -/
abbrev gCatT : W2 := fun p q M R => match p, q with
  | .d (.tuple xs), .d (.tuple ys) => xs ≠ [] ∧ xs.length + ys.length ≤ sizeLine ∧ R (.d (.tuple (xs ++ ys))) M
  | _, _ => False
abbrev gRep : W2 := fun p q M R => match q with
  | .d (.int k) => ∃ xs zs, lsOf M p = some xs ∧ datOf xs = some zs ∧ 0 ≤ k ∧ k < 1000000 ∧ xs.length * k.toNat ≤ sizeLine ∧ R (.d (.list (List.replicate k.toNat zs).flatten)) M
  | _ => False
theorem dqAll_rep {K : PySem.W.Frag} {F : Hp} {zs : List PyData} {vs : List V} (h : DqAll K F vs zs) : ∀ n : Nat, DqAll K F (List.replicate n vs).flatten (List.replicate n zs).flatten
  | 0 => .nil
  | n + 1 => by
    rw [List.replicate_succ, List.replicate_succ, List.flatten_cons, List.flatten_cons]
    exact dqAll_app h (dqAll_rep h n)
theorem o_rep : OpD X (binaryOp .Mult) gRep :=
  opD_of fun F H M x y p q R Q at0 h1 h2 h3 po => by
    unfold gRep at h3
    split at h3
    · rename_i k
      obtain ⟨xs, zs, e1, e3, k0, k1, hz, hR⟩ := h3
      obtain ⟨a, vs, rfl, g1, i1⟩ := lsOf_at at0 h1 e1
      rw [datOf_eq e3] at i1
      refine ⟨_, op_rep, a, k, vs, rfl, dq_int h2, g1, by omega, by omega, ?_, fun c hc => ?_⟩
      · have := i1.length
        rw [← datOf_eq e3] at this
        rw [← this]; exact hz
      · exact po_dat at0 po hc hR fun F' e h => .lst h (dqAll_mono e (dqAll_rep (dqAll_of i1) _))
    · exact h3.elim
end

section
variable {X : Cx} {a b c : Expr} {wa wb wc : WE} {pos : Pos}
/-! ### argument lists, displays -/
abbrev wNil : WA := fun _ M R => R [] M
abbrev wCons (wa : WE) (wr : WA) : WA := fun dl M R => wa dl M fun r M1 => wr dl M1 fun rs M2 => R (r :: rs) M2
theorem pda_nil : PDA X [] wNil := pa_imp pa_nil fun st H Q ⟨F, dl, M, R, so, at0, hw, po⟩ => po [] F H [] M hw (Go.refl at0) .nil
theorem pda_cons {e : Expr} {es : List Expr} {wr : WA} (ha : PD X e wa) (hr : PDA X es wr) (hs : starEach (e :: es) X.env = (false, eval e X.env) :: starEach es X.env := by rfl) : PDA X (e :: es) (wCons wa wr) := by
  refine pa_imp (pa_cons ha hr hs) fun st H Q ⟨F, dl, M, R, so, at0, hw, po⟩ => ?_
  refine tD_to so at0 hw fun x F1 H1 p M1 h1 e1 so1 at1 i1 => ?_
  refine tDA_to so1 at1 h1 fun vs F2 H2 rs M2 h2 e2 so2 at2 i2 => ?_
  exact po (x :: vs) F2 H2 (p :: rs) M2 h2 (e1.trans e2) (.cons (is_mono e2.ex i1) i2)
/-- (a, b, ..) of data -/
abbrev wTup (wa : WA) : WE := fun dl M R => wa dl M fun rs M1 => ∃ ds, datOf rs = some ds ∧ ds.length ≤ sizeLine ∧ R (.d (.tuple ds)) M1
/-- [a, b, ..] of data -/
abbrev wLst (wa : WA) : WE := fun dl M R => wa dl M fun rs M1 => ∃ ds, datOf rs = some ds ∧ ds.length ≤ sizeLine ∧ R (.d (.list ds)) M1
/-- [a, b, ..] that may change -/
abbrev wLstM (wa : WA) : WE := fun dl M R => wa dl M fun rs M1 => rs.length ≤ sizeLine ∧ ∀ p, M1 p = none → R (.v (.ref p)) (upM M1 p (.lst rs))
/-- a display makes a plain tuple -/
theorem pe_tupF {X : Cx} {es : List Expr} {pos : Pos} {k : Nat} {ta : TA} (h : PA X es ta) : PE X (.Tuple es k pos) (fun st H Q => ta st H fun xs H1 => xs.length ≤ sizeLine ∧ ∀ p o, o.dict = none → H1 p = none → Q (.ref p) (upd H1 p (.frz o (.tup xs)))) := by
  refine ⟨fun pins s st H Q I hq => wpAny_Tuple_spliced (thn (h.run pos pins s st H _ I hq) fun us s1 ⟨xs, H1, I1, r, z, q⟩ => ⟨r.length ▸ z, ?_⟩)⟩
  let ob : Obj := { cls := .type "tuple", data := .seq us.toArray }
  have got : (s1.heap.push ob).get? s1.heap.objs.size = some ob := Heap.get?_push_size _ rfl
  have J : Inv X pins st (upd H1 s1.heap.objs.size (.frz ob (.tup xs))) { s1 with heap := s1.heap.push ob } := I1.laid (t' := s1.toks) (fun _ _ e => Heap.get?_push_of_some _ e) (Nat.le_refl _) ⟨got, z, us, r, ob, got, rfl, _, rfl⟩
  exact ⟨.ref s1.heap.objs.size, _, J, rfl, q _ ob rfl (I1.hok.fresh (Nat.le_refl _))⟩
theorem pd_tup {es : List Expr} {wr : WA} {k : Nat} (h : PDA X es wr) : PD X (.Tuple es k pos) (wTup wr) := by
  refine pe_imp (pe_tupF h) fun st H Q ⟨F, dl, M, R, so, at0, hw, po⟩ => ?_
  refine tDA_to so at0 hw fun vs F1 H1 rs M1 h1 e1 so1 at1 i1 => ?_
  obtain ⟨ds, hd, hz, hR⟩ := h1
  rw [datOf_eq hd] at i1
  have i2 := dqAll_of i1
  exact ⟨by rw [dqAll_len i2]; exact hz, fun p o ho hp => po_dat at1 (po.mono e1) hp hR fun F' e h => .tup (.inl ⟨o, h, ho⟩) (dqAll_mono e i2)⟩
theorem pd_lst {es : List Expr} {wr : WA} (h : PDA X es wr) : PD X (.List es pos) (wLst wr) := by
  refine pe_imp (pe_lst h) fun st H Q ⟨F, dl, M, R, so, at0, hw, po⟩ => ?_
  refine tDA_to so at0 hw fun vs F1 H1 rs M1 h1 e1 so1 at1 i1 => ?_
  obtain ⟨ds, hd, hz, hR⟩ := h1
  rw [datOf_eq hd] at i1
  have i2 := dqAll_of i1
  exact ⟨by rw [dqAll_len i2]; exact hz, fun p hp => po_dat at1 (po.mono e1) hp hR fun F' e h => .lst h (dqAll_mono e i2)⟩
theorem pd_lstM {es : List Expr} {wr : WA} (h : PDA X es wr) : PD X (.List es pos) (wLstM wr) := by
  refine pe_imp (pe_lst h) fun st H Q ⟨F, dl, M, R, so, at0, hw, po⟩ => ?_
  refine tDA_to so at0 hw fun vs F1 H1 rs M1 h1 e1 so1 at1 i1 => ?_
  obtain ⟨hz, hR⟩ := h1
  exact ⟨by rw [← i1.length]; exact hz, fun p hp => po_lst at1 (po.mono e1) hp i1 hR⟩

/-! ### items and slices -/
theorem atI_all {K : PySem.W.Frag} {F : Hp} {ss : List Sl} {vs : List V} {i : Int} {r : Sl} (h : IsAll K F ss vs) (e : atI ss i = some r) : ∃ v, atI vs i = some v ∧ Is K F r v := by
  unfold atI at e ⊢
  rw [← h.length]
  cases q : ixN ss.length i with
  | none => rw [q] at e; cases e
  | some j =>
    rw [q] at e
    obtain ⟨v, g1, g2⟩ := h.get (i := j) e
    exact ⟨v, g1, g2⟩
/-- the items of what is subscripted by a number -/
def sqOf (M : Mem) : Sl → Option (List Sl)
  | .d (.tuple ds) => some (ds.map Sl.d)
  | r => rlOf M r
theorem sqOf_at {K : PySem.W.Frag} {F H : Hp} {M : Mem} (at0 : At K F M H) {r : Sl} {v : V} {ss : List Sl} (h : Is K F r v) (e : sqOf M r = some ss) : ∃ a vs, v = .ref a ∧ (SqL K H a vs ∨ SqT K H a vs) ∧ IsAll K F ss vs := by
  unfold sqOf at e
  split at e
  · cases e
    obtain ⟨a, vs, rfl, h1, h2⟩ := sqT_at at0 h
    exact ⟨a, vs, rfl, .inr h1, isAll_d h2⟩
  · obtain ⟨a, vs, rfl, h1, h2⟩ := rlOf_at at0 h e
    exact ⟨a, vs, rfl, .inl h1, h2⟩
abbrev gIx : W2 := fun p q M R => match q with
  | .d (.int i) => ∃ ss r, sqOf M p = some ss ∧ atI ss i = some r ∧ R r M
  | _ => False
theorem gIx_to {p q : Sl} {M : Mem} {R : RK} (h : gIx p q M R) : ∃ i ss r, q = .i i ∧ sqOf M p = some ss ∧ atI ss i = some r ∧ R r M := by
  unfold gIx at h
  split at h
  · obtain ⟨ss, r, h1, h2, h3⟩ := h
    exact ⟨_, ss, r, rfl, h1, h2, h3⟩
  · exact h.elim
theorem pd_ix (ha : PD X a wa) (hb : PD X b wb) (hs : PlainIx b := by exact fun _ _ => rfl) : PD X (.Subscript a b pos) (wOp gIx wa wb) := by
  refine pe_imp (pe_ix (ix_list.or ix_tup) ha hb hs) fun st H Q h => tD_op (fun F H M x y p q R Q at0 h1 h2 h3 po => ?_) h
  obtain ⟨i, ss, r, rfl, e1, e2, hR⟩ := gIx_to h3
  obtain ⟨a, vs, rfl, hsq, hall⟩ := sqOf_at at0 h1 e1
  obtain ⟨v, g1, g2⟩ := atI_all hall e2
  have hq := po v F H r M hR (Go.refl at0) g2
  rcases hsq with hsq | hsq
  · exact .inl ⟨a, vs, i, v, rfl, dq_int h2, hsq, g1, hq⟩
  · exact .inr ⟨a, vs, i, v, rfl, dq_int h2, hsq, g1, hq⟩

/-- a part of a slice -/
abbrev WO := Env' → Mem → (Option Int → Mem → Prop) → Prop
def PoO (K : PySem.W.Frag) (F : Hp) (M : Mem) (H : Hp) (R : Option Int → Mem → Prop) (Q : Option Int → Hp → Prop) : Prop := ∀ o F' H' M', R o M' → Go K F M H F' M' H' → Q o H'
def tDO (K : PySem.W.Frag) (w : WO) : TO := fun st H Q => ∃ F dl M R, SOk K F dl st ∧ At K F M H ∧ w dl M R ∧ PoO K F M H R Q
def PDO (X : Cx) (e : Option Expr) (w : WO) : Prop := PO X e (tDO X.K w)
abbrev wNoPart : WO := fun _ M R => R none M
abbrev wPart (wa : WE) : WO := fun dl M R => wa dl M fun r M1 => match r with
  | .d (.int i) => R (some i) M1
  | _ => False
theorem po_imp {e : Option Expr} {t u : TO} (h : PO X e t) (i : ∀ st H Q, u st H Q → t st H Q) : PO X e u := ⟨fun pins s st H Q I q => h.run pins s st H Q I (i st H Q q)⟩
theorem pdo_none : PDO X none wNoPart := po_imp po_none fun st H Q ⟨F, dl, M, R, so, at0, hw, po⟩ => po none F H M hw (Go.refl at0)
theorem pdo_some {e : Expr} (h : PD X e wa) : PDO X (some e) (wPart wa) := by
  refine po_imp (po_some h) fun st H Q ⟨F, dl, M, R, so, at0, hw, po⟩ => ?_
  refine tD_to so at0 hw fun x F1 H1 r M1 h1 e1 so1 at1 i1 => ?_
  split at h1
  · exact ⟨_, dq_int i1, po _ F1 H1 M1 h1 e1⟩
  · exact h1.elim
def cutA {A : Type} (xs : List A) (lo hi : Option Int) : List A := (xs.drop (HT.sIx xs.length 0 lo)).take (HT.sIx xs.length xs.length hi - HT.sIx xs.length 0 lo)
theorem cut_all {K : PySem.W.Frag} {F : Hp} {ss : List Sl} {vs : List V} {lo hi : Option Int} (h : IsAll K F ss vs) : IsAll K F (cutA ss lo hi) (cutV vs lo hi) := by
  unfold cutA cutV
  rw [h.length]
  exact (h.drop _).take _
theorem cut_map {A B : Type} (f : A → B) (xs : List A) (lo hi : Option Int) : cutA (xs.map f) lo hi = (cutA xs lo hi).map f := by
  unfold cutA
  rw [List.length_map, List.map_take, List.map_drop]
/-- s[lo:hi]: a list's to a new datum -/
abbrev wSl (g : Sl → Option Int → Option Int → Mem → RK → Prop) (wa : WE) (wl wh : WO) : WE := fun dl M R => wa dl M fun r M1 => wl dl M1 fun l M2 => wh dl M2 fun h M3 => g r l h M3 R
abbrev gSl : Sl → Option Int → Option Int → Mem → RK → Prop := fun r lo hi M R => match r with
  | .d (.tuple ds) => R (.d (.tuple (cutA ds lo hi))) M
  | r => ∃ ss ds, rlOf M r = some ss ∧ datOf (cutA ss lo hi) = some ds ∧ R (.d (.list ds)) M
abbrev gSlM : Sl → Option Int → Option Int → Mem → RK → Prop := fun r lo hi M R => ∃ ss, rlOf M r = some ss ∧ ∀ p, M p = none → R (.v (.ref p)) (upM M p (.lst (cutA ss lo hi)))
end
end DL

set_option Elab.async false
set_option linter.all false
set_option maxRecDepth 100000
set_option maxHeartbeats 4000000
/-! DC: slices, truth, tests, built-in calls by data. -/
namespace DL
open PySem L2
open Evl (Ex)
section
variable {X : Cx} {a b c : Expr} {wa wb wc : WE} {pos : Pos}
theorem cutA_whole {A : Type} (xs : List A) (lo hi : Option Int) (h : HT.sIx xs.length 0 lo = 0 ∧ HT.sIx xs.length xs.length hi = xs.length) : cutA xs lo hi = xs := by
  unfold cutA
  rw [h.1, h.2, List.drop_zero, Nat.sub_zero, List.take_length]
theorem dqAll_cut {K : PySem.W.Frag} {F : Hp} {ds : List PyData} {vs : List V} {lo hi : Option Int} (h : DqAll K F vs ds) : DqAll K F (cutV vs lo hi) (cutA ds lo hi) := by
  have := cut_all (lo := lo) (hi := hi) (isAll_d h)
  rw [cut_map] at this
  exact dqAll_of this
/-- a cut makes a plain tuple, or is the whole of it -/
def rSlF (K : PySem.W.Frag) : V → Option Int → Option Int → Hp → VK → Prop := fun x lo hi H Q => ∃ a xs, x = .ref a ∧ SqT K H a xs ∧ (HT.sIx xs.length 0 lo = 0 ∧ HT.sIx xs.length xs.length hi = xs.length → Q (.ref a) H) ∧
  (¬ (HT.sIx xs.length 0 lo = 0 ∧ HT.sIx xs.length xs.length hi = xs.length) → ∀ p o, o.dict = none → H p = none → Q (.ref p) (upd H p (.frz o (.tup (cutV xs lo hi)))))
theorem sl_tupF : SlR X (rSlF X.K) := by
  intro pins s st H x v vl vu lo hi sl Q I rx hs pl pu ⟨a, xs, ex, hx, q1, q2⟩
  subst ex
  by_cases hw : HT.sIx xs.length 0 lo = 0 ∧ HT.sIx xs.length xs.length hi = xs.length
  · exact sl_tupA pins s st H _ v vl vu lo hi sl Q I rx hs pl pu ⟨a, xs, rfl, hx, q1, fun z => absurd hw z⟩
  · cases rx
    obtain ⟨us, r, ht, hz⟩ := I.tuple hx
    have hl : us.toArray.size = xs.length := (List.size_toArray ..).trans r.length.symm
    refine ⟨"tuple", _, PyProof.Rows.slot_tuple_getitem.lookup, ht.typeIs, HT.getItem_tuple_cut ht hs pl pu (hl.symm ▸ hw) ?_ (hl.symm ▸ hz)⟩
    rw [hl]
    have r2 := (r.drop (HT.sIx xs.length 0 lo)).take (HT.sIx xs.length xs.length hi - HT.sIx xs.length 0 lo)
    generalize (us.drop (HT.sIx xs.length 0 lo)).take (HT.sIx xs.length xs.length hi - HT.sIx xs.length 0 lo) = cut at r2 ⊢
    let ob : Obj := { cls := .type "tuple", data := .seq cut.toArray }
    have got : (s.heap.push ob).get? s.heap.objs.size = some ob := Heap.get?_push_size _ rfl
    have J : Inv X pins st (upd H s.heap.objs.size (.frz ob (.tup (cutV xs lo hi)))) { s with heap := s.heap.push ob } := I.laid (t' := s.toks) (fun _ _ e => Heap.get?_push_of_some _ e) (Nat.le_refl _) ⟨got, Nat.le_trans (cutV_length xs lo hi) hz, cut, r2, ob, got, rfl, _, rfl⟩
    exact ⟨.ref s.heap.objs.size, _, J, rfl, q2 hw _ ob rfl (I.hok.fresh (Nat.le_refl _))⟩
theorem pd_slice {lo hi : Option Expr} {wl wh : WO} {p2 : Pos} (ha : PD X a wa) (hl : PDO X lo wl) (hh : PDO X hi wh) : PD X (.Subscript a (.Slice lo hi none p2) pos) (wSl gSl wa wl wh) := by
  refine pe_imp (pe_slice (sl_list.or sl_tupF) ha hl hh) fun st H Q ⟨F, dl, M, R, so, at0, hw, po⟩ => ?_
  refine tD_to so at0 hw fun x F1 H1 r M1 h1 e1 so1 at1 i1 => ?_
  refine ⟨F1, dl, M1, _, so1, at1, h1, fun l F2 H2 M2 h2 e2 => ?_⟩
  refine ⟨F2, dl, M2, _, sok_mono e2.ex so1, e2.at', h2, fun h F3 H3 M3 h3 e3 => ?_⟩
  have at3 := e3.at'
  have i3 := is_mono (e2.trans e3).ex i1
  have po3 := po.mono ((e1.trans e2).trans e3)
  unfold gSl at h3
  split at h3
  · obtain ⟨c, vs, rfl, q1, q2⟩ := sqT_at at3 i3
    refine .inr ⟨c, vs, rfl, q1, fun hwh => ?_, fun _ p o ho hp => po_dat at3 po3 hp h3 fun F' e hh => .tup (.inl ⟨o, hh, ho⟩) (dqAll_mono e (dqAll_cut q2))⟩
    have hwh' := hwh
    rw [dqAll_len q2] at hwh'
    rw [cutA_whole _ _ _ hwh'] at h3
    exact po3 _ F3 H3 _ M3 h3 (Go.refl at3) i3
  · obtain ⟨ss, ds, g1, g2, hR⟩ := h3
    obtain ⟨c, vs, rfl, q1, q2⟩ := rlOf_at at3 i3 g1
    have q3 := cut_all (lo := l) (hi := h) q2
    rw [datOf_eq g2] at q3
    exact .inl ⟨c, vs, rfl, q1, fun p hp => po_dat at3 po3 hp hR fun F' e hh => .lst hh (dqAll_mono e (dqAll_of q3))⟩
theorem pd_sliceM {lo hi : Option Expr} {wl wh : WO} {p2 : Pos} (ha : PD X a wa) (hl : PDO X lo wl) (hh : PDO X hi wh) : PD X (.Subscript a (.Slice lo hi none p2) pos) (wSl gSlM wa wl wh) := by
  refine pe_imp (pe_slice sl_list ha hl hh) fun st H Q ⟨F, dl, M, R, so, at0, hw, po⟩ => ?_
  refine tD_to so at0 hw fun x F1 H1 r M1 h1 e1 so1 at1 i1 => ?_
  refine ⟨F1, dl, M1, _, so1, at1, h1, fun l F2 H2 M2 h2 e2 => ?_⟩
  refine ⟨F2, dl, M2, _, sok_mono e2.ex so1, e2.at', h2, fun h F3 H3 M3 h3 e3 => ?_⟩
  have at3 := e3.at'
  have i3 := is_mono (e2.trans e3).ex i1
  have po3 := po.mono ((e1.trans e2).trans e3)
  obtain ⟨ss, g1, hR⟩ := h3
  obtain ⟨c, vs, rfl, q1, q2⟩ := rlOf_at at3 i3 g1
  exact ⟨c, vs, rfl, q1, fun p hp => po_lst at3 po3 hp (cut_all q2) hR⟩

/-! ### truth -/
def tru (M : Mem) : Sl → Option Bool
  | .d .none => some false
  | .d (.bool b) => some b
  | .d (.int i) => some (i != 0)
  | .d (.str s) => if s.length ≤ sizeLine then some ((s.length : Int) != 0) else none
  | .d (.list ds) => some (!ds.isEmpty)
  | .d (.tuple ds) => some (!ds.isEmpty)
  | .d (.dict _) => none
  | .v (.ref p) => match M p with
    | some (.lst ss) => some (!ss.isEmpty)
    | some (.dic ks) => some (!ks.isEmpty)
    | some (.lok _ _ _) => none
    | some (.ob _ _) => none
    | some (.tup _) => none
    | none => none
  | .v _ => none
  | .r ns => some (!ns.isEmpty)
  | .w ds => some (!ds.isEmpty)
  | .e _ _ => none
  | .pe _ _ _ => none
theorem all2_isEmpty {A B : Type} {R : A → B → Prop} {as : List A} {bs : List B} (h : All2 R as bs) : as.isEmpty = bs.isEmpty := by cases h <;> rfl
theorem dqAll_isEmpty {K : PySem.W.Frag} {F : Hp} {ds : List PyData} {vs : List V} (h : DqAll K F vs ds) : ds.isEmpty = vs.isEmpty := by cases h <;> rfl
theorem tru_at {K : PySem.W.Frag} {F H : Hp} {M : Mem} (at0 : At K F M H) : ∀ {r : Sl} {v : V} {k : Bool}, Is K F r v → tru M r = some k → TruV K v H k
  | .d .none, _, _, h, e => by cases e; cases h; exact rfl
  | .d (.bool b), _, _, h, e => by cases e; cases h; exact rfl
  | .d (.int b), _, _, h, e => by cases e; cases h; exact rfl
  | .d (.str s), _, _, h, e => by
    cases h
    simp only [tru] at e
    split at e
    · rename_i hz; cases e; exact ⟨hz, rfl⟩
    · cases e
  | .d (.list ds), _, _, h, e => by
    cases e
    cases h with
    | lst h1 h2 => exact .inl ⟨_, SqL.of (at0.ex _ _ h1), by rw [dqAll_isEmpty h2]⟩
  | .d (.tuple ds), _, _, h, e => by
    cases e
    cases h with
    | tup h1 h2 => exact .inr (.inl ⟨_, Evl.ex_t at0.ex h1.sq, by rw [dqAll_isEmpty h2]⟩)
  | .d (.dict _), _, _, _, e => by cases e
  | .r ns, _, _, ⟨a, h1, h2⟩, e => by
    cases e
    subst h1
    exact .inl ⟨_, ex_l at0.ex h2, by cases ns <;> rfl⟩
  | .w ds, _, _, ⟨a, vs, h1, h2, h3⟩, e => by
    cases e
    subst h1
    exact .inr (.inl ⟨_, Evl.ex_t at0.ex h2, by rw [dqAll_isEmpty h3]⟩)
  | .e _ _, _, _, _, e => by cases e
  | .pe _ _ _, _, _, _, e => by cases e
  | .v (.ref p), v, k, h, e => by
    have h' : v = .ref p := h
    subst h'
    simp only [tru] at e
    split at e
    · rename_i ss q
      cases e
      obtain ⟨_, vs, h1, h2⟩ := at0.mem p _ q
      exact .inl ⟨_, SqL.of h1, by rw [all2_isEmpty h2]⟩
    · rename_i ks q
      cases e
      obtain ⟨_, vs, h1, h2⟩ := at0.mem p _ q
      exact .inr (.inr ⟨_, h1, by rw [all2_isEmpty h2]⟩)
    · cases e
    · cases e
    · cases e
    · cases e
abbrev wOr (wa wb : WE) : WE := fun dl M R => wa dl M fun r M1 => ∃ k, tru M1 r = some k ∧ if k = true then R r M1 else wb dl M1 R
abbrev wAnd (wa wb : WE) : WE := fun dl M R => wa dl M fun r M1 => ∃ k, tru M1 r = some k ∧ if k = true then wb dl M1 R else R r M1
abbrev wNot (wa : WE) : WE := fun dl M R => wa dl M fun r M1 => ∃ k, tru M1 r = some k ∧ R (.b (!k)) M1
theorem pd_one {op : BoolOp} (h : PD X a wa) : PD X (.BoolOp op [a] pos) wa := pe_one h
theorem pd_or {rest : List Expr} (ha : PD X a wa) (hb : PD X (.BoolOp .Or (b :: rest) pos) wb) : PD X (.BoolOp .Or (a :: b :: rest) pos) (wOr wa wb) := by
  refine pe_imp (pe_orT ha hb) fun st H Q ⟨F, dl, M, R, so, at0, hw, po⟩ => ?_
  refine tD_to so at0 hw fun x F1 H1 r M1 h1 e1 so1 at1 i1 => ?_
  obtain ⟨k, hk, h1⟩ := h1
  refine ⟨k, tru_at at1 i1 hk, ?_⟩
  cases k with
  | true => exact po _ F1 H1 _ M1 h1 e1 i1
  | false => exact tD_to so1 at1 h1 fun x F2 H2 r M2 h2 e2 so2 at2 i2 => po _ F2 H2 _ M2 h2 (e1.trans e2) i2
theorem pd_and {rest : List Expr} (ha : PD X a wa) (hb : PD X (.BoolOp .And (b :: rest) pos) wb) : PD X (.BoolOp .And (a :: b :: rest) pos) (wAnd wa wb) := by
  refine pe_imp (pe_andT ha hb) fun st H Q ⟨F, dl, M, R, so, at0, hw, po⟩ => ?_
  refine tD_to so at0 hw fun x F1 H1 r M1 h1 e1 so1 at1 i1 => ?_
  obtain ⟨k, hk, h1⟩ := h1
  refine ⟨k, tru_at at1 i1 hk, ?_⟩
  cases k with
  | false => exact po _ F1 H1 _ M1 h1 e1 i1
  | true => exact tD_to so1 at1 h1 fun x F2 H2 r M2 h2 e2 so2 at2 i2 => po _ F2 H2 _ M2 h2 (e1.trans e2) i2
theorem pd_not (ha : PD X a wa) : PD X (.UnaryOp .Not a pos) (wNot wa) := by
  refine pe_imp (pe_notT ha) fun st H Q ⟨F, dl, M, R, so, at0, hw, po⟩ => ?_
  refine tD_to so at0 hw fun x F1 H1 r M1 h1 e1 so1 at1 i1 => ?_
  obtain ⟨k, hk, h1⟩ := h1
  exact ⟨k, tru_at at1 i1 hk, po _ F1 H1 _ M1 h1 e1 (.bl _)⟩

/-! ### tests -/
/-- an expression's truth -/
abbrev wTru (wa : WE) : WT := fun dl M R => wa dl M fun r M1 => ∃ k, tru M1 r = some k ∧ R k M1
theorem pdt_tru (ha : PD X a wa) (he : ∀ whole, isTrue a X.env whole = (do let v ← whole; standAt a.pos; holding [v] (truthy v)) := by intro _; rfl) : PDT X a (wTru wa) := by
  refine pt_imp (pt_truth ha he) fun st H Q ⟨F, dl, M, R, so, at0, hw, po⟩ => ?_
  refine tD_to so at0 hw fun x F1 H1 r M1 h1 e1 so1 at1 i1 => ?_
  obtain ⟨k, hk, h1⟩ := h1
  exact ⟨k, tru_at at1 i1 hk, po k F1 H1 M1 h1 e1⟩
/-- a comparison -/
abbrev wBl (wa : WE) : WT := fun dl M R => wa dl M fun r M1 => match r with
  | .d (.bool k) => R k M1
  | _ => False
theorem pdt_cmp {op : CmpOp} {g : W2} (ho : OpD X (compareOp op) g) (ha : PD X a wa) (hb : PD X b wb) (hm : behindInMarks op b = false) : PDT X (.Compare a [op] [b] pos) (wBl (wOp g wa wb)) := by
  obtain ⟨r, h1, h2⟩ := ho
  refine pt_imp (pt_cmpR h1 ha hb hm) fun st H Q ⟨F, dl, M, R, so, at0, hw, po⟩ => ?_
  refine tD_op h2 (Q := fun x H' => ∃ k, x = V.bl k ∧ Q k H') ⟨F, dl, M, _, so, at0, hw, fun v F' H' r M' hr e i1 => ?_⟩
  split at hr
  · exact ⟨_, dq_bl i1, po _ F' H' M' hr e⟩
  · exact hr.elim
abbrev wTNot (w : WT) : WT := fun dl M R => w dl M fun k M1 => R (!k) M1
abbrev wTAnd (w u : WT) : WT := fun dl M R => w dl M fun k M1 => if k = true then u dl M1 R else R false M1
abbrev wTOr (w u : WT) : WT := fun dl M R => w dl M fun k M1 => if k = true then R true M1 else u dl M1 R
theorem pdt_not {w : WT} (h : PDT X a w) : PDT X (.UnaryOp .Not a pos) (wTNot w) := by
  refine pt_imp (pt_not h) fun st H Q ⟨F, dl, M, R, so, at0, hw, po⟩ => ?_
  exact tDT_to so at0 hw fun k F1 H1 M1 h1 e1 so1 at1 => po _ F1 H1 M1 h1 e1
def PDW (X : Cx) (e : Expr) (w : WT) : Prop := PW X e (tDT X.K w)
theorem pw_imp {e : Expr} {t u : TT} (h : PW X e t) (i : ∀ st H Q, u st H Q → t st H Q) : PW X e u := ⟨fun wh pins s st H Q I q => h.run wh pins s st H Q I (i st H Q q)⟩
theorem PDW.t {e : Expr} {w : WT} (h : PDW X e w) : PDT X e w := PW.pt h
theorem pdw_and1 {w : WT} (h : PDT X a w) : PDW X (.BoolOp .And [a] pos) w := pw_and1 h
theorem pdw_or1 {w : WT} (h : PDT X a w) : PDW X (.BoolOp .Or [a] pos) w := pw_or1 h
theorem pdw_and {w u : WT} {rest : List Expr} (h : PDT X a w) (k : PDW X (.BoolOp .And (b :: rest) pos) u) : PDW X (.BoolOp .And (a :: b :: rest) pos) (wTAnd w u) := by
  refine pw_imp (pw_and h k) fun st H Q ⟨F, dl, M, R, so, at0, hw, po⟩ => ?_
  refine tDT_to so at0 hw fun k F1 H1 M1 h1 e1 so1 at1 => ?_
  cases k with
  | false => exact po _ F1 H1 M1 h1 e1
  | true => exact tDT_to so1 at1 h1 fun k F2 H2 M2 h2 e2 so2 at2 => po _ F2 H2 M2 h2 (e1.trans e2)
theorem pdw_or {w u : WT} {rest : List Expr} (h : PDT X a w) (k : PDW X (.BoolOp .Or (b :: rest) pos) u) : PDW X (.BoolOp .Or (a :: b :: rest) pos) (wTOr w u) := by
  refine pw_imp (pw_or h k) fun st H Q ⟨F, dl, M, R, so, at0, hw, po⟩ => ?_
  refine tDT_to so at0 hw fun k F1 H1 M1 h1 e1 so1 at1 => ?_
  cases k with
  | true => exact po _ F1 H1 M1 h1 e1
  | false => exact tDT_to so1 at1 h1 fun k F2 H2 M2 h2 e2 so2 at2 => po _ F2 H2 M2 h2 (e1.trans e2)
/-- a if t else b -/
abbrev wIf (w : WT) (wa wb : WE) : WE := fun dl M R => w dl M fun k M1 => if k = true then wa dl M1 R else wb dl M1 R
theorem pd_if {w : WT} (h : PDT X c w) (ha : PD X a wa) (hb : PD X b wb) : PD X (.IfExp c a b pos) (wIf w wa wb) := by
  refine pe_imp (pe_ifExp h ha hb) fun st H Q ⟨F, dl, M, R, so, at0, hw, po⟩ => ?_
  refine tDT_to so at0 hw fun k F1 H1 M1 h1 e1 so1 at1 => ?_
  cases k with
  | true => exact tD_to so1 at1 h1 fun x F2 H2 r M2 h2 e2 so2 at2 i2 => po _ F2 H2 _ M2 h2 (e1.trans e2) i2
  | false => exact tD_to so1 at1 h1 fun x F2 H2 r M2 h2 e2 so2 at2 i2 => po _ F2 H2 _ M2 h2 (e1.trans e2) i2
/-- a < b < c -/
abbrev wChain (g g' : W2) (wa wb wc : WE) : WE := fun dl M R => wa dl M fun p M1 => wb dl M1 fun q M2 => g p q M2 fun z M3 => match z with
  | .d (.bool k) => if k = true then wc dl M3 fun r M4 => g' q r M4 R else R (.b false) M3
  | _ => False
end

/-! ### calls of built-in functions and types -/
abbrev WCl := List Sl → Mem → RK → Prop
def CaD (X : Cx) (f : Value) (g : WCl) : Prop := ∃ r : List V → Hp → VK → Prop, CallR X f r ∧ ∀ (F H : Hp) (M : Mem) (vs : List V) (rs : List Sl) (R : RK) (Q : VK), At X.K F M H → IsAll X.K F rs vs → g rs M R → Po X.K F M H R Q → r vs H Q
def rAnyC (X : Cx) (f : Value) : List V → Hp → VK → Prop := fun vs H Q => ∃ r, CallR X f r ∧ r vs H Q
theorem callR_any {X : Cx} {f : Value} : CallR X f (rAnyC X f) := fun pins s st H vs us Q I rv ⟨_, ho, h⟩ => ho pins s st H vs us Q I rv h
theorem caD_of {X : Cx} {f : Value} {g : WCl} (h : ∀ (F H : Hp) (M : Mem) (vs : List V) (rs : List Sl) (R : RK) (Q : VK), At X.K F M H → IsAll X.K F rs vs → g rs M R → Po X.K F M H R Q → rAnyC X f vs H Q) : CaD X f g := ⟨rAnyC X f, callR_any, h⟩
abbrev wCall (g : WCl) (wa : WA) : WE := fun dl M R => wa dl M fun rs M1 => g rs M1 R
section
variable {X : Cx} {x : Str} {p pos : Pos} {e : Expr} {es : List Expr} {wa : WA} {id T : String} {g : WCl}
theorem tD_call {K : PySem.W.Frag} {r : List V → Hp → VK → Prop} {g : WCl} (hr : ∀ (F H : Hp) (M : Mem) (vs : List V) (rs : List Sl) (R : RK) (Q : VK), At K F M H → IsAll K F rs vs → g rs M R → Po K F M H R Q → r vs H Q) {st : St} {H : Hp} {Q : VK}
    (h : tD K (wCall g wa) st H Q) : tCB r (tDA K wa) st H Q := by
  obtain ⟨F, dl, M, R, so, at0, hw, po⟩ := h
  exact tDA_to so at0 hw fun vs F1 H1 rs M1 h1 e1 so1 at1 i1 => hr F1 H1 M1 vs rs R Q at1 i1 h1 (po.mono e1)
theorem pd_callB (hc : CaD X (.builtin id) g) (hg : Gl X x) (hm : X.mg x = none) (hv : bootBuiltins x = some (.builtin id)) (ha : PDA X (e :: es) wa) (hn : x ≠ "__name__" := by decide) (hdb : (x == ("__debug__" : Str)) = false := by decide)
    (he : starEach (e :: es) X.env = (false, eval e X.env) :: starEach es X.env := by rfl) (hpl : (backTo pos (starEach es X.env)).any (·.1) = false := by rfl) : PD X (.Call (.Name x p) (e :: es) [] pos) (wCall g wa) := by
  obtain ⟨r, h1, h2⟩ := hc
  exact pe_imp (pe_callB h1 hg hm hv ha hn hdb he hpl) fun st H Q h => tD_call h2 h
theorem pd_callT (hc : CaD X (.type T) g) (hg : Gl X x) (hm : X.mg x = none) (hv : bootBuiltins x = some (.type T)) (ha : PDA X (e :: es) wa) (hn : x ≠ "__name__" := by decide) (hdb : (x == ("__debug__" : Str)) = false := by decide)
    (he : starEach (e :: es) X.env = (false, eval e X.env) :: starEach es X.env := by rfl) (hpl : (backTo pos (starEach es X.env)).any (·.1) = false := by rfl) : PD X (.Call (.Name x p) (e :: es) [] pos) (wCall g wa) := by
  obtain ⟨r, h1, h2⟩ := hc
  exact pe_imp (pe_callTy h1 hg hm hv ha hn hdb he hpl) fun st H Q h => tD_call h2 h

theorem isAll1 {K : PySem.W.Frag} {F : Hp} {r : Sl} {vs : List V} (h : IsAll K F [r] vs) : ∃ v, vs = [v] ∧ Is K F r v := by
  cases h with
  | cons h t => cases t; exact ⟨_, rfl, h⟩
theorem isAll2 {K : PySem.W.Frag} {F : Hp} {r q : Sl} {vs : List V} (h : IsAll K F [r, q] vs) : ∃ v u, vs = [v, u] ∧ Is K F r v ∧ Is K F q u := by
  cases h with
  | cons h t => obtain ⟨u, rfl, h2⟩ := isAll1 t; exact ⟨_, _, rfl, h, h2⟩
/-- one argument -/
abbrev g1 (g : Sl → Mem → RK → Prop) : WCl := fun rs M R => match rs with
  | [r] => g r M R
  | _ => False
theorem ca1 {f : Value} {g : Sl → Mem → RK → Prop} (h : ∀ (F H : Hp) (M : Mem) (v : V) (r : Sl) (R : RK) (Q : VK), At X.K F M H → Is X.K F r v → g r M R → Po X.K F M H R Q → rAnyC X f [v] H Q) : CaD X f (g1 g) :=
  caD_of fun F H M vs rs R Q at0 i1 h1 po => by
    unfold g1 at h1
    split at h1
    · obtain ⟨v, rfl, i2⟩ := isAll1 i1
      exact h F H M v _ R Q at0 i2 h1 po
    · exact h1.elim
abbrev gAbs : Sl → Mem → RK → Prop := fun r M R => match r with
  | .d (.int i) => R (.i (if i < 0 then -i else i)) M
  | _ => False
theorem c_abs : CaD X (.builtin "abs") (g1 gAbs) := ca1 fun F H M v r R Q at0 i1 h1 po => by
  unfold gAbs at h1
  split at h1
  · exact ⟨_, call_abs, _, by rw [dq_int i1], po _ F H _ M h1 (Go.refl at0) (.int _)⟩
  · exact h1.elim
abbrev gInt : Sl → Mem → RK → Prop := fun r M R => match r with
  | .d (.int i) => R (.i i) M
  | .d (.bool k) => R (.i (if k then 1 else 0)) M
  | _ => False
theorem c_int : CaD X (.type "int") (g1 gInt) := ca1 fun F H M v r R Q at0 i1 h1 po => by
  unfold gInt at h1
  split at h1
  · exact ⟨_, call_int1, .inl ⟨_, by rw [dq_int i1], po _ F H _ M h1 (Go.refl at0) (.int _)⟩⟩
  · exact ⟨_, call_int1, .inr ⟨_, by rw [dq_bl i1], po _ F H _ M h1 (Go.refl at0) (.int _)⟩⟩
  · exact h1.elim
/-- how many items -/
def lenOf (M : Mem) (r : Sl) : Option Nat := (sqOf M r).map (·.length)
abbrev gLen : Sl → Mem → RK → Prop := fun r M R => ∃ ss, sqOf M r = some ss ∧ R (.i (ss.length : Int)) M
theorem c_len : CaD X (.builtin "len") (g1 gLen) := ca1 fun F H M v r R Q at0 i1 h1 po => by
  obtain ⟨ss, e, hR⟩ := h1
  obtain ⟨a, vs, rfl, hsq, hall⟩ := sqOf_at at0 i1 e
  exact ⟨_, call_len_seq, a, vs, rfl, hsq, po _ F H _ M hR (Go.refl at0) (by rw [hall.length]; exact .int _)⟩
abbrev gLenS : Sl → Mem → RK → Prop := fun r M R => match r with
  | .d (.str s) => s.length ≤ sizeLine ∧ R (.i (s.length : Int)) M
  | _ => False
theorem c_lenS : CaD X (.builtin "len") (g1 gLenS) := ca1 fun F H M v r R Q at0 i1 h1 po => by
  unfold gLenS at h1
  split at h1
  · exact ⟨_, call_len_str, _, by rw [dq_str i1], h1.1, po _ F H _ M h1.2 (Go.refl at0) (.int _)⟩
  · exact h1.elim
/-- list(s) to a datum, to what may change; tuple(s) -/
abbrev gList : Sl → Mem → RK → Prop := fun r M R => ∃ ss ds, sqOf M r = some ss ∧ datOf ss = some ds ∧ R (.d (.list ds)) M
abbrev gListM : Sl → Mem → RK → Prop := fun r M R => ∃ ss, sqOf M r = some ss ∧ ∀ p, M p = none → R (.v (.ref p)) (upM M p (.lst ss))
def sqOf' (M : Mem) : Sl → Option (List Sl)
  | .d (.tuple ds) => some (ds.map Sl.d)
  | r => lsOf M r
theorem sqOf'_at {K : PySem.W.Frag} {F H : Hp} {M : Mem} (at0 : At K F M H) {r : Sl} {v : V} {ss : List Sl} (h : Is K F r v) (e : sqOf' M r = some ss) : ∃ a vs, v = .ref a ∧ (SqL K H a vs ∨ SqT K H a vs) ∧ IsAll K F ss vs := by
  unfold sqOf' at e
  split at e
  · cases e
    obtain ⟨a, vs, rfl, h1, h2⟩ := sqT_at at0 h
    exact ⟨a, vs, rfl, .inr h1, isAll_d h2⟩
  · obtain ⟨a, vs, rfl, h1, h2⟩ := lsOf_at at0 h e
    exact ⟨a, vs, rfl, .inl (SqL.of h1), h2⟩
abbrev gTuple : Sl → Mem → RK → Prop := fun r M R => ∃ ss ds, sqOf' M r = some ss ∧ datOf ss = some ds ∧ R (.d (.tuple ds)) M
theorem c_list : CaD X (.type "list") (g1 gList) := ca1 fun F H M v r R Q at0 i1 h1 po => by
  obtain ⟨ss, ds, e, ed, hR⟩ := h1
  obtain ⟨a, vs, rfl, hsq, hall⟩ := sqOf_at at0 i1 e
  rw [datOf_eq ed] at hall
  exact ⟨_, call_list_of, a, vs, rfl, hsq, fun l hl => po_dat at0 po hl hR fun F' e h => .lst h (dqAll_mono e (dqAll_of hall))⟩
theorem c_listM : CaD X (.type "list") (g1 gListM) := ca1 fun F H M v r R Q at0 i1 h1 po => by
  obtain ⟨ss, e, hR⟩ := h1
  obtain ⟨a, vs, rfl, hsq, hall⟩ := sqOf_at at0 i1 e
  exact ⟨_, call_list_of, a, vs, rfl, hsq, fun l hl => po_lst at0 po hl hall hR⟩
/-- tuple(a list) makes a plain tuple -/
theorem call_tupF {X : Cx} : CallR X (.type "tuple") (fun xs H Q => ∃ p ys, xs = [.ref p] ∧ SqL X.K H p ys ∧ ∀ l o, o.dict = none → H l = none → Q (.ref l) (upd H l (.frz o (.tup ys)))) := by
  intro pins s st H xs us Q I r ⟨p, ys, ex, hq, q⟩
  subst ex
  obtain ⟨u, eu, rx⟩ := vals1 r
  subst eu
  cases rx
  obtain ⟨ws, r2, pl, hz⟩ := I.list hq
  have hl := r2.length
  refine call_tuple_list pl.isList (fun h2 kp => ?_) (by rw [List.size_toArray]; omega)
  have I1 : Inv X pins st H { s with heap := h2 } := I.kept (t' := s.toks) kp
  let ob : Obj := { cls := .type "tuple", data := .seq ws.toArray }
  have got : (h2.push ob).get? h2.objs.size = some ob := Heap.get?_push_size _ rfl
  have J : Inv X pins st (upd H h2.objs.size (.frz ob (.tup ys))) { s with heap := h2.push ob } := I1.laid (t' := s.toks) (fun _ _ e => Heap.get?_push_of_some _ e) (Nat.le_refl _) ⟨got, hz, ws, r2, ob, got, rfl, _, rfl⟩
  exact ⟨.ref h2.objs.size, _, J, rfl, q _ ob rfl (I1.hok.fresh (Nat.le_refl _))⟩
theorem c_tuple : CaD X (.type "tuple") (g1 gTuple) := ca1 fun F H M v r R Q at0 i1 h1 po => by
  obtain ⟨ss, ds, e, ed, hR⟩ := h1
  unfold sqOf' at e
  split at e
  · cases e
    obtain ⟨a, vs, rfl, hsq, _⟩ := sqT_at at0 i1
    rw [datOf_map] at ed
    cases ed
    exact ⟨_, call_tupleT, a, vs, rfl, hsq, po _ F H _ M hR (Go.refl at0) i1⟩
  · obtain ⟨b, us, rfl, q1, q2⟩ := lsOf_at at0 i1 e
    rw [datOf_eq ed] at q2
    exact ⟨_, call_tupF, b, us, rfl, SqL.of q1, fun l o ho hl => po_dat at0 po hl hR fun F' e h => .tup (.inl ⟨o, h, ho⟩) (dqAll_mono e (dqAll_of q2))⟩
end
end DL

set_option Elab.async false
set_option linter.all false
set_option maxRecDepth 100000
set_option maxHeartbeats 4000000
/-! DD: targets, statements, loops, comprehensions by data. -/
namespace DL
open PySem L2
open Evl (Ex)

/-! ### targets -/
abbrev NK := Env' → Mem → Prop
abbrev WG := Sl → Env' → Mem → NK → Prop
abbrev WGs := List Sl → Env' → Mem → NK → Prop
def tDG (K : PySem.W.Frag) (w : WG) : TG := fun v st H Q => ∃ F dl M r R, SOk K F dl st ∧ At K F M H ∧ Is K F r v ∧ w r dl M R ∧ PoN K F M H R Q
def tDGs (K : PySem.W.Frag) (w : WGs) : TGs := fun vs st H Q => ∃ F dl M rs R, SOk K F dl st ∧ At K F M H ∧ IsAll K F rs vs ∧ w rs dl M R ∧ PoN K F M H R Q
def PDG (X : Cx) (tg : Expr) (w : WG) : Prop := PG X tg (tDG X.K w)
def PDGs (X : Cx) (ts : List Expr) (w : WGs) : Prop := PGs X ts (tDGs X.K w)
section
variable {X : Cx} {pos : Pos}
theorem pg_imp {e : Expr} {t u : TG} (h : PG X e t) (i : ∀ v st H Q, u v st H Q → t v st H Q) : PG X e u := ⟨fun pins s st H v w Q I r q => h.run pins s st H v w Q I r (i v st H Q q)⟩
theorem pgs_imp {e : List Expr} {t u : TGs} (h : PGs X e t) (i : ∀ v st H Q, u v st H Q → t v st H Q) : PGs X e u := ⟨fun pins s st H v w Q I r q => h.run pins s st H v w Q I r (i v st H Q q)⟩
def gN (i : Nat) : WG := fun r dl M R => R (dl.set i (some r)) M
theorem sok_set {K : PySem.W.Frag} {F : Hp} {dl : Env'} {st : St} {i : Nat} {r : Sl} {v : V} (so : SOk K F dl st) (h : Is K F r v) : SOk K F (dl.set i (some r)) (st.set i (some v)) := All2.set (R := SIs K F) (a := some r) (b := some v) (show SIs K F (some r) (some v) from ⟨v, rfl, h⟩) i so
theorem pdg_name (i : Nat) {x : Str} (hN : X.N.Nodup) (hi : X.N[i]? = some x := by rfl) (hx : Loc X.env.scope x := by first | exact .inl rfl | exact .inr rfl) (hf : X.fn x = true ∨ X.env.scope.names.lookup x = some .local := by first | exact .inl rfl | exact .inr rfl | assumption) : PDG X (.Name x pos) (gN i) :=
  pg_imp (pg_name hN hi hx hf) fun v st H Q ⟨F, dl, M, r, R, so, at0, i1, hw, po⟩ => po _ F H _ M hw (Go.refl at0) (sok_set so i1)
abbrev gNil' : WGs := fun rs dl M R => match rs with
  | [] => R dl M
  | _ => False
abbrev gCons' (w : WG) (ws : WGs) : WGs := fun rs dl M R => match rs with
  | r :: rs => w r dl M fun dl1 M1 => ws rs dl1 M1 R
  | [] => False
theorem pdgs_nil : PDGs X [] gNil' := pgs_imp pgs_nil fun v st H Q ⟨F, dl, M, rs, R, so, at0, i1, hw, po⟩ => by
  unfold gNil' at hw
  split at hw
  · cases i1; exact ⟨rfl, po _ F H _ M hw (Go.refl at0) so⟩
  · exact hw.elim
theorem pdgs_cons {e : Expr} {es : List Expr} {w : WG} {ws : WGs} (h1 : PDG X e w) (h2 : PDGs X es ws) (hs : (assignEach (e :: es) X.env).map (·.2) = assign e X.env :: (assignEach es X.env).map (·.2) := by rfl) : PDGs X (e :: es) (gCons' w ws) :=
  pgs_imp (pgs_cons h1 h2 hs) fun v st H Q ⟨F, dl, M, rs, R, so, at0, i1, hw, po⟩ => by
    unfold gCons' at hw
    split at hw
    · cases i1 with
      | cons i1 it =>
        refine ⟨_, _, rfl, F, dl, M, _, _, so, at0, i1, hw, fun st1 F1 H1 dl1 M1 h1 g1 so1 => ?_⟩
        exact ⟨F1, dl1, M1, _, _, so1, g1.at', isAll_mono g1.ex it, h1, po.mono g1⟩
    · exact hw.elim
/-- (a, b, ..) = a tuple -/
def gTup' (n : Nat) (ws : WGs) : WG := fun r dl M R => match r with
  | .d (.tuple ds) => ds.length = n ∧ ws (ds.map Sl.d) dl M R
  | .w ds => ds.length = n ∧ ws (ds.map Sl.d) dl M R
  | _ => False
theorem pdg_tup {es : List Expr} {k n : Nat} {ws : WGs} (hc : X.calm = true) (h : PDGs X es ws) (hn : (assignEach es X.env).length = n := by rfl) (hst : (assignEach es X.env).findIdx? (·.1) = none := by rfl) : PDG X (.Tuple es k pos) (gTup' n ws) :=
  pg_imp (pg_tup hc h hn hst) fun v st H Q ⟨F, dl, M, r, R, so, at0, i1, hw, po⟩ => by
    unfold gTup' at hw
    split at hw
    · obtain ⟨a, vs, rfl, h1, h2⟩ := sqT_at at0 i1
      exact ⟨a, vs, rfl, h1, by rw [dqAll_len h2]; exact hw.1, F, dl, M, _, _, so, at0, isAll_d h2, hw.2, po⟩
    · obtain ⟨a, vs, rfl, h1, h2⟩ := i1
      exact ⟨a, vs, rfl, Evl.ex_t at0.ex h1, by rw [dqAll_len h2]; exact hw.1, F, dl, M, _, _, so, at0, isAll_d h2, hw.2, po⟩
    · exact hw.elim

/-! ### statements -/
abbrev wNext : WS := fun P dl M => P.nx dl M
abbrev wSeq (w u : WS) : WS := fun P dl M => w { P with nx := u P } dl M
theorem pdb_nil : PDB X [] wNext := pss_imp pss_nil fun D st H ⟨F, dl, M, P, so, at0, hw, po⟩ => po.nx _ F H _ M hw (Go.refl at0) so
theorem pdb_cons {s : Stmt} {rest : List Stmt} {w u : WS} (h1 : PDS X s w) (h2 : PDB X rest u) : PDB X (s :: rest) (wSeq w u) :=
  pss_imp (pss_cons h1 h2) fun D st H ⟨F, dl, M, P, so, at0, hw, po⟩ =>
    ⟨F, dl, M, _, so, at0, hw, ⟨fun st1 F1 H1 dl1 M1 k1 g1 so1 => ⟨F1, dl1, M1, P, so1, g1.at', k1, po.mono g1⟩, po.rt, po.bk, po.ct⟩⟩
theorem pdb_one {s : Stmt} {w : WS} (h1 : PDS X s w) : PDB X [s] w := pss_one h1
abbrev wAsg (we : WE) (wg : WG) : WS := fun P dl M => we dl M fun r M1 => wg r dl M1 P.nx
theorem tDS_asg {K : PySem.W.Frag} {we : WE} {wg : WG} {D : Ends} {st : St} {H : Hp} (h : tDS K (wAsg we wg) D st H) : tAsg (tD K we) (tDG K wg) D st H := by
  obtain ⟨F, dl, M, P, so, at0, hw, po⟩ := h
  exact tD_to so at0 hw fun v F1 H1 r M1 h1 g1 so1 at1 i1 => ⟨F1, dl, M1, r, _, so1, at1, i1, h1, po.nx.mono g1⟩
theorem pds_asg {tg e : Expr} {we : WE} {wg : WG} (he : PD X e we) (hg : PDG X tg wg) (hs : swapsWithSole [tg] e pos.line X.env = pure false := by rfl) (hw : swappedStores [tg] e X.env = pure none := by rfl)
    (h1 : (assignEach [tg] X.env).map (·.2) = [assign tg X.env] := by rfl) : PDS X (.Assign [tg] e pos) (wAsg we wg) := ps_imp (ps_asg he hg hs hw h1) fun D st H h => tDS_asg h
theorem pds_set (i : Nat) {x : Str} {e : Expr} {we : WE} {pos' : Pos} (hN : X.N.Nodup) (he : PD X e we) (hi : X.N[i]? = some x := by rfl) (hx : Loc X.env.scope x := by first | exact .inl rfl | exact .inr rfl) (hs : swapsWith e (some (.Name x pos')) pos.line X.env = pure false := by rfl)
    (hf : X.fn x = true ∨ X.env.scope.names.lookup x = some .local := by first | exact .inl rfl | exact .inr rfl | assumption) : PDS X (.Assign [.Name x pos'] e pos) (wAsg we (gN i)) :=
  ps_imp (ps_set hN hi hx he hs hf) fun D st H ⟨F, dl, M, P, so, at0, hw, po⟩ =>
    tD_to so at0 hw fun v F1 H1 r M1 h1 g1 so1 at1 i1 => po.nx _ F1 H1 _ M1 h1 g1 (sok_set so1 i1)
/-- a, b = x, y of two names -/
abbrev wPar (i j : Nat) (wa : WA) : WS := fun P dl M => wa dl M fun rs M1 => match rs with
  | [r, q] => P.nx ((dl.set i (some r)).set j (some q)) M1
  | _ => False
theorem pds_par (i j : Nat) {x y : Str} {a b : Expr} {wa : WA} {px py pt : Pos} {kt k2 pt2} (hc : X.calm = true) (hN : X.N.Nodup) (hij : i ≠ j) (ha : PDA X [a, b] wa) (hi : X.N[i]? = some x := by rfl) (hj : X.N[j]? = some y := by rfl)
    (hx : X.env.scope.names.lookup x = some .local := by rfl) (hy : X.env.scope.names.lookup y = some .local := by rfl)
    (hw : swappedStores [.Tuple [.Name x px, .Name y py] kt pt] (.Tuple [a, b] k2 pt2) X.env = pure (some [x, y]) := by rfl)
    (hs : swapsWithSole [.Tuple [.Name x px, .Name y py] kt pt] (.Tuple [a, b] k2 pt2) pos.line X.env = pure false := by rfl) : PDS X (.Assign [.Tuple [.Name x px, .Name y py] kt pt] (.Tuple [a, b] k2 pt2) pos) (wPar i j wa) :=
  ps_imp (ps_par hc hN hi hj hij hx hy ha hw hs) fun D st H ⟨F, dl, M, P, so, at0, hw, po⟩ =>
    tDA_to so at0 hw fun vs F1 H1 rs M1 h1 g1 so1 at1 i1 => by
      split at h1
      · obtain ⟨v, u, rfl, q1, q2⟩ := isAll2 i1
        exact ⟨v, u, rfl, po.nx _ F1 H1 _ M1 h1 g1 (sok_set (sok_set so1 q1) q2)⟩
      · exact h1.elim
abbrev wRet (we : WE) : WS := fun P dl M => we dl M P.rt
theorem pds_ret {e : Expr} {we : WE} (he : PD X e we) : PDS X (.Return (some e) pos) (wRet we) := ps_imp (ps_ret he) fun D st H ⟨F, dl, M, P, so, at0, hw, po⟩ => ⟨F, dl, M, _, so, at0, hw, po.rt⟩
abbrev wDrop (we : WE) : WS := fun P dl M => we dl M fun _ M1 => P.nx dl M1
theorem pds_expr {e : Expr} {we : WE} (he : PD X e we) (hs : swapsWith e none pos.line X.env = pure false := by rfl) : PDS X (.Expr e pos) (wDrop we) := ps_imp (ps_expr he hs) fun D st H ⟨F, dl, M, P, so, at0, hw, po⟩ =>
  tD_to so at0 hw fun v F1 H1 r M1 h1 g1 so1 at1 i1 => po.nx _ F1 H1 _ M1 h1 g1 so1
abbrev wIfS (c : WT) (w u : WS) : WS := fun P dl M => c dl M fun k M1 => if k = true then w P dl M1 else u P dl M1
theorem pds_if {c : Expr} {a b : List Stmt} {wc : WT} {w u : WS} (hc : PDT X c wc) (ha : PDB X a w) (hb : PDB X b u) : PDS X (.If c a b pos) (wIfS wc w u) := ps_imp (ps_if hc ha hb) fun D st H ⟨F, dl, M, P, so, at0, hw, po⟩ =>
  tDT_to so at0 hw fun k F1 H1 M1 h1 g1 so1 at1 => by
    cases k with
    | true => exact ⟨F1, dl, M1, P, so1, at1, h1, po.mono g1⟩
    | false => exact ⟨F1, dl, M1, P, so1, at1, h1, po.mono g1⟩
abbrev wPass : WS := fun P dl M => P.nx dl M
theorem pds_pass : PDS X (.Pass pos) wPass := ps_imp ps_pass fun D st H ⟨F, dl, M, P, so, at0, hw, po⟩ => po.nx _ F H _ M hw (Go.refl at0) so
abbrev wBreak : WS := fun P dl M => P.bk dl M
theorem pds_break : PDS X (.Break pos) wBreak := ps_imp ps_break fun D st H ⟨F, dl, M, P, so, at0, hw, po⟩ => po.bk _ F H _ M hw (Go.refl at0) so

/-! ### while: by so many turns at most -/
def whGo (c : WT) (wb : WS) (P : PK) : Nat → NK
  | 0 => fun _ _ => False
  | n + 1 => fun dl M => c dl M fun k M1 => if k = true then wb { nx := whGo c wb P n, rt := P.rt, bk := P.nx, ct := whGo c wb P n } dl M1 else P.nx dl M1
abbrev wWhile (c : WT) (wb : WS) : WS := fun P dl M => ∃ n, whGo c wb P n dl M
theorem pds_while {c : Expr} {body : List Stmt} {wc : WT} {wb : WS} (hp : PassesOwn (model X.prog X.w) X.A X.env X.xe) (hc : PDT X c wc) (hb : PDB X body wb) : PDS X (.While c body [] pos) (wWhile wc wb) :=
  ps_imp (ps_while hp hc hb) fun D st H ⟨F, dl, M, P, so, at0, ⟨n, hw⟩, po⟩ => by
    refine ⟨fun n st H => ∃ F dl M, SOk X.K F dl st ∧ At X.K F M H ∧ whGo wc wb P n dl M ∧ PoS X.K F M H P D, ⟨n, F, dl, M, so, at0, hw, po⟩, ?_⟩
    rintro n st H ⟨F, dl, M, so, at0, hw, po⟩
    cases n with
    | zero => exact hw.elim
    | succ n =>
      refine tDT_to so at0 hw fun k F1 H1 M1 h1 g1 so1 at1 => ?_
      cases k with
      | false => exact po.nx _ F1 H1 _ M1 h1 g1 so1
      | true =>
        have po1 := po.mono g1
        refine ⟨fun st H => ∃ F dl M, SOk X.K F dl st ∧ At X.K F M H ∧ whGo wc wb P n dl M ∧ PoS X.K F M H P D, fun st' H' q => ⟨n, Nat.lt_succ_self n, q⟩, F1, dl, M1, _, so1, at1, h1, ?_⟩
        exact ⟨fun st2 F2 H2 dl2 M2 k2 g2 so2 => ⟨F2, dl2, M2, so2, g2.at', k2, po1.mono g2⟩, po1.rt, po1.nx, fun st2 F2 H2 dl2 M2 k2 g2 so2 => ⟨F2, dl2, M2, so2, g2.at', k2, po1.mono g2⟩⟩

/-! ### what is walked: its items, while C stays true of the memory -/
structure Wk (K : PySem.W.Frag) (F0 : Hp) (C : Mem → Prop) (J : It) (items : List Sl) : Prop where
  go : ∀ F M H i, Ex F0 F → At K F M H → C M → i < items.length → J.go i H
  yld : ∀ F M H i x H' r, Ex F0 F → At K F M H → C M → J.yld i H x H' → items[i]? = some r → ∃ F', Go K F M H F' M H' ∧ Is K F' r x
  stop : ∀ F M H, Ex F0 F → At K F M H → C M → J.stop items.length H
abbrev IK := List Sl → (Mem → Prop) → Mem → Prop
abbrev WI := Env' → Mem → IK → Prop
def tDI (K : PySem.W.Frag) (w : WI) : TI := fun st H R => ∃ F dl M T, SOk K F dl st ∧ At K F M H ∧ w dl M T ∧ ∀ F' M' H' items C J, T items C M' → Go K F M H F' M' H' → Wk K F' C J items → R J H'
def PDI (X : Cx) (tg iter : Expr) (w : WI) : Prop := PI X tg iter (tDI X.K w)
theorem pi_imp {tg e : Expr} {t u : TI} (h : PI X tg e t) (i : ∀ st H Q, u st H Q → t st H Q) : PI X tg e u := ⟨fun pins s st H Q I q => h.run pins s st H Q I (i st H Q q)⟩
abbrev C0 : Mem → Prop := fun _ => True
/-- over a list or a tuple that is a datum -/
abbrev wiD (we : WE) : WI := fun dl M T => we dl M fun r M1 => match r with
  | .d (.list ds) => T (ds.map Sl.d) C0 M1
  | .d (.tuple ds) => T (ds.map Sl.d) C0 M1
  | _ => False
theorem wk_list {K : PySem.W.Frag} {F0 : Hp} {a : Addr} {ss : List Sl} {vs : List V} {C : Mem → Prop} (h : ∀ F M H, Ex F0 F → At K F M H → C M → ∃ vs, SqL K H a vs ∧ IsAll K F ss vs) : Wk K F0 C (Itl K a) ss := by
  refine ⟨fun F M H i e at0 c hi => ?_, fun F M H i x H' r e at0 c y hr => ?_, fun F M H e at0 c => ?_⟩
  · obtain ⟨vs, q1, q2⟩ := h F M H e at0 c
    exact ⟨vs, vs[i]'(by rw [← q2.length]; exact hi), q1, by simp [List.getElem?_eq_getElem (by rw [← q2.length]; exact hi : i < vs.length)]⟩
  · obtain ⟨vs, q1, q2⟩ := h F M H e at0 c
    obtain ⟨rfl, y⟩ := y
    obtain ⟨v, h1, h2⟩ := q2.get hr
    have := y vs q1
    rw [h1] at this
    cases this
    exact ⟨F, Go.refl at0, h2⟩
  · obtain ⟨vs, q1, q2⟩ := h F M H e at0 c
    exact ⟨vs, q1, by rw [q2.length]; exact Nat.le_refl _⟩
theorem wk_tup {K : PySem.W.Frag} {F0 : Hp} {a : Addr} {ss : List Sl} {C : Mem → Prop} (h : ∀ F M H, Ex F0 F → At K F M H → C M → ∃ vs, SqT K H a vs ∧ IsAll K F ss vs) : Wk K F0 C (Itt K a) ss := by
  refine ⟨fun F M H i e at0 c hi => ?_, fun F M H i x H' r e at0 c y hr => ?_, fun F M H e at0 c => ?_⟩
  · obtain ⟨vs, q1, q2⟩ := h F M H e at0 c
    exact ⟨vs, vs[i]'(by rw [← q2.length]; exact hi), q1, by simp [List.getElem?_eq_getElem (by rw [← q2.length]; exact hi : i < vs.length)]⟩
  · obtain ⟨vs, q1, q2⟩ := h F M H e at0 c
    obtain ⟨rfl, y⟩ := y
    obtain ⟨v, h1, h2⟩ := q2.get hr
    have := y vs q1
    rw [h1] at this
    cases this
    exact ⟨F, Go.refl at0, h2⟩
  · obtain ⟨vs, q1, q2⟩ := h F M H e at0 c
    exact ⟨vs, q1, by rw [q2.length]; exact Nat.le_refl _⟩
/-- the list's address, the tuple's: two rules (the form is chosen by what the value is) -/
abbrev wiL (we : WE) : WI := fun dl M T => we dl M fun r M1 => match r with
  | .d (.list ds) => T (ds.map Sl.d) C0 M1
  | .v (.ref p) => ∃ ss, M1 p = some (.lst ss) ∧ T ss (fun M => M p = some (.lst ss)) M1
  | _ => False
abbrev wiT (we : WE) : WI := fun dl M T => we dl M fun r M1 => match r with
  | .d (.tuple ds) => T (ds.map Sl.d) C0 M1
  | _ => False
theorem pdi_list {tg e : Expr} {we : WE} (he : PD X e we) : PDI X tg e (wiL we) :=
  pi_imp (pi_list he) fun st H Q ⟨F, dl, M, T, so, at0, hw, po⟩ =>
    tD_to so at0 hw fun v F1 H1 r M1 h1 g1 so1 at1 i1 => by
      split at h1
      · cases i1 with
        | lst q1 q2 =>
          refine ⟨_, rfl, ⟨_, SqL.of (at1.ex _ _ q1)⟩, po F1 M1 H1 _ _ _ h1 g1 (wk_list (vs := []) fun F' M' H' e at' _ => ⟨_, SqL.of (at'.ex _ _ (e _ _ q1)), isAll_mono e (isAll_d q2)⟩)⟩
      · rename_i p
        have i2 : v = .ref p := i1
        subst i2
        obtain ⟨ss, q0, h1⟩ := h1
        obtain ⟨_, vs, q1, q2⟩ := at1.mem p _ q0
        refine ⟨p, rfl, ⟨vs, SqL.of q1⟩, po F1 M1 H1 _ _ _ h1 g1 (wk_list (vs := []) fun F' M' H' e at' c => ?_)⟩
        obtain ⟨_, us, z1, z2⟩ := at'.mem p _ c
        exact ⟨us, SqL.of z1, z2⟩
      · exact h1.elim
theorem pdi_tup {tg e : Expr} {we : WE} (he : PD X e we) : PDI X tg e (wiT we) :=
  pi_imp (pi_tup he) fun st H Q ⟨F, dl, M, T, so, at0, hw, po⟩ =>
    tD_to so at0 hw fun v F1 H1 r M1 h1 g1 so1 at1 i1 => by
      split at h1
      · obtain ⟨a, vs, rfl, q1, q2⟩ := sqT_at at1 i1
        refine ⟨a, rfl, ⟨vs, q1⟩, po F1 M1 H1 _ _ _ h1 g1 (wk_tup fun F' M' H' e at' _ => ?_)⟩
        obtain ⟨b, us, e2, z1, z2⟩ := sqT_at at' (dq_mono e i1)
        cases e2
        exact ⟨us, z1, isAll_d z2⟩
      · exact h1.elim
/-- range(n), range(m, n) -/
def rngS (lo : Int) (n : Nat) : List Sl := (List.range n).map fun (i : Nat) => Sl.i (lo + (i : Int))
theorem wk_range {K : PySem.W.Frag} {F0 : Hp} {lo : Int} {n : Nat} : Wk K F0 C0 (Itr lo n) (rngS lo n) := by
  have hl : (rngS lo n).length = n := by unfold rngS; rw [List.length_map, List.length_range]
  refine ⟨fun F M H i e at0 c hi => ?_, fun F M H i x H' r e at0 c y hr => ?_, fun F M H e at0 c => ?_⟩
  · rw [hl] at hi; exact hi
  · obtain ⟨rfl, rfl⟩ := y
    unfold rngS at hr
    rw [List.getElem?_map] at hr
    obtain ⟨j, hj, rfl⟩ := Option.map_eq_some_iff.mp hr
    obtain ⟨hi, hj⟩ := List.getElem?_eq_some_iff.mp hj
    rw [List.getElem_range] at hj
    subst hj
    exact ⟨F, Go.refl at0, .int _⟩
  · show n ≤ (rngS lo n).length
    rw [hl]; exact Nat.le_refl _
abbrev wiR1 (wa : WA) : WI := fun dl M T => wa dl M fun rs M1 => match rs with
  | [.d (.int n)] => -(2 ^ 62) ≤ n ∧ n < 2 ^ 62 ∧ T (rngS 0 n.toNat) C0 M1
  | _ => False
abbrev wiR2 (wa : WA) : WI := fun dl M T => wa dl M fun rs M1 => match rs with
  | [.d (.int m), .d (.int n)] => (-(2 ^ 62) ≤ m ∧ m < 2 ^ 62 ∧ -(2 ^ 62) ≤ n ∧ n < 2 ^ 62) ∧ T (rngS m (n - m).toNat) C0 M1
  | _ => False
theorem pdi_range1 {tg e : Expr} {wa : WA} {p pos : Pos} (hg : Gl X "range") (hm : X.mg "range" = none) (ha : PDA X [e] wa) (hs : starEach [e] X.env = [(false, eval e X.env)] := by rfl) : PDI X tg (.Call (.Name "range" p) [e] [] pos) (wiR1 wa) :=
  pi_imp (pi_range1 hg hm ha hs) fun st H Q ⟨F, dl, M, T, so, at0, hw, po⟩ =>
    tDA_to so at0 hw fun vs F1 H1 rs M1 h1 g1 so1 at1 i1 => by
      split at h1
      · obtain ⟨v, rfl, i2⟩ := isAll1 i1
        exact ⟨_, by rw [dq_int i2], h1.1, h1.2.1, po F1 M1 H1 _ _ _ h1.2.2 g1 wk_range⟩
      · exact h1.elim
theorem pdi_range2 {tg e e2 : Expr} {wa : WA} {p pos : Pos} (hg : Gl X "range") (hm : X.mg "range" = none) (ha : PDA X [e, e2] wa) (hs : starEach [e, e2] X.env = [(false, eval e X.env), (false, eval e2 X.env)] := by rfl) (hs2 : starEach [e2] X.env = [(false, eval e2 X.env)] := by rfl) : PDI X tg (.Call (.Name "range" p) [e, e2] [] pos) (wiR2 wa) :=
  pi_imp (pi_range2 hg hm ha hs hs2) fun st H Q ⟨F, dl, M, T, so, at0, hw, po⟩ =>
    tDA_to so at0 hw fun vs F1 H1 rs M1 h1 g1 so1 at1 i1 => by
      split at h1
      · obtain ⟨v, u, rfl, i2, i3⟩ := isAll2 i1
        exact ⟨_, _, by rw [dq_int i2, dq_int i3], h1.1, po F1 M1 H1 _ _ _ h1.2 g1 wk_range⟩
      · exact h1.elim

/-! ### for -/
def forGo (g : WG) (wb : WS) (C : Mem → Prop) (P : PK) : List Sl → NK
  | [] => fun dl M => C M ∧ P.nx dl M
  | x :: xs => fun dl M => C M ∧ g x dl M fun dl2 M2 => wb { nx := forGo g wb C P xs, rt := P.rt, bk := P.nx, ct := forGo g wb C P xs } dl2 M2
abbrev wFor (wi : WI) (g : WG) (wb : WS) : WS := fun P dl M => wi dl M fun items C M1 => forGo g wb C P items dl M1
theorem forGo_C {g : WG} {wb : WS} {C : Mem → Prop} {P : PK} : ∀ {xs : List Sl} {dl : Env'} {M : Mem}, forGo g wb C P xs dl M → C M
  | [], _, _, h => h.1
  | _ :: _, _, _, h => h.1
theorem pds_for {tg iter : Expr} {body : List Stmt} {wi : WI} {g : WG} {wb : WS} (hp : PassesOwn (model X.prog X.w) X.A X.env X.xe) (hc : X.calm = true) (hi : PDI X tg iter wi) (hg : PDG X tg g) (hb : PDB X body wb)
    (hs : ∀ x, foldedSetIterable iter X.env x = pure x := by intro _; rfl) : PDS X (.For tg iter body [] pos) (wFor wi g wb) :=
  ps_imp (ps_for hp hc hi hg hb hs) fun D st H ⟨F, dl, M, P, so, at0, hw, po⟩ => by
    refine ⟨F, dl, M, _, so, at0, hw, fun F1 M1 H1 items C J h1 g1 wk => ?_⟩
    refine ⟨fun i m st H => m = items.length - i ∧ i ≤ items.length ∧ ∃ F dl M, Ex F1 F ∧ SOk X.K F dl st ∧ At X.K F M H ∧ forGo g wb C P (items.drop i) dl M ∧ PoS X.K F M H P D,
      ⟨_, rfl, Nat.zero_le _, F1, dl, M1, Ex.refl _, sok_mono g1.ex so, g1.at', h1, po.mono g1⟩, ?_⟩
    rintro i m st H ⟨rfl, hi, F, dl, M, e, so, at0, hw, po⟩
    have c := forGo_C hw
    by_cases hlt : i < items.length
    · refine .inr ⟨wk.go F M H i e at0 c hlt, fun st' H' => i + 1 ≤ items.length ∧ ∃ F dl M, Ex F1 F ∧ SOk X.K F dl st' ∧ At X.K F M H' ∧ forGo g wb C P (items.drop (i + 1)) dl M ∧ PoS X.K F M H' P D, fun st' H' q => ⟨_, by omega, rfl, q⟩, fun x H' y => ?_⟩
      have hx : items[i]? = some items[i] := List.getElem?_eq_getElem hlt
      obtain ⟨F2, g2, i2⟩ := wk.yld F M H i x H' _ e at0 c y hx
      rw [List.drop_eq_getElem_cons hlt] at hw
      obtain ⟨_, hw⟩ := hw
      refine ⟨F2, dl, M, _, _, sok_mono g2.ex so, g2.at', i2, hw, fun st3 F3 H3 dl3 M3 h3 g3 so3 => ?_⟩
      have po3 := po.mono (g2.trans g3)
      have e3 := e.trans (g2.ex.trans g3.ex)
      exact ⟨F3, dl3, M3, _, so3, g3.at', h3, ⟨fun st4 F4 H4 dl4 M4 h4 g4 so4 => ⟨hlt, F4, dl4, M4, e3.trans g4.ex, so4, g4.at', h4, po3.mono g4⟩, po3.rt, po3.nx, fun st4 F4 H4 dl4 M4 h4 g4 so4 => ⟨hlt, F4, dl4, M4, e3.trans g4.ex, so4, g4.at', h4, po3.mono g4⟩⟩⟩
    · have ei : i = items.length := by omega
      subst ei
      rw [List.drop_length] at hw
      exact .inl ⟨wk.stop F M H e at0 c, po.nx _ F H _ M hw.2 (Go.refl at0) so⟩
end
end DL

set_option Elab.async false
set_option linter.all false
set_option maxRecDepth 100000
set_option maxHeartbeats 4000000
/-! DE: comprehensions, defs and their promises. -/
namespace DL
open PySem PySem.Spec L2
open PyProof.Rows (envOfC)
open Evl (Ex)

/-! ### targets of a comprehension: only its own slots change -/
def tDGw (K : PySem.W.Frag) (vs : List Nat) (w : WG) : TG := fun v st H Q => ∃ F dl M r R, SOk K F dl st ∧ At K F M H ∧ Is K F r v ∧ w r dl M R ∧ ∀ st' F' H' dl' M', R dl' M' → Go K F M H F' M' H' → SOk K F' dl' st' → wipe st' vs = wipe st vs → Q st' H'
def tDGsw (K : PySem.W.Frag) (vs : List Nat) (w : WGs) : TGs := fun v st H Q => ∃ F dl M rs R, SOk K F dl st ∧ At K F M H ∧ IsAll K F rs v ∧ w rs dl M R ∧ ∀ st' F' H' dl' M', R dl' M' → Go K F M H F' M' H' → SOk K F' dl' st' → wipe st' vs = wipe st vs → Q st' H'
def PDGw (X : Cx) (vs : List Nat) (tg : Expr) (w : WG) : Prop := PG X tg (tDGw X.K vs w)
def PDGsw (X : Cx) (vs : List Nat) (ts : List Expr) (w : WGs) : Prop := PGs X ts (tDGsw X.K vs w)
theorem wipe_get (st : St) (i : Nat) : ∀ vs : List Nat, (wipe st vs)[i]? = if i ∈ vs then st[i]?.map (fun _ => none) else st[i]?
  | [] => by simp [wipe]
  | v :: vs => by
    unfold wipe
    have ih := wipe_get st i vs
    by_cases hv : v = i
    · subst hv
      rw [if_pos List.mem_cons_self]
      by_cases hl : v < st.length
      · rw [List.getElem?_set_self (by rw [wipe_length]; exact hl), List.getElem?_eq_getElem hl]; rfl
      · rw [List.getElem?_eq_none (by rw [List.length_set, wipe_length]; omega), List.getElem?_eq_none (by omega)]; rfl
    · rw [List.getElem?_set_ne hv, ih]
      by_cases hm : i ∈ vs
      · rw [if_pos hm, if_pos (List.mem_cons_of_mem _ hm)]
      · rw [if_neg hm, if_neg (fun z => by rcases List.mem_cons.mp z with z | z; exact hv z.symm; exact hm z)]
theorem wipe_set (st : St) (o : Option V) (i : Nat) (vs : List Nat) (h : i ∈ vs) : wipe (st.set i o) vs = wipe st vs := by
  apply List.ext_getElem?
  intro j
  rw [wipe_get, wipe_get]
  by_cases hj : i = j
  · subst hj
    rw [if_pos h, if_pos h]
    by_cases hl : i < st.length
    · rw [List.getElem?_set_self hl, List.getElem?_eq_getElem hl]; rfl
    · rw [List.getElem?_eq_none (by rw [List.length_set]; omega), List.getElem?_eq_none (by omega)]
  · rw [List.getElem?_set_ne hj]
theorem wipe_wipe (st : St) (vs : List Nat) : wipe (wipe st vs) vs = wipe st vs := by
  apply List.ext_getElem?
  intro j
  rw [wipe_get, wipe_get]
  by_cases hj : j ∈ vs
  · rw [if_pos hj, if_pos hj]
    cases st[j]? <;> rfl
  · rw [if_neg hj]
section
variable {X : Cx} {pos : Pos} {vs : List Nat}
theorem pdgw_name (i : Nat) {x : Str} (hN : X.N.Nodup) (hv : i ∈ vs := by decide) (hi : X.N[i]? = some x := by rfl) (hx : Loc X.env.scope x := by first | exact .inl rfl | exact .inr rfl) (hf : X.fn x = true ∨ X.env.scope.names.lookup x = some .local := by first | exact .inl rfl | exact .inr rfl | assumption) : PDGw X vs (.Name x pos) (gN i) :=
  pg_imp (pg_name hN hi hx hf) fun v st H Q ⟨F, dl, M, r, R, so, at0, i1, hw, po⟩ => po _ F H _ M hw (Go.refl at0) (sok_set so i1) (wipe_set st _ i vs hv)
theorem pdgsw_nil : PDGsw X vs [] gNil' := pgs_imp pgs_nil fun v st H Q ⟨F, dl, M, rs, R, so, at0, i1, hw, po⟩ => by
  unfold gNil' at hw
  split at hw
  · cases i1; exact ⟨rfl, po _ F H _ M hw (Go.refl at0) so rfl⟩
  · exact hw.elim
theorem pdgsw_cons {e : Expr} {es : List Expr} {w : WG} {ws : WGs} (h1 : PDGw X vs e w) (h2 : PDGsw X vs es ws) (hs : (assignEach (e :: es) X.env).map (·.2) = assign e X.env :: (assignEach es X.env).map (·.2) := by rfl) : PDGsw X vs (e :: es) (gCons' w ws) :=
  pgs_imp (pgs_cons h1 h2 hs) fun v st H Q ⟨F, dl, M, rs, R, so, at0, i1, hw, po⟩ => by
    unfold gCons' at hw
    split at hw
    · cases i1 with
      | cons i1 it =>
        refine ⟨_, _, rfl, F, dl, M, _, _, so, at0, i1, hw, fun st1 F1 H1 dl1 M1 h1 g1 so1 w1 => ?_⟩
        exact ⟨F1, dl1, M1, _, _, so1, g1.at', isAll_mono g1.ex it, h1, fun st2 F2 H2 dl2 M2 h2 g2 so2 w2 => po st2 F2 H2 dl2 M2 h2 (g1.trans g2) so2 (w2.trans w1)⟩
    · exact hw.elim
theorem pdgw_tup {es : List Expr} {k n : Nat} {ws : WGs} (hc : X.calm = true) (h : PDGsw X vs es ws) (hn : (assignEach es X.env).length = n := by rfl) (hst : (assignEach es X.env).findIdx? (·.1) = none := by rfl) : PDGw X vs (.Tuple es k pos) (gTup' n ws) :=
  pg_imp (pg_tup hc h hn hst) fun v st H Q ⟨F, dl, M, r, R, so, at0, i1, hw, po⟩ => by
    unfold gTup' at hw
    split at hw
    · obtain ⟨a, us, rfl, h1, h2⟩ := sqT_at at0 i1
      exact ⟨a, us, rfl, h1, by rw [dqAll_len h2]; exact hw.1, F, dl, M, _, _, so, at0, isAll_d h2, hw.2, po⟩
    · obtain ⟨a, us, rfl, h1, h2⟩ := i1
      exact ⟨a, us, rfl, Evl.ex_t at0.ex h1, by rw [dqAll_len h2]; exact hw.1, F, dl, M, _, _, so, at0, isAll_d h2, hw.2, po⟩
    · exact hw.elim

/-! ### [e for t in it if c] -/
def lcGo (g : WG) (wt : WT) (we : WE) (C : Mem → Prop) (dl : Env') (R : List Sl → Mem → Prop) : List Sl → List Sl → Mem → Prop
  | [], acc, M => C M ∧ R acc M
  | x :: xs, acc, M => C M ∧ g x dl M fun dl2 M2 => wt dl2 M2 fun k M3 => if k = true then we dl2 M3 fun y M4 => acc.length < sizeLine ∧ lcGo g wt we C dl R xs (acc ++ [y]) M4 else lcGo g wt we C dl R xs acc M3
theorem lcGo_C {g : WG} {wt : WT} {we : WE} {C : Mem → Prop} {dl : Env'} {R : List Sl → Mem → Prop} : ∀ {xs acc : List Sl} {M : Mem}, lcGo g wt we C dl R xs acc M → C M
  | [], _, _, h => h.1
  | _ :: _, _, _, h => h.1
def wipeD (dl : Env') : List Nat → Env'
  | [] => dl
  | v :: vs => (wipeD dl vs).set v none
theorem sok_wipe {K : PySem.W.Frag} {F : Hp} {dl : Env'} {st : St} (so : SOk K F dl st) : ∀ vs : List Nat, SOk K F (wipeD dl vs) (wipe st vs)
  | [] => so
  | v :: vs => All2.set (R := SIs K F) (a := none) (b := none) trivial v (sok_wipe so vs)
/-- the comprehension to a datum, to a list that may change -/
abbrev wLc (wi : WI) (g : WG) (wt : WT) (we : WE) (vs : List Nat) : WE := fun dl M R => wi dl M fun items C M1 => lcGo g wt we C (wipeD dl vs) (fun acc M2 => ∃ ds, datOf acc = some ds ∧ R (.d (.list ds)) M2) items [] M1
abbrev wLcM (wi : WI) (g : WG) (wt : WT) (we : WE) (vs : List Nat) : WE := fun dl M R => wi dl M fun items C M1 => lcGo g wt we C (wipeD dl vs) (fun acc M2 => ∀ p, M2 p = none → R (.v (.ref p)) (upM M2 p (.lst acc))) items [] M1
/-- what is at an address that nothing speaks of does not matter -/
theorem At.hid {K : PySem.W.Frag} {F H : Hp} {M : Mem} {p : Addr} {o : HO} (h : At K F M H) (f : F p = none) (m : M p = none) : At K F M (upd H p o) := by
  refine ⟨fun b u z => ?_, fun b u z => ?_⟩
  · rw [upd_ne (ne_of_none z f)]; exact h.ex b u z
  · obtain ⟨q1, q2⟩ := h.mem b u z
    exact ⟨q1, mis_mono (Ex.refl F) (by rw [upd_ne (neM z m)]) q2⟩
structure LcW (K : PySem.W.Frag) (F0 : Hp) (M0 : Mem) (H0 : Hp) (p : Addr) (F : Hp) (M : Mem) (H : Hp) (acc : List Sl) : Prop where
  go : Go K F0 M0 H0 F M H
  f : F p = none
  m : M p = none
  h : ∃ vs, H p = some (.lst vs) ∧ IsAll K F acc vs
theorem LcW.step {K : PySem.W.Frag} {F0 H0 F H F1 H1 : Hp} {M0 M M1 : Mem} {p : Addr} {acc : List Sl} (l : LcW K F0 M0 H0 p F M H acc) (g : Go K F M H F1 M1 H1) : LcW K F0 M0 H0 p F1 M1 H1 acc := by
  obtain ⟨vs, h1, h2⟩ := l.h
  obtain ⟨q1, q2, q3⟩ := g.fr p _ h1 l.f l.m
  exact ⟨l.go.trans g, q2, q3, vs, q1, isAll_mono g.ex h2⟩
theorem lc_run {K : PySem.W.Frag} {g : WG} {wt : WT} {we : WE} {C : Mem → Prop} {dl : Env'} {vs : List Nat} {st : St} {R : List Sl → Mem → Prop} {F1 H1 : Hp} {M1 : Mem} {items : List Sl} {J : It} {Q : VK} {p : Addr} (so : SOk K F1 dl st) (at1 : At K F1 M1 H1) (wk : Wk K F1 C J items) (hp : H1 p = none)
    (h : lcGo g wt we C (wipeD dl vs) R items [] M1) (hQ : ∀ F M H acc, R acc M → LcW K F1 M1 H1 p F M H acc → Q (.ref p) H) :
    ∃ W : Nat → Nat → Hp → Prop, (∃ m, W 0 m (upd H1 p (.lst []))) ∧ ∀ i m H, W i m H →
      (J.stop i H ∧ Q (.ref p) H) ∨ (J.go i H ∧ ∃ Nx : Hp → Prop, (∀ H', Nx H' → ∃ m', m' < m ∧ W (i + 1) m' H') ∧ ∀ x H', J.yld i H x H' → tDGw K vs g x (wipe st vs) H' fun st2 H2 => wipe st2 vs = wipe st vs ∧ tDT K wt st2 H2 fun k H3 =>
        if k = true then tD K we st2 H3 fun y H4 => ∃ acc, H4 p = some (.lst acc) ∧ acc.length < sizeLine ∧ Nx (upd H4 p (.lst (acc ++ [y]))) else Nx H3) := by
  have f1 := at1.freeF hp
  have m1 := at1.freeM hp
  refine ⟨fun i m H => m = items.length - i ∧ i ≤ items.length ∧ ∃ F M acc, LcW K F1 M1 H1 p F M H acc ∧ lcGo g wt we C (wipeD dl vs) R (items.drop i) acc M,
    ⟨_, rfl, Nat.zero_le _, F1, M1, [], ⟨⟨Ex.refl _, at1.hid f1 m1, fun a o h1 h2 h3 => ⟨by rw [upd_ne (ne_of_none h1 hp)]; exact h1, h2, h3⟩⟩, f1, m1, [], upd_same, .nil⟩, h⟩, ?_⟩
  rintro i m H ⟨rfl, hi, F, M, acc, l, hw⟩
  have c := lcGo_C hw
  have at0 := l.go.at'
  by_cases hlt : i < items.length
  · refine .inr ⟨wk.go F M H i l.go.ex at0 c hlt, fun H' => i + 1 ≤ items.length ∧ ∃ F M acc, LcW K F1 M1 H1 p F M H' acc ∧ lcGo g wt we C (wipeD dl vs) R (items.drop (i + 1)) acc M, fun H' q => ⟨_, by omega, rfl, q⟩, fun x H' y => ?_⟩
    obtain ⟨F2, g2, i2⟩ := wk.yld F M H i x H' _ l.go.ex at0 c y (List.getElem?_eq_getElem hlt)
    rw [List.drop_eq_getElem_cons hlt] at hw
    obtain ⟨_, hw⟩ := hw
    have l2 := l.step g2
    refine ⟨F2, wipeD dl vs, M, _, _, sok_wipe (sok_mono l2.go.ex so) vs, g2.at', i2, hw, fun st3 F3 H3 dl3 M3 h3 g3 so3 w3 => ⟨?_, ?_⟩⟩
    · rw [w3]; exact wipe_wipe st vs
    · have l3 := l2.step g3
      refine tDT_to so3 g3.at' h3 fun k F4 H4 M4 h4 g4 so4 at4 => ?_
      have l4 := l3.step g4
      cases k with
      | false => exact ⟨hlt, F4, M4, acc, l4, h4⟩
      | true =>
        refine tD_to so4 at4 h4 fun y F5 H5 r M5 h5 g5 so5 at5 i5 => ?_
        have l5 := l4.step g5
        obtain ⟨us, q1, q2⟩ := l5.h
        refine ⟨us, q1, by rw [← q2.length]; exact h5.1, hlt, F5, M5, acc ++ [r], ⟨⟨l5.go.ex, l5.go.at'.hid l5.f l5.m, fun a o z1 z2 z3 => ?_⟩, l5.f, l5.m, us ++ [y], upd_same, q2.append (.cons i5 .nil)⟩, h5.2⟩
        obtain ⟨w1, w2, w3⟩ := l5.go.fr a o z1 z2 z3
        exact ⟨by rw [upd_ne (ne_of_none z1 hp)]; exact w1, w2, w3⟩
  · have ei : i = items.length := by omega
    subst ei
    rw [List.drop_length] at hw
    exact .inl ⟨wk.stop F M H l.go.ex at0 c, hQ F M H acc hw.2 l⟩
theorem LcW.dat {K : PySem.W.Frag} {F0 H0 F H : Hp} {M0 M : Mem} {p : Addr} {acc : List Sl} {ds : List PyData} (l : LcW K F0 M0 H0 p F M H acc) (hp : H0 p = none) (e : datOf acc = some ds) : ∃ F', Go K F0 M0 H0 F' M H ∧ Dq K F' (.ref p) (.list ds) := by
  obtain ⟨vs, q1, q2⟩ := l.h
  rw [datOf_eq e] at q2
  have e1 : Ex F (upd F p (.lst vs)) := Ex.new l.f
  refine ⟨upd F p (.lst vs), ⟨l.go.ex.trans e1, ⟨fun b u z => ?_, fun b u z => ?_⟩, fun b u h1 h2 h3 => ?_⟩, .lst upd_same (dqAll_mono e1 (dqAll_of q2))⟩
  · by_cases hb : b = p
    · subst hb; rw [upd_same] at z; cases z; exact q1
    · rw [upd_ne hb] at z; exact l.go.at'.ex b u z
  · have hb : b ≠ p := neM z l.m
    obtain ⟨r1, r2⟩ := l.go.at'.mem b u z
    exact ⟨by rw [upd_ne hb]; exact r1, mis_mono e1 rfl r2⟩
  · obtain ⟨w1, w2, w3⟩ := l.go.fr b u h1 h2 h3
    exact ⟨w1, by rw [upd_ne (ne_of_none h1 hp)]; exact w2, w3⟩
theorem LcW.mem {K : PySem.W.Frag} {F0 H0 F H : Hp} {M0 M : Mem} {p : Addr} {acc : List Sl} (l : LcW K F0 M0 H0 p F M H acc) (hp : H0 p = none) : Go K F0 M0 H0 F (upM M p (.lst acc)) H := by
  obtain ⟨vs, q1, q2⟩ := l.h
  refine ⟨l.go.ex, ⟨l.go.at'.ex, fun b u z => ?_⟩, fun b u h1 h2 h3 => ?_⟩
  · by_cases hb : b = p
    · subst hb; rw [upM_same] at z; cases z; exact ⟨l.f, vs, q1, q2⟩
    · rw [upM_ne hb] at z; exact l.go.at'.mem b u z
  · obtain ⟨w1, w2, w3⟩ := l.go.fr b u h1 h2 h3
    exact ⟨w1, w2, by rw [upM_ne (ne_of_none h1 hp)]; exact w3⟩
theorem tD_lc {K : PySem.W.Frag} {wi : WI} {g : WG} {wt : WT} {we : WE} {vs : List Nat} {st : St} {H : Hp} {Q : VK} (h : tD K (wLc wi g wt we vs) st H Q) : tLc (tDI K wi) (tDGw K vs g) (tDT K wt) (tD K we) vs st H Q := by
  obtain ⟨F, dl, M, R, so, at0, hw, po⟩ := h
  refine ⟨F, dl, M, _, so, at0, hw, fun F1 M1 H1 items C J h1 g1 wk p hp => ?_⟩
  refine lc_run (sok_mono g1.ex so) g1.at' wk hp h1 fun F2 M2 H2 acc hR l => ?_
  obtain ⟨ds, e, hR⟩ := hR
  obtain ⟨F3, g3, d3⟩ := l.dat hp e
  exact po _ F3 H2 _ M2 hR (g1.trans g3) d3
theorem tD_lcM {K : PySem.W.Frag} {wi : WI} {g : WG} {wt : WT} {we : WE} {vs : List Nat} {st : St} {H : Hp} {Q : VK} (h : tD K (wLcM wi g wt we vs) st H Q) : tLc (tDI K wi) (tDGw K vs g) (tDT K wt) (tD K we) vs st H Q := by
  obtain ⟨F, dl, M, R, so, at0, hw, po⟩ := h
  refine ⟨F, dl, M, _, so, at0, hw, fun F1 M1 H1 items C J h1 g1 wk p hp => ?_⟩
  refine lc_run (sok_mono g1.ex so) g1.at' wk hp h1 fun F2 M2 H2 acc hR l => ?_
  exact po _ F2 H2 _ _ (hR p l.m) (g1.trans (l.mem hp)) rfl
/-- tests of a comprehension -/
def PDTs (X : Cx) (ifs : List Expr) (w : WT) : Prop := PTs X ifs (tDT X.K w)
theorem pts_imp {ifs : List Expr} {t u : TT} (h : PTs X ifs t) (i : ∀ st H Q, u st H Q → t st H Q) : PTs X ifs u := ⟨fun pins s st H Q I q => h.run pins s st H Q I (i st H Q q)⟩
abbrev wYes : WT := fun _ M R => R true M
theorem pdts_nil : PDTs X [] wYes := pts_imp pts_nil fun st H Q ⟨F, dl, M, R, so, at0, hw, po⟩ => po _ F H M hw (Go.refl at0)
theorem pdts_one {c : Expr} {w : WT} (h : PDT X c w) : PDTs X [c] w := pts_one h
section
variable {elt tg iter : Expr} {ifs : List Expr} {scope : Scope} {own : List (Str × Nat)} {wi : WI} {g : WG} {wt : WT} {we : WE}
theorem pd_lc (hc : X.calm = true) (hN : X.N.Nodup) (hi : PDI X tg iter wi) (ok : BlkOk X.N X.env.scope scope own)
    (hg : ∀ (s : Shared) (H : Hp) (C : Addr) (cl : List (Str × Addr)) (fp : List Addr), PDGw (X.blk s H scope (compEnvC scope cl C X.env) fp) (own.map (·.2)) tg g) (ht : ∀ (s : Shared) (H : Hp) (C : Addr) (cl : List (Str × Addr)) (fp : List Addr), PDTs (X.blk s H scope (compEnvC scope cl C X.env) fp) ifs wt)
    (he : ∀ (s : Shared) (H : Hp) (C : Addr) (cl : List (Str × Addr)) (fp : List Addr), PD (X.blk s H scope (compEnvC scope cl C X.env) fp) elt we) (hs : ∀ x, foldedSetIterable iter X.env x = pure x := by intro _; rfl) : PD X (.ListComp elt [⟨tg, iter, ifs, 0⟩] scope pos) (wLc wi g wt we (own.map (·.2))) :=
  pe_imp (pe_lc (g := tDGw X.K (own.map (fun z : Str × Nat => z.2)) g) (tt := tDT X.K wt) (te := tD X.K we) hc hN hi ok hg ht he hs) fun st H Q h => tD_lc h
theorem pd_lcM (hc : X.calm = true) (hN : X.N.Nodup) (hi : PDI X tg iter wi) (ok : BlkOk X.N X.env.scope scope own)
    (hg : ∀ (s : Shared) (H : Hp) (C : Addr) (cl : List (Str × Addr)) (fp : List Addr), PDGw (X.blk s H scope (compEnvC scope cl C X.env) fp) (own.map (·.2)) tg g) (ht : ∀ (s : Shared) (H : Hp) (C : Addr) (cl : List (Str × Addr)) (fp : List Addr), PDTs (X.blk s H scope (compEnvC scope cl C X.env) fp) ifs wt)
    (he : ∀ (s : Shared) (H : Hp) (C : Addr) (cl : List (Str × Addr)) (fp : List Addr), PD (X.blk s H scope (compEnvC scope cl C X.env) fp) elt we) (hs : ∀ x, foldedSetIterable iter X.env x = pure x := by intro _; rfl) : PD X (.ListComp elt [⟨tg, iter, ifs, 0⟩] scope pos) (wLcM wi g wt we (own.map (·.2))) :=
  pe_imp (pe_lc (g := tDGw X.K (own.map (fun z : Str × Nat => z.2)) g) (tt := tDT X.K wt) (te := tD X.K we) hc hN hi ok hg ht he hs) fun st H Q h => tD_lcM h
/-- y = [..] -/
theorem pds_setLc (i : Nat) {y : Str} {py spos : Pos} (hc : X.calm = true) (hN : X.N.Nodup) (hy : X.N[i]? = some y) (hyl : X.env.scope.names.lookup y = some .local)
    (hsw : swapsWith (.ListComp elt [⟨tg, iter, ifs, 0⟩] scope pos) (some (.Name y py)) spos.line X.env = pure true) (hi : PDI X tg iter wi) (ok : BlkOk X.N X.env.scope scope own)
    (hg : ∀ (s : Shared) (H : Hp) (C : Addr) (cl : List (Str × Addr)) (fp : List Addr), PDGw (X.blk s H scope (compEnvC scope cl C X.env) fp) (own.map (·.2)) tg g) (ht : ∀ (s : Shared) (H : Hp) (C : Addr) (cl : List (Str × Addr)) (fp : List Addr), PDTs (X.blk s H scope (compEnvC scope cl C X.env) fp) ifs wt)
    (he : ∀ (s : Shared) (H : Hp) (C : Addr) (cl : List (Str × Addr)) (fp : List Addr), PD (X.blk s H scope (compEnvC scope cl C X.env) fp) elt we) (hs : ∀ x, foldedSetIterable iter X.env x = pure x := by intro _; rfl) : PDS X (.Assign [.Name y py] (.ListComp elt [⟨tg, iter, ifs, 0⟩] scope pos) spos) (wAsg (wLc wi g wt we (own.map (·.2))) (gN i)) :=
  ps_imp (ps_setLc (g := tDGw X.K (own.map (fun z : Str × Nat => z.2)) g) (tt := tDT X.K wt) (te := tD X.K we) hc hN hy hyl hsw hi ok hg ht he hs) fun D st H ⟨F, dl, M, P, so, at0, hw, po⟩ =>
    tD_lc ⟨F, dl, M, _, so, at0, hw, fun v F1 H1 r M1 h1 g1 i1 => po.nx _ F1 H1 _ M1 h1 g1 (sok_set (sok_mono g1.ex so) i1)⟩
theorem pds_setLcM (i : Nat) {y : Str} {py spos : Pos} (hc : X.calm = true) (hN : X.N.Nodup) (hy : X.N[i]? = some y) (hyl : X.env.scope.names.lookup y = some .local)
    (hsw : swapsWith (.ListComp elt [⟨tg, iter, ifs, 0⟩] scope pos) (some (.Name y py)) spos.line X.env = pure true) (hi : PDI X tg iter wi) (ok : BlkOk X.N X.env.scope scope own)
    (hg : ∀ (s : Shared) (H : Hp) (C : Addr) (cl : List (Str × Addr)) (fp : List Addr), PDGw (X.blk s H scope (compEnvC scope cl C X.env) fp) (own.map (·.2)) tg g) (ht : ∀ (s : Shared) (H : Hp) (C : Addr) (cl : List (Str × Addr)) (fp : List Addr), PDTs (X.blk s H scope (compEnvC scope cl C X.env) fp) ifs wt)
    (he : ∀ (s : Shared) (H : Hp) (C : Addr) (cl : List (Str × Addr)) (fp : List Addr), PD (X.blk s H scope (compEnvC scope cl C X.env) fp) elt we) (hs : ∀ x, foldedSetIterable iter X.env x = pure x := by intro _; rfl) : PDS X (.Assign [.Name y py] (.ListComp elt [⟨tg, iter, ifs, 0⟩] scope pos) spos) (wAsg (wLcM wi g wt we (own.map (·.2))) (gN i)) :=
  ps_imp (ps_setLc (g := tDGw X.K (own.map (fun z : Str × Nat => z.2)) g) (tt := tDT X.K wt) (te := tD X.K we) hc hN hy hyl hsw hi ok hg ht he hs) fun D st H ⟨F, dl, M, P, so, at0, hw, po⟩ =>
    tD_lcM ⟨F, dl, M, _, so, at0, hw, fun v F1 H1 r M1 h1 g1 i1 => po.nx _ F1 H1 _ M1 h1 g1 (sok_set (sok_mono g1.ex so) i1)⟩
end
end

/-! ### defs -/
/-- a def's promise by data -/
abbrev Cn := List Sl → Mem → RK → Prop
def spD (K : PySem.W.Frag) (cn : Cn) : List V → Hp → VK → Prop := fun vs H Q => ∃ F M rs R, IsAll K F rs vs ∧ At K F M H ∧ cn rs M R ∧ Po K F M H R Q
structure FnD (P : Program) (w : World) (K : PySem.W.Frag) (mg : Str → Option Value) (base : Heap) (k : Nat) (f : Addr) (fd : FuncData) (ps : List Str) (cn : Cn) : Prop where
  len : ∀ rs M R, cn rs M R → rs.length = ps.length
  run : ∀ (A : Around) (outer : List Env) (s : Shared) (H : Hp) (args : Args) (us : List Value) (vs : List V) (Q : VK), A.guards = some [] → Room k A → Env0 P w K mg base A outer s H → BindsTo s fd args (ps.zip us) → Vals vs us → spD K cn vs H Q →
    codeAny (model P w) A (.call (.ref f) args) (CR CX0 outer P w H s Q E0) s
/-- what a result may be seen as: less memory, a list that stays -/
def Vw (M : Mem) (r : Sl) (M' : Mem) (r' : Sl) : Prop := ∀ (K : PySem.W.Frag) (F H : Hp) (v : V), At K F M H → Is K F r v → ∃ F', Go K F M H F' M' H ∧ Is K F' r' v
theorem Vw.le {M M' : Mem} {r : Sl} (h : Le M' M) : Vw M r M' r := fun K F H v at0 i => ⟨F, (Go.refl at0).le h, i⟩
theorem Vw.refl (M : Mem) (r : Sl) : Vw M r M r := Vw.le (Le.refl M)
theorem Vw.frz {M M' : Mem} {p : Addr} {ds : List PyData} (e : M p = some (.lst (ds.map Sl.d))) (hl : Le M' M) (hp : M' p = none) : Vw M (.v (.ref p)) M' (.d (.list ds)) := fun K F H v at0 i => by
  obtain ⟨F', g, d⟩ := Go.freeze at0 e hl hp
  have i' : v = .ref p := i
  subst i'
  exact ⟨F', g, d⟩
/-- the wish at a def's end -/
def upR (R : RK) : RK := fun r M => ∃ r' M', Vw M r M' r' ∧ R r' M'
theorem upR.of {R : RK} {r : Sl} {M : Mem} (h : R r M) : upR R r M := ⟨r, M, Vw.refl M r, h⟩
theorem upR.le {R : RK} {r : Sl} {M M' : Mem} (h : R r M) (l : Le M M') : upR R r M' := ⟨r, M, Vw.le l, h⟩
theorem Po.up {K : PySem.W.Frag} {F H : Hp} {M : Mem} {R : RK} {Q : VK} (h : Po K F M H R Q) : Po K F M H (upR R) Q := fun v F' H' r M' ⟨r2, M2, vw, hR⟩ g i => by
  obtain ⟨F2, g2, i2⟩ := vw K F' H' v g.at' i
  exact h v F2 H' r2 M2 hR (g.trans g2) i2
def startD (N : List Str) (rs : List Sl) : Env' := rs.map some ++ List.replicate (N.length - rs.length) none
/-- the wishes around a def's body -/
def bodyK (R : RK) : PK := { nx := fun _ M => upR R .n M, rt := upR R }
section
variable {P : Program} {w : World} {K : PySem.W.Frag} {mg : Str → Option Value} {base : Heap}
/-- THE RULE for a def -/
theorem fnD_of {x qual : Str} {st : Stmt} {f : Addr} {fd : FuncData} {N ps : List Str} {k : Nat} {cn : Cn} (Fu : Fun K x qual st f fd) (S : FnScope N ps (defScope st)) (len : ∀ rs M R, cn rs M R → rs.length = ps.length)
    (hbody : ∀ (cdv : Value) (A : Around) (outer : List Env) (s : Shared) (H : Hp), A.guards = some [] → Room k (A.deeper (envOfC qual (defScope st) s.heap.objs.size f cdv)) →
      ∃ wb : WS, PDB (cxOf CX0 P w K mg base N qual (defScope st) f cdv A outer s H E0).nox (defBody st) wb ∧ ∀ rs M R, cn rs M R → wb (bodyK R) (startD N rs) M) : FnD P w K mg base (k + 1) f fd ps cn := by
  obtain ⟨oc, od, kV, doc, pm, an, cdv, ct, osl, rfl, lk, hcd⟩ := Fu.ex
  refine ⟨len, fun A outer s H args us vs Q hgd hr e0 hb r hsp => ?_⟩
  obtain ⟨F, M, rs, R, ia, at0, hcn, po⟩ := hsp
  have hl : vs.length = ps.length := ia.length.symm.trans (len rs M R hcn)
  have KX : K.In s.heap := e0.mod.kin.keeps fun b o e => (e0.bs b o e).1
  have lim : s.heap.NoLimit := e0.mod.nolimit.keeps fun b o e => (e0.bs b o e).1
  refine codeAny_call_function hr.depth (KX _ _ lk) rfl S.co S.gen rfl (PySem.W.codeRec_of KX hcd) (hb _ _ _ _ ?_)
  refine wpAny_newFunctionEnv_cells S.kind (fun y hy => ?_) fun env he s1 ic => ?_
  · rcases S.par y.1 (List.of_mem_zip hy).1 with q | q
    · exact Or.inl q
    · exact Or.inr ⟨q, PySem.W.cellsFrom_some _ _ _ (Or.inl q)⟩
  subst he
  refine ⟨lim.keeps ic.toInCall.keep, codeAny_func ?_⟩
  obtain ⟨wb, hB, hW⟩ := hbody cdv A outer s H hgd (hr.deeper _)
  have I := inv_start (CX := CX0) (E := E0) (qual := qual) (f := f) (cd := cdv) S hr.hd e0 hl r ic
  have rd : tDS K wb { nx := fun _ H' => Q .non H', rt := Q } (start N vs) H :=
    ⟨F, startD N rs, M, bodyK R, by unfold startD L2.start; rw [ia.length]; exact sok_start ia _, at0, hW rs M R hcn,
      ⟨fun st' F' H' dl' M' h g _ => po.up V.non F' H' _ M' h g .non, po.up, fun _ _ _ _ _ h => h.elim, fun _ _ _ _ _ h => h.elim⟩⟩
  refine wpAny_mono ((PSs.nox hB).run [] s1 (start N vs) H _ I rd) (fun fl s' hs => ?_) fun e s' hs => hs
  cases fl with
  | ret u =>
    obtain ⟨v, sg, H', Jn, rv, q⟩ := hs
    exact ⟨v, H', Jn.os, Jn.bare, Jn.base, Jn.hok, rv, q⟩
  | next =>
    obtain ⟨sg, H', Jn, q⟩ := hs
    exact ⟨V.non, H', Jn.os, Jn.bare, Jn.base, Jn.hok, rfl, q⟩
  | brk => obtain ⟨_, _, _, q⟩ := hs; exact q.elim
  | cont => obtain ⟨_, _, _, q⟩ := hs; exact q.elim
theorem FnD.mono {j k : Nat} {f : Addr} {fd : FuncData} {ps : List Str} {cn : Cn} (G : FnD P w K mg base j f fd ps cn) (h : j ≤ k) : FnD P w K mg base k f fd ps cn :=
  ⟨G.len, fun A outer s H args us vs Q hg hr => G.run A outer s H args us vs Q hg (hr.mono h)⟩
theorem FnD.imp {k : Nat} {f : Addr} {fd : FuncData} {ps : List Str} {cn cn' : Cn} (G : FnD P w K mg base k f fd ps cn) (h : ∀ rs M R, cn' rs M R → cn rs M R) : FnD P w K mg base k f fd ps cn' :=
  ⟨fun rs M R q => G.len rs M R (h rs M R q), fun A outer s H args us vs Q hg hr he hb hv ⟨F, M, rs, R, a, b, c, d⟩ => G.run A outer s H args us vs Q hg hr he hb hv ⟨F, M, rs, R, a, b, h rs M R c, d⟩⟩
end
section
variable {X : Cx} {k : Nat} {f : Addr} {fd : FuncData} {ps ks : List Str} {cn : Cn} {x : Str} {p pos : Pos} {e : Expr} {es : List Expr} {wa : WA}
theorem run_fnD {pins : List (Addr × Obj)} {st : St} {H : Hp} {s : Shared} {Q : VK} {us : List Value} {kw : List (Str × Value)} {bs : List Value} {vs : List V} (G : FnD X.prog X.w X.K X.mg X.base k f fd ps cn) (hgd : X.A.guards = some []) (hr : Room k X.A) (hb : BindsTo s fd ⟨us, kw⟩ (ps.zip bs))
    (I : Inv X pins st H s) (r : Vals vs bs) (h : spD X.K cn vs H Q) : wpAny (model X.prog X.w) X.A (call (.ref f) us kw) (EP X pins st Q) X.xe s := by
  refine wpAny_call (codeAny_mono (G.run X.A X.stack s H ⟨us, kw⟩ bs vs Q hgd hr I.env0 hb r h) fun rr s' hq => ?_)
  cases rr with
  | error er => exact False.elim hq
  | ok fl => cases fl with
    | ret u => exact I.after hq
    | next => exact False.elim hq
    | brk => exact False.elim hq
    | cont => exact False.elim hq
theorem spD_of {vs : List V} {F H : Hp} {M : Mem} {rs : List Sl} {R : RK} {Q : VK} (at0 : At X.K F M H) (i : IsAll X.K F rs vs) (h : cn rs M R) (po : Po X.K F M H R Q) : spD X.K cn vs H Q := ⟨F, M, rs, R, i, at0, h, po⟩
theorem FnD.lenV {vs : List V} {H : Hp} {Q : VK} (G : FnD X.prog X.w X.K X.mg X.base k f fd ps cn) (h : spD X.K cn vs H Q) : vs.length = ps.length := by
  obtain ⟨F, M, rs, R, i, _, c, _⟩ := h
  exact i.length.symm.trans (G.len rs M R c)
/-- f(e, ..) -/
theorem pd_call (G : FnD X.prog X.w X.K X.mg X.base k f fd ps cn) (hgd : X.A.guards = some []) (hr : Room k X.A) (hg : Gl X x) (hm : X.mg x = some (.ref f)) (hk : PySem.W.keepIn X.K (.ref f) = true) (hb : Binds X.K fd ps []) (ha : PDA X (e :: es) wa)
    (hdb : (x == ("__debug__" : Str)) = false := by decide) (he : starEach (e :: es) X.env = (false, eval e X.env) :: starEach es X.env := by rfl) (hpl : (backTo pos (starEach es X.env)).any (·.1) = false := by rfl) : PD X (.Call (.Name x p) (e :: es) [] pos) (wCall cn wa) := by
  refine ⟨fun pins s st H Q I h => ?_⟩
  obtain ⟨F, dl, M, R, so, at0, hw, po⟩ := h
  refine wpAny_Call_Name_kw (ld_glob I hg hm ?_ hdb)
  refine PySem.W.callWith_K (h₀ := X.base) I.ok.mod.kin hk (thn (PA.run ha pos pins s st H _ I (tDA_to (Q := fun vs H' => spD X.K cn vs H' Q) so at0 hw fun vs F1 H1 rs M1 h1 g1 so1 at1 i1 => spD_of at1 i1 h1 (po.mono g1))) fun us s1 ⟨vs, H1, I1, r1, q1⟩ => ?_) he hpl
  have hl := G.lenV q1
  have hb1 := hb s1 us I1.kIn (by rw [List.append_nil, ← r1.length]; exact hl)
  rw [List.append_nil] at hb1
  exact ⟨I1.kIn, run_fnD G hgd hr hb1 I1 r1 q1⟩
end
end DL

set_option Elab.async false
set_option linter.all false
set_option maxRecDepth 100000
set_option maxHeartbeats 4000000
/-! DF: repr, isinstance, all, any, sorted, methods of lists, stores by place. -/
namespace DL
open PySem PySem.Spec L2
open Evl (Ex)

/-! ### repr -/
section
variable {X : Cx}
def rRepr (K : PySem.W.Frag) : List V → Hp → VK → Prop := fun xs H Q => ∃ v d, xs = [v] ∧ Dp K H v d ∧ d.canLay0 = true ∧ d.depth ≤ 40 ∧ d.showable = true ∧ d.shown.length ≤ sizeLine ∧ Q (.str d.shown) H
theorem call_reprD (hgd : X.A.guards = some []) (hu : X.A.units + 64 < cLine) : CallR X (.builtin "repr") (rRepr X.K) := by
  intro pins s st H xs us Q I r h
  obtain ⟨v, d, rfl, hd, hc, hdep, hs, hz, q⟩ := h
  obtain ⟨u, rfl, ru⟩ := vals1 r
  obtain ⟨as, rd⟩ := Dp.reads I d v u hd ru
  have fin : ∀ (h' : Heap) (t : Tok) (tk : Nat), (∀ b o, s.heap.get? b = some o → h'.get? b = some o) → EP X pins st Q (.str d.shown t) { s with heap := h', toks := tk } := fun h' t tk hk => ⟨.str d.shown, H, I.kept hk, ⟨t, rfl⟩, q⟩
  cases u with
  | ref a => exact repr_of_reads' rd hs (PyData.noDict_hsm (PyData.hasDict_of_canLay d hc)) hgd (by omega) (fun _ _ e => e) (fun h' t tk hk => fin h' t tk hk) hz
  | none => cases rd; exact PySem.P.repr_of_none (fin s.heap _ _ fun _ _ e => e)
  | bool b => cases rd; exact PySem.P.repr_of_bool (fin s.heap _ _ fun _ _ e => e)
  | int i t => cases rd; exact PySem.P.repr_of_int (of_decide_eq_true (by simpa [PyData.showable] using hs)) (fin s.heap _ _ fun _ _ e => e)
  | str x t => cases rd; exact PySem.P.repr_of_str (fin s.heap _ _ fun _ _ e => e) hz
  | _ => cases rd
/-- data that repr takes -/
def Shw (d : PyData) : Prop := d.canLay0 = true ∧ d.depth ≤ 40 ∧ d.showable = true ∧ d.shown.length ≤ sizeLine
abbrev gRepr : Sl → Mem → RK → Prop := fun r M R => match r with
  | .d x => Shw x ∧ R (.s x.shown) M
  | _ => False
theorem c_repr (hgd : X.A.guards = some []) (hu : X.A.units + 64 < cLine) : CaD X (.builtin "repr") (g1 gRepr) := ca1 fun F H M v r R Q at0 i1 h1 po => by
  unfold gRepr at h1
  split at h1
  · obtain ⟨⟨a, b, c, d⟩, hR⟩ := h1
    exact ⟨_, call_reprD hgd hu, v, _, rfl, dq_up at0.ex i1, a, b, c, d, po _ F H _ M hR (Go.refl at0) (.str _)⟩
  · exact h1.elim

/-! ### isinstance -/
def tyOf : PyData → String
  | .none => "NoneType"
  | .bool _ => "bool"
  | .int _ => "int"
  | .str _ => "str"
  | .list _ => "list"
  | .tuple _ => "tuple"
  | .dict _ => "dict"
theorem tyOf_at {K : PySem.W.Frag} {F H : Hp} (e : Ex F H) {v : V} {d : PyData} (h : Dq K F v d) : TyX K H v (.type (tyOf d)) := by
  cases h with
  | non => exact .base .non
  | bl b => exact .base (.bl b)
  | int i => exact .base (.int i)
  | str x => exact .base (.str x)
  | lst h1 h2 => exact .base (.lst (e _ _ h1))
  | tup h1 h2 =>
    rcases h1 with ⟨o, q, _⟩ | ⟨o, ws, n, q, q2, q3⟩
    · exact .fTuple (e _ _ q)
    · exact .kTuple q q2
/-- the built-in classes that are asked for -/
def isT (T : String) (d : PyData) : Bool := tyOf d == T || (T == "int" && tyOf d == "bool")
def askT : List String := ["int", "bool", "str", "list", "tuple", "dict"]
theorem kit_isT : ∀ d : PyData, ∀ T ∈ askT, kitB (tyOf d) T = some (isT T d) := by
  have h : ∀ a ∈ (["NoneType", "bool", "int", "str", "list", "tuple", "dict"] : List String), ∀ T ∈ askT, kitB a T = some (a == T || (T == "int" && a == "bool")) := by decide +kernel
  intro d T hT
  have := h (tyOf d) (by cases d <;> simp [tyOf]) T hT
  exact this
abbrev gIsi : WCl := fun rs M R => match rs with
  | [.d x, .v (.ty T)] => T ∈ askT ∧ R (.b (isT T x)) M
  | _ => False
theorem c_isi : CaD X (.builtin "isinstance") gIsi := caD_of fun F H M vs rs R Q at0 i1 h1 po => by
  unfold gIsi at h1
  split at h1
  · obtain ⟨v, u, rfl, i2, i3⟩ := isAll2 i1
    have i4 : u = .ty _ := i3
    subst i4
    exact ⟨_, call_isi, v, .ty _, _, _, _, rfl, .ty _, tyOf_at at0.ex i2, kit_ty (kit_isT _ _ h1.1), po _ F H _ M h1.2 (Go.refl at0) (.bl _)⟩
  · exact h1.elim
theorem pd_ty {x : Str} {T : String} {pos : Pos} (hg : Gl X x) (hm : X.mg x = none) (hv : bootBuiltins x = some (.type T)) (hn : x ≠ "__name__" := by decide) (hd : (x == ("__debug__" : Str)) = false := by decide) : PD X (.Name x pos) (wC (.v (.ty T))) :=
  pe_imp (pe_bltn (v := .ty T) hg hm hv rfl hn hd) fun st H Q ⟨F, dl, M, R, so, at0, hw, po⟩ => po _ F H _ M hw (Go.refl at0) rfl
/-- isinstance(e, (S, T)) -/
abbrev wIsi2 (S T : String) (we : WE) : WE := fun dl M R => we dl M fun r M1 => match r with
  | .d x => R (.b (isT S x || isT T x)) M1
  | _ => False
theorem pd_isi2 {S T : String} {xs xt : Str} {e : Expr} {we : WE} {p ps pt pp pos : Pos} {k : Nat} (hS : S ∈ askT) (hT : T ∈ askT) (he : PD X e we) (hg : Gl X "isinstance") (hm : X.mg "isinstance" = none)
    (gS : Gl X xs) (mS : X.mg xs = none) (vS : bootBuiltins xs = some (.type S)) (gT : Gl X xt) (mT : X.mg xt = none) (vT : bootBuiltins xt = some (.type T))
    (nS : xs ≠ "__name__" := by decide) (dS : (xs == ("__debug__" : Str)) = false := by decide) (nT : xt ≠ "__name__" := by decide) (dT : (xt == ("__debug__" : Str)) = false := by decide)
    (he1 : starEach [e, .Tuple [.Name xs ps, .Name xt pt] k pp] X.env = (false, eval e X.env) :: starEach [.Tuple [.Name xs ps, .Name xt pt] k pp] X.env := by rfl)
    (hpl : (backTo pos (starEach [.Tuple [.Name xs ps, .Name xt pt] k pp] X.env)).any (·.1) = false := by rfl)
    (he2 : starEach [.Tuple [.Name xs ps, .Name xt pt] k pp] X.env = (false, eval (.Tuple [.Name xs ps, .Name xt pt] k pp) X.env) :: starEach [] X.env := by rfl)
    (he3 : starEach [.Name xs ps, .Name xt pt] X.env = (false, eval (.Name xs ps) X.env) :: starEach [.Name xt pt] X.env := by rfl)
    (he4 : starEach [.Name xt pt] X.env = (false, eval (.Name xt pt) X.env) :: starEach [] X.env := by rfl) :
    PD X (.Call (.Name "isinstance" p) [e, .Tuple [.Name xs ps, .Name xt pt] k pp] [] pos) (wIsi2 S T we) := by
  refine pe_imp (pe_callB call_isiT hg hm (by decide +kernel) (pa_cons he (pa_cons (pe_tup (pa_cons (pe_bltn (v := .ty S) gS mS vS rfl nS dS) (pa_cons (pe_bltn (v := .ty T) gT mT vT rfl nT dT) pa_nil he4) he3)) pa_nil he2) he1) (by decide) (by decide) he1 hpl) fun st H Q ⟨F, dl, M, R, so, at0, hw, po⟩ => ?_
  refine tD_to so at0 hw fun v F1 H1 r M1 h1 g1 so1 at1 i1 => ?_
  split at h1
  · rename_i x
    refine ⟨by show 2 ≤ sizeLine; decide, fun q hq => ?_⟩
    have at2 : At X.K F1 M1 (upd H1 q (.tup [.ty S, .ty T])) := at1.hid (at1.freeF hq) (at1.freeM hq)
    have g2 : Go X.K F1 M1 H1 F1 M1 (upd H1 q (.tup [.ty S, .ty T])) := ⟨Ex.refl _, at2, fun a o z1 z2 z3 => ⟨by rw [upd_ne (ne_of_none z1 hq)]; exact z1, z2, z3⟩⟩
    refine ⟨v, q, [.ty S, .ty T], _, [.type S, .type T], isT S x || isT T x, rfl, upd_same, .cons (.ty S) (.cons (.ty T) .nil), tyOf_at at2.ex i1, ?_, po _ F1 _ _ M1 h1 (g1.trans g2) (.bl _)⟩
    refine kitAny_cons (kit_ty (kit_isT x S hS)) (fun e1 => kitAny_cons (kit_ty (kit_isT x T hT)) (fun e2 => ?_) fun e2 => ?_) fun e1 => ?_
    · rw [e1, e2]; exact kitAny_nil
    · rw [e1, e2]; rfl
    · rw [e1]; rfl
  · exact h1.elim

/-! ### all, any of a list of truths -/
def blsOf : List Sl → Option (List Bool)
  | [] => some []
  | .d (.bool b) :: r => (blsOf r).map (b :: ·)
  | _ => none
theorem blsOf_at {K : PySem.W.Frag} {F : Hp} : ∀ {ss : List Sl} {bs : List Bool} {vs : List V}, blsOf ss = some bs → IsAll K F ss vs → vs = bs.map V.bl
  | [], _, _, h, i => by cases h; cases i; rfl
  | .d (.bool b) :: r, bs, vs, h, i => by
    simp only [blsOf, Option.map_eq_some_iff] at h
    obtain ⟨rs, h1, rfl⟩ := h
    cases i with
    | cons i1 i2 => rw [dq_bl i1, blsOf_at h1 i2]; rfl
abbrev gAll : Sl → Mem → RK → Prop := fun r M R => ∃ ss bs, lsOf M r = some ss ∧ blsOf ss = some bs ∧ R (.b (bs.all id)) M
abbrev gAny : Sl → Mem → RK → Prop := fun r M R => ∃ ss bs, lsOf M r = some ss ∧ blsOf ss = some bs ∧ R (.b (bs.any id)) M
theorem c_all (hc : X.calm = true) : CaD X (.builtin "all") (g1 gAll) := ca1 fun F H M v r R Q at0 i1 h1 po => by
  obtain ⟨ss, bs, e1, e2, hR⟩ := h1
  obtain ⟨a, vs, rfl, q1, q2⟩ := lsOf_at at0 i1 e1
  have e3 := blsOf_at e2 q2
  subst e3
  exact ⟨_, cr_all hc, a, bs, rfl, SqL.of q1, po _ F H _ M hR (Go.refl at0) (.bl _)⟩
theorem c_any (hc : X.calm = true) : CaD X (.builtin "any") (g1 gAny) := ca1 fun F H M v r R Q at0 i1 h1 po => by
  obtain ⟨ss, bs, e1, e2, hR⟩ := h1
  obtain ⟨a, vs, rfl, q1, q2⟩ := lsOf_at at0 i1 e1
  have e3 := blsOf_at e2 q2
  subst e3
  exact ⟨_, cr_any hc, a, bs, rfl, SqL.of q1, po _ F H _ M hR (Go.refl at0) (.bl _)⟩

/-! ### sorted of ints -/
def insI (x : Int) : List Int → List Int
  | [] => [x]
  | y :: r => if x ≤ y then x :: y :: r else y :: insI x r
def srtI : List Int → List Int
  | [] => []
  | x :: r => insI x (srtI r)
theorem insI_perm (x : Int) : ∀ l : List Int, (insI x l).Perm (x :: l)
  | [] => List.Perm.refl _
  | y :: r => by
    unfold insI
    split
    · exact List.Perm.refl _
    · exact ((insI_perm x r).cons y).trans (List.Perm.swap x y r)
theorem srtI_perm : ∀ l : List Int, (srtI l).Perm l
  | [] => List.Perm.refl _
  | x :: r => (insI_perm x (srtI r)).trans ((srtI_perm r).cons x)
theorem insI_sorted (x : Int) : ∀ l : List Int, l.Pairwise (· ≤ ·) → (insI x l).Pairwise (· ≤ ·)
  | [], _ => List.pairwise_singleton _ _
  | y :: r, h => by
    unfold insI
    have hy := List.pairwise_cons.mp h
    split
    · rename_i hx
      refine List.pairwise_cons.mpr ⟨fun z hz => ?_, h⟩
      rcases List.mem_cons.mp hz with rfl | hz
      · exact hx
      · exact Int.le_trans hx (hy.1 z hz)
    · rename_i hx
      refine List.pairwise_cons.mpr ⟨fun z hz => ?_, insI_sorted x r hy.2⟩
      rcases List.mem_cons.mp ((insI_perm x r).mem_iff.mp hz) with rfl | hz
      · omega
      · exact hy.1 z hz
theorem srtI_sorted : ∀ l : List Int, (srtI l).Pairwise (· ≤ ·)
  | [] => List.Pairwise.nil
  | x :: r => insI_sorted x _ (srtI_sorted r)
theorem sorted_one : ∀ {l m : List Int}, l.Perm m → l.Pairwise (· ≤ ·) → m.Pairwise (· ≤ ·) → l = m
  | [], m, p, _, _ => (List.Perm.eq_nil p.symm).symm
  | x :: l, [], p, _, _ => absurd p.length_eq (by simp)
  | x :: l, y :: m, p, hl, hm => by
    have h1 := List.pairwise_cons.mp hl
    have h2 := List.pairwise_cons.mp hm
    have e : x = y := by
      have a : y ≤ x := by
        rcases List.mem_cons.mp (p.mem_iff.mp List.mem_cons_self) with e | e
        · omega
        · exact h2.1 x e
      have b : x ≤ y := by
        rcases List.mem_cons.mp (p.mem_iff.mpr List.mem_cons_self) with e | e
        · omega
        · exact h1.1 y e
      omega
    subst e
    rw [sorted_one p.cons_inv h1.2 h2.2]
def intsOf : List Sl → Option (List Int)
  | [] => some []
  | .d (.int b) :: r => (intsOf r).map (b :: ·)
  | _ => none
theorem intsOf_at {K : PySem.W.Frag} {F : Hp} : ∀ {ss : List Sl} {bs : List Int} {vs : List V}, intsOf ss = some bs → IsAll K F ss vs → vs = bs.map V.int
  | [], _, _, h, i => by cases h; cases i; rfl
  | .d (.int b) :: r, bs, vs, h, i => by
    simp only [intsOf, Option.map_eq_some_iff] at h
    obtain ⟨rs, h1, rfl⟩ := h
    cases i with
    | cons i1 i2 => rw [dq_int i1, intsOf_at h1 i2]; rfl
theorem intsOf_map (ns : List Int) : intsOf (ns.map fun n => Sl.i n) = some ns := by
  induction ns with
  | nil => rfl
  | cons a r ih => simp only [List.map_cons, intsOf, ih, Option.map_some]
theorem dqAll_ints {K : PySem.W.Frag} {F : Hp} : ∀ ns : List Int, DqAll K F (ns.map V.int) (ns.map PyData.int)
  | [] => .nil
  | n :: r => .cons (.int n) (dqAll_ints r)
abbrev gSorted : Sl → Mem → RK → Prop := fun r M R => ∃ ss ns, lsOf M r = some ss ∧ intsOf ss = some ns ∧ ns.length < 64 ∧ R (.d (.list ((srtI ns).map PyData.int))) M
theorem c_sorted : CaD X (.builtin "sorted") (g1 gSorted) := ca1 fun F H M v r R Q at0 i1 h1 po => by
  obtain ⟨ss, ns, e1, e2, hz, hR⟩ := h1
  obtain ⟨a, vs, rfl, q1, q2⟩ := lsOf_at at0 i1 e1
  have e3 := intsOf_at e2 q2
  subst e3
  refine ⟨_, cr_sorted, a, ns, rfl, SqL.of q1, hz, fun ns' p hp hs hn => ?_⟩
  have e4 := sorted_one (hp.trans (srtI_perm ns).symm) hs (srtI_sorted ns)
  subst e4
  exact po_dat at0 po hn hR fun F' e h => .lst h (dqAll_ints _)

/-! ### methods of lists -/
abbrev wLMeth (g : Sl → List Sl → Mem → RK → Prop) (wo : WE) (wa : WA) : WE := fun dl M R => wo dl M fun r M1 => (∃ ss, lsOf M1 r = some ss) ∧ wa dl M1 fun rs M2 => g r rs M2 R
abbrev gAppend : Sl → List Sl → Mem → RK → Prop := fun r rs M R => match r, rs with
  | .v (.ref p), [x] => ∃ ss, M p = some (.lst ss) ∧ ss.length < sizeLine ∧ R .n (upM M p (.lst (ss ++ [x])))
  | _, _ => False
abbrev gPop : Sl → List Sl → Mem → RK → Prop := fun r rs M R => match r, rs with
  | .v (.ref p), [] => ∃ ss x, M p = some (.lst ss) ∧ ss[ss.length - 1]? = some x ∧ R x (upM M p (.lst ss.dropLast))
  | _, _ => False
abbrev gPopAt : Sl → List Sl → Mem → RK → Prop := fun r rs M R => match r, rs with
  | .v (.ref p), [.d (.int i)] => ∃ ss x, M p = some (.lst ss) ∧ 0 ≤ i ∧ i < 2 ^ 62 ∧ ss[i.toNat]? = some x ∧ R x (upM M p (.lst (ss.eraseIdx i.toNat)))
  | _, _ => False
theorem all2_dropLast {A B : Type} {R : A → B → Prop} {as : List A} {bs : List B} (h : All2 R as bs) : All2 R as.dropLast bs.dropLast := by
  rw [List.dropLast_eq_take, List.dropLast_eq_take, h.length]
  exact h.take _
theorem tBM_of {K : PySem.W.Frag} {g : Sl → List Sl → Mem → RK → Prop} {r : V → List V → Hp → VK → Prop} {wo : WE} {wa : WA}
    (hr : ∀ (F H : Hp) (M : Mem) (v : V) (vs : List V) (x : Sl) (rs : List Sl) (R : RK) (Q : VK), At K F M H → Is K F x v → IsAll K F rs vs → g x rs M R → Po K F M H R Q → r v vs H Q) {st : St} {H : Hp} {Q : VK} (h : tD K (wLMeth g wo wa) st H Q) : tBM K "list" r (tD K wo) (tDA K wa) st H Q := by
  obtain ⟨F, dl, M, R, so, at0, hw, po⟩ := h
  refine tD_to so at0 hw fun v F1 H1 x M1 h1 g1 so1 at1 i1 => ?_
  obtain ⟨⟨ss, e1⟩, h1⟩ := h1
  obtain ⟨a, vs, rfl, q1, q2⟩ := lsOf_at at1 i1 e1
  refine ⟨.inl ⟨rfl, vs, SqL.of q1⟩, ?_⟩
  exact tDA_to so1 at1 h1 fun us F2 H2 rs M2 h2 g2 so2 at2 i2 => hr F2 H2 M2 _ us x rs R Q at2 (is_mono g2.ex i1) i2 h2 (po.mono (g1.trans g2))
section
variable {o e : Expr} {wo : WE} {wa : WA} {apos cpos : Pos}
theorem pd_append (ho : PD X o wo) (ha : PDA X [e] wa) (hbase : attributeBase o "append" X.env (eval o X.env) = eval o X.env := by rfl)
    (hfew : ((backTo cpos (starEach [e] X.env)).all (fun x => !x.1) && (backToKw cpos (keywordEach [] X.env)).all (fun x => x.1.isSome) && decide ([e].length + ([] : List Keyword).length + (if ([] : List Keyword).isEmpty then 0 else 1) < 30)) = true := by rfl)
    (hline : (apos.endLine == cpos.line) = true := by rfl) (hs : starEach [e] X.env = (false, eval e X.env) :: starEach [] X.env := by rfl) : PD X (.Call (.Attribute o "append" apos) [e] [] cpos) (wLMeth gAppend wo wa) := by
  refine pe_imp (pe_bm PySem.F.plainAttrs_list PySem.F.slot_list_append PySem.F.type_list_append mt_append ho ha hbase hfew hline hs rfl) fun st H Q h => tBM_of (fun F H M v vs x rs R Q at0 i1 i2 hg po => ?_) h
  unfold gAppend at hg
  split at hg
  · rename_i p y
    obtain ⟨ss, m, hz, hR⟩ := hg
    obtain ⟨u, rfl, i3⟩ := isAll1 i2
    have i4 : v = .ref p := i1
    subst i4
    obtain ⟨f, us, q1, q2⟩ := at0.mem p _ m
    exact ⟨p, us, u, rfl, rfl, q1, by rw [← q2.length]; exact hz, po _ F _ _ _ hR (Go.put at0 m ⟨_, upd_same, q2.append (.cons i3 .nil)⟩) .non⟩
  · exact hg.elim
theorem pd_popAt (ho : PD X o wo) (ha : PDA X [e] wa) (hbase : attributeBase o "pop" X.env (eval o X.env) = eval o X.env := by rfl)
    (hfew : ((backTo cpos (starEach [e] X.env)).all (fun x => !x.1) && (backToKw cpos (keywordEach [] X.env)).all (fun x => x.1.isSome) && decide ([e].length + ([] : List Keyword).length + (if ([] : List Keyword).isEmpty then 0 else 1) < 30)) = true := by rfl)
    (hline : (apos.endLine == cpos.line) = true := by rfl) (hs : starEach [e] X.env = (false, eval e X.env) :: starEach [] X.env := by rfl) : PD X (.Call (.Attribute o "pop" apos) [e] [] cpos) (wLMeth gPopAt wo wa) := by
  refine pe_imp (pe_bm PySem.F.plainAttrs_list PySem.F.slot_list_pop PySem.F.type_list_pop mt_popAt ho ha hbase hfew hline hs rfl) fun st H Q h => tBM_of (fun F H M v vs x rs R Q at0 i1 i2 hg po => ?_) h
  unfold gPopAt at hg
  split at hg
  · rename_i p i
    obtain ⟨ss, y, m, h0, h1, hy, hR⟩ := hg
    obtain ⟨u, rfl, i3⟩ := isAll1 i2
    have i4 : v = .ref p := i1
    subst i4
    obtain ⟨f, us, q1, q2⟩ := at0.mem p _ m
    obtain ⟨z, z1, z2⟩ := q2.get hy
    have hlt : i.toNat < us.length := (List.getElem?_eq_some_iff.mp z1).1
    exact ⟨p, us, i, i.toNat, z, rfl, by rw [dq_int i3], q1, by omega, by omega, seqIndex_of h0 (by omega), z1, po _ F _ _ _ hR (Go.put at0 m ⟨_, upd_same, q2.eraseIdx _⟩) z2⟩
  · exact hg.elim
theorem pd_pop (ho : PD X o wo) (hbase : attributeBase o "pop" X.env (eval o X.env) = eval o X.env := by rfl) (hline : (apos.endLine == cpos.line) = true := by rfl) : PD X (.Call (.Attribute o "pop" apos) [] [] cpos) (wLMeth gPop wo wNil) := by
  refine pe_imp (pe_bm0 PySem.F.plainAttrs_list PySem.F.slot_list_pop PySem.F.type_list_pop mt_pop ho hbase hline) fun st H Q ⟨F, dl, M, R, so, at0, hw, po⟩ => ?_
  refine tD_to so at0 hw fun v F1 H1 x M1 h1 g1 so1 at1 i1 => ?_
  obtain ⟨⟨ss, e1⟩, hg0⟩ := h1
  obtain ⟨a, vs, rfl, q1, q2⟩ := lsOf_at at1 i1 e1
  refine ⟨.inl ⟨rfl, vs, SqL.of q1⟩, ?_⟩
  have hg : gPop x [] M1 R := hg0
  clear hg0
  unfold gPop at hg
  split at hg
  · rename_i p _
    obtain ⟨ss, y, m, hy, hR⟩ := hg
    have i4 : V.ref a = .ref p := i1
    cases i4
    obtain ⟨f, us, q1, q2⟩ := at1.mem a _ m
    rw [q2.length] at hy
    obtain ⟨z, z1, z2⟩ := q2.get hy
    exact ⟨a, us, z, rfl, rfl, q1, z1, (po.mono g1) _ F1 _ _ _ hR (Go.put at1 m ⟨_, upd_same, all2_dropLast q2⟩) z2⟩
  · exact hg.elim
end

/-! ### xs[i] = v -/
abbrev gSetL (wo wi : WE) : WG := fun v dl M R => wo dl M fun r M1 => wi dl M1 fun q M2 => match r, q with
  | .v (.ref p), .d (.int i) => ∃ ss j, M2 p = some (.lst ss) ∧ ixN ss.length i = some j ∧ R dl (upM M2 p (.lst (ss.set j v)))
  | _, _ => False
theorem pdg_setL {o i : Expr} {wo wi : WE} {pos : Pos} (ho : PD X o wo) (hi : PD X i wi)
    (ha : ∀ v, assign (.Subscript o i pos) X.env v = (do
      let ov ← holding [v] (eval o X.env)
      let iv ← holding [v, ov] (eval i X.env)
      standAt pos
      holding [v, ov, iv] (setItem ov iv v)
      release [v, ov, iv] []) := by intro _; rfl) : PDG X (.Subscript o i pos) (gSetL wo wi) := by
  refine pg_imp (pg_sub ho hi set_list ha) fun v st H Q ⟨F, dl, M, r, R, so, at0, i1, hw, po⟩ => ?_
  refine tD_to so at0 hw fun x F1 H1 q M1 h1 g1 so1 at1 j1 => ?_
  refine tD_to so1 at1 h1 fun y F2 H2 z M2 h2 g2 so2 at2 j2 => ?_
  split at h2
  · rename_i p k
    obtain ⟨ss, j, m, hj, hR⟩ := h2
    have e : x = .ref p := j1
    subst e
    obtain ⟨f, us, q1, q2⟩ := at2.mem p _ m
    exact ⟨p, us, k, j, rfl, dq_int j2, q1, by rw [← q2.length]; exact hj, po _ F2 _ _ _ hR ((g1.trans g2).trans (Go.put at2 m ⟨_, upd_same, q2.set (is_mono (g1.trans g2).ex i1) j⟩)) so2⟩
  · exact h2.elim
end
end DL

set_option Elab.async false
set_option linter.all false
set_option maxRecDepth 100000
set_option maxHeartbeats 4000000
/-! DG: + and * by shapes, names of the module, calls of the module's defs. -/
namespace DL
open PySem PySem.Spec L2
open Evl (Ex)
section
variable {X : Cx}
abbrev gPlus : W2 := fun p q M R => match p, q with
  | .d (.int i), .d (.int j) => R (.i (i + j)) M
  | .d (.tuple xs), .d (.tuple ys) => xs.length + ys.length ≤ sizeLine ∧ R (.d (.tuple (xs ++ ys))) M
  | .d (.str a), .d (.str b) => a.length + b.length ≤ sizeLine ∧ R (.s (a ++ b)) M
  | p, q => gCat p q M R
/-- t + u makes a plain tuple, or is one of them -/
theorem op_catF : OpR X (binaryOp .Add) (fun x y H Q => ∃ a b xs ys, x = V.ref a ∧ y = V.ref b ∧ SqT X.K H a xs ∧ SqT X.K H b ys ∧ xs.length + ys.length ≤ sizeLine ∧ (xs = [] → Q (.ref b) H) ∧ (ys = [] → Q (.ref a) H) ∧
    (xs ≠ [] → ys ≠ [] → ∀ p o, o.dict = none → H p = none → Q (.ref p) (upd H p (.frz o (.tup (xs ++ ys)))))) := by
  intro pins s st H x y v u Q I rx ry ⟨a, b, xs, ys, e1, e2, ha, hb, hz, q0, q1, q2⟩
  subst e1 e2
  by_cases hx : xs = []
  · exact op_catA pins s st H _ _ v u Q I rx ry ⟨a, b, xs, ys, rfl, rfl, ha, hb, hz, q0, fun _ e => q1 e, fun z => absurd hx z⟩
  · cases rx
    cases ry
    obtain ⟨us, r1, p1, _⟩ := I.tuple ha
    obtain ⟨ws, r2, p2, _⟩ := I.tuple hb
    have hl1 := r1.length
    have hl2 := r2.length
    refine HT.cat_tup p1 p2 (fun z => hx (r1.nil_iff.mp z)) (fun z => ⟨.ref a, H, I, rfl, q1 (r2.nil_iff.mp z)⟩) (fun z => ?_) (by omega)
    have r3 := r1.append r2
    generalize us ++ ws = cat at r3 ⊢
    let ob : Obj := { cls := .type "tuple", data := .seq cat.toArray }
    have got : (s.heap.push ob).get? s.heap.objs.size = some ob := Heap.get?_push_size _ rfl
    have J : Inv X pins st (upd H s.heap.objs.size (.frz ob (.tup (xs ++ ys)))) { s with heap := s.heap.push ob } := I.laid (t' := s.toks) (fun _ _ e => Heap.get?_push_of_some _ e) (Nat.le_refl _) ⟨got, by rw [List.length_append]; exact hz, cat, r3, ob, got, rfl, _, rfl⟩
    exact ⟨.ref s.heap.objs.size, _, J, rfl, q2 hx (fun w => z (r2.nil_iff.mpr w)) _ ob rfl (I.hok.fresh (Nat.le_refl _))⟩
theorem o_plus : OpD X (binaryOp .Add) gPlus := opD_of fun F H M x y p q R Q at0 h1 h2 h3 po => by
  unfold gPlus at h3
  split at h3
  · exact ⟨_, op_add, _, _, dq_int h1, dq_int h2, po _ F H _ M h3 (Go.refl at0) (.int _)⟩
  · obtain ⟨hz, hR⟩ := h3
    obtain ⟨a, vs, rfl, q1, q2⟩ := sqT_at at0 h1
    obtain ⟨b, us, rfl, q3, q4⟩ := sqT_at at0 h2
    refine ⟨_, op_catF, a, b, vs, us, rfl, rfl, q1, q3, by rw [dqAll_len q2, dqAll_len q4]; exact hz, fun e => ?_, fun e => ?_, fun _ _ c o ho hc => ?_⟩
    · subst e
      cases q2
      exact po _ F H _ M hR (Go.refl at0) h2
    · subst e
      cases q4
      rw [List.append_nil] at hR
      exact po _ F H _ M hR (Go.refl at0) h1
    · exact po_dat at0 po hc hR fun F' e h => .tup (.inl ⟨o, h, ho⟩) (dqAll_mono e (dqAll_app q2 q4))
  · exact ⟨_, op_add_str, _, _, dq_str h1, dq_str h2, h3.1, po _ F H _ M h3.2 (Go.refl at0) (.str _)⟩
  · obtain ⟨r, ho, hr⟩ := o_cat (X := X)
    exact ⟨r, ho, hr F H M x y _ _ R Q at0 h1 h2 h3 po⟩
abbrev gTimes : W2 := fun p q M R => match p, q with
  | .d (.int i), .d (.int j) => ((-(2 ^ 64) < i ∧ i < 2 ^ 64) ∨ (-(2 ^ 64) < j ∧ j < 2 ^ 64)) ∧ R (.i (i * j)) M
  | p, q => gRep p q M R
theorem o_times : OpD X (binaryOp .Mult) gTimes := opD_of fun F H M x y p q R Q at0 h1 h2 h3 po => by
  unfold gTimes at h3
  split at h3
  · exact ⟨_, op_mul, _, _, dq_int h1, dq_int h2, h3.1, po _ F H _ M h3.2 (Go.refl at0) (.int _)⟩
  · obtain ⟨r, ho, hr⟩ := o_rep (X := X)
    exact ⟨r, ho, hr F H M x y _ _ R Q at0 h1 h2 h3 po⟩

/-! ### names of the module -/
theorem pd_gI {x : Str} {i : Int} {pos : Pos} (hg : Gl X x) (h : ∃ t, X.mg x = some (.int i t)) (hd : (x == ("__debug__" : Str)) = false := by decide) : PD X (.Name x pos) (wC (.i i)) := by
  obtain ⟨t, h⟩ := h
  exact pd_c (pe_glob (v := .int i) hg h ⟨t, rfl⟩ hd) fun _ => .int i
theorem pd_gS {x : Str} {i : Str} {pos : Pos} (hg : Gl X x) (h : ∃ t, X.mg x = some (.str i t)) (hd : (x == ("__debug__" : Str)) = false := by decide) : PD X (.Name x pos) (wC (.s i)) := by
  obtain ⟨t, h⟩ := h
  exact pd_c (pe_glob (v := .str i) hg h ⟨t, rfl⟩ hd) fun _ => .str i
/-- a datum of the module's own -/
def GD (K : PySem.W.Frag) (mg : Str → Option Value) (x : Str) (d : PyData) : Prop := ∃ a, mg x = some (.ref a) ∧ ∀ F, Dq K F (.ref a) d
theorem pd_gD {x : Str} {d : PyData} {pos : Pos} (hg : Gl X x) (h : GD X.K X.mg x d) (hd : (x == ("__debug__" : Str)) = false := by decide) : PD X (.Name x pos) (wC (.d d)) := by
  obtain ⟨a, h, hq⟩ := h
  exact pd_c (pe_glob (v := .ref a) hg h rfl hd) hq
/-- a tuple of texts that the top has made -/
theorem gd_strs {K : PySem.W.Frag} {mg : Str → Option Value} {x : Str} {a : Addr} {n : Nat} {sl : Array (Option Value)} {its : Array Value} (ss : List Str) (hm : mg x = some (.ref a)) (hk : K.lookup a = some ⟨.type "tuple", none, .seq its n, sl⟩)
    (hv : Vals (ss.map V.str) its.toList) (hz : its.size ≤ sizeLine) : GD K mg x (.tuple (ss.map PyData.str)) := by
  refine ⟨a, hm, fun F => .tup (.inr ⟨_, its, n, hk, rfl, rfl, hz, hv, rfl⟩) ?_⟩
  clear hv
  induction ss with
  | nil => exact .nil
  | cons s r ih => exact .cons (.str s) ih

/-! ### calls of the module's defs -/
structure Has (P : Program) (w : World) (K : PySem.W.Frag) (mg : Str → Option Value) (base : Heap) (k : Nat) (x : Str) (st : Stmt) (ps : List Str) (cn : Cn) : Prop where
  ex : ∃ f fd, mg x = some (.ref f) ∧ Fun K x x st f fd ∧ Binds K fd ps [] ∧ FnD P w K mg base k f fd ps cn
theorem Has.mono {P : Program} {w : World} {K : PySem.W.Frag} {mg : Str → Option Value} {base : Heap} {j k : Nat} {x : Str} {st : Stmt} {ps : List Str} {cn : Cn} (h : Has P w K mg base j x st ps cn) (l : j ≤ k) : Has P w K mg base k x st ps cn := by
  obtain ⟨f, fd, a, b, c, d⟩ := h.ex
  exact ⟨f, fd, a, b, c, d.mono l⟩
theorem Has.imp {P : Program} {w : World} {K : PySem.W.Frag} {mg : Str → Option Value} {base : Heap} {k : Nat} {x : Str} {st : Stmt} {ps : List Str} {cn cn' : Cn} (h : Has P w K mg base k x st ps cn) (i : ∀ rs M R, cn' rs M R → cn rs M R) : Has P w K mg base k x st ps cn' := by
  obtain ⟨f, fd, a, b, c, d⟩ := h.ex
  exact ⟨f, fd, a, b, c, d.imp i⟩
variable {k : Nat} {x : Str} {st : Stmt} {ps : List Str} {cn : Cn} {p pos : Pos} {e : Expr} {es : List Expr} {wa : WA}
theorem pd_fn (h : Has X.prog X.w X.K X.mg X.base k x st ps cn) (hgd : X.A.guards = some []) (hr : Room k X.A) (hg : Gl X x) (ha : PDA X (e :: es) wa)
    (hdb : (x == ("__debug__" : Str)) = false := by decide) (he : starEach (e :: es) X.env = (false, eval e X.env) :: starEach es X.env := by rfl) (hpl : (backTo pos (starEach es X.env)).any (·.1) = false := by rfl) : PD X (.Call (.Name x p) (e :: es) [] pos) (wCall cn wa) := by
  obtain ⟨f, fd, a, b, c, d⟩ := h.ex
  exact pd_call d hgd hr hg a b.kp c ha hdb he hpl
/-- keywords -/
def PDK (X : Cx) (kws : List Keyword) (w : WA) : Prop := L2.PK X kws (tDA X.K w)
theorem pk_imp {kws : List Keyword} {t u : TA} (h : L2.PK X kws t) (i : ∀ s H Q, u s H Q → t s H Q) : L2.PK X kws u := ⟨fun po pins s sg H Q I q => h.run po pins s sg H Q I (i sg H Q q)⟩
theorem pdk_nil : PDK X [] wNil := pk_imp pk_nil fun _ H _ ⟨F, _, M, _, _, at0, hw, po⟩ => po [] F H [] M hw (Go.refl at0) .nil
theorem pdk_cons {kws : List Keyword} {we : WE} {wr : WA} {nm : Option Str} {kpos : Pos} (ha : PD X e we) (hr : PDK X kws wr) : PDK X (⟨nm, e, kpos⟩ :: kws) (wCons we wr) := by
  refine pk_imp (pk_cons ha hr) fun sg H Q ⟨F, dl, M, R, so, at0, hw, po⟩ => ?_
  refine tD_to so at0 hw fun v F1 H1 p M1 h1 g1 so1 at1 i1 => ?_
  exact tDA_to so1 at1 h1 fun vs F2 H2 rs M2 h2 g2 so2 at2 i2 => po (v :: vs) F2 H2 (p :: rs) M2 h2 (g1.trans g2) (.cons (is_mono g2.ex i1) i2)
/-- f(k = v, ..), no places: pm puts the keywords' values in the parameters' order -/
abbrev wCallK (cn : Cn) (pm : {A : Type} → List A → List A) (wa : WA) : WE := fun dl M R => wa dl M fun rs M1 => cn (pm rs) M1 R
theorem pd_fnK {kws : List Keyword} {ks : List Str} (pm : {A : Type} → List A → List A) (h : Has X.prog X.w X.K X.mg X.base k x st ps cn) (hgd : X.A.guards = some []) (hr : Room k X.A) (hg : Gl X x) (hkw : PDK X kws wa)
    (hb : ∀ (kV doc pmv : Value) (an : Option Addr) (cdv ct : Value) (ws : List Value), (pm ws).length = ps.length → bindArgs (PySem.W.fnOf x x (defArgs st) (defBody st) (defScope st) .none kV doc pmv an cdv ct) ⟨[], ks.zip ws⟩ = pure (ps.zip (pm ws)))
    (hpm : ∀ {A B : Type} (R : A → B → Prop) (as : List A) (bs : List B), Paired R as bs → Paired R (pm as) (pm bs)) (hpm2 : ∀ {A B : Type} (R : A → B → Prop) (as : List A) (bs : List B), All2 R as bs → All2 R (pm as) (pm bs))
    (hall : (backToKw pos (keywordEach kws X.env)).all (·.1.isSome) = true := by rfl) (hks : (backToKw pos (keywordEach kws X.env)).filterMap (·.1) = ks := by rfl) (hdb : (x == ("__debug__" : Str)) = false := by decide)
    (hpl : ((backTo pos (starEach [] X.env)).any (·.1) || (backToKw pos (keywordEach kws X.env)).any (·.1.isNone)) = false := by rfl) : PD X (.Call (.Name x p) [] kws pos) (wCallK cn pm wa) := by
  obtain ⟨f, fd, hm, Fu, _, G⟩ := h.ex
  obtain ⟨oc, od, kV, doc, pmv, an, cdv, ct, osl, rfl, lk, hcd⟩ := Fu.ex
  refine ⟨fun pins s sg H Q I h => ?_⟩
  obtain ⟨F, dl, M, R, so, at0, hw, po⟩ := h
  refine wpAny_Call_Name_kw (ld_glob I hg hm ?_ hdb)
  refine PySem.W.callWith_KW0 (h₀ := X.base) I.ok.mod.kin Fu.kp hall ?_ hpl
  refine thn (L2.PK.run hkw pos pins s sg H _ I (tDA_to (Q := fun vs H' => spD X.K cn (pm vs) H' Q) so at0 hw fun vs F1 H1 rs M1 h1 g1 so1 at1 i1 => spD_of at1 (hpm2 _ _ _ i1) h1 (po.mono g1))) fun ws s1 ⟨zs, H1, I1, rz, q1⟩ => ⟨I1.kIn, ?_⟩
  rw [hks]
  have hl := G.lenV q1
  have rv := hpm _ _ _ rz
  exact run_fnD G hgd hr (.of_eq (hb kV doc pmv an cdv ct ws (by rw [← Vals.length rv]; exact hl))) I1 rv q1
/-- a def of the text gives a Has -/
theorem Has.of {P : Program} {w : World} {K : PySem.W.Frag} {mg : Str → Option Value} {base : Heap} {f : Addr} {fd : FuncData} (hm : mg x = some (.ref f)) (Fu : Fun K x x st f fd)
    (hb : ∀ (kV doc pm : Value) (an : Option Addr) (cdv ct : Value) (us : List Value), us.length = ps.length → bindArgs (PySem.W.fnOf x x (defArgs st) (defBody st) (defScope st) .none kV doc pm an cdv ct) ⟨us, []⟩ = pure (ps.zip us))
    (G : FnD P w K mg base k f fd ps cn) : Has P w K mg base k x st ps cn := ⟨f, fd, hm, Fu, Fu.binds hb, G⟩
end
end DL

set_option Elab.async false
set_option linter.all false
set_option maxRecDepth 100000
set_option maxHeartbeats 4000000
/-! DH: what is walked: any sequence, enumerate, zip. -/
namespace DL
open PySem PySem.Spec L2
open Evl (Ex)
section
variable {X : Cx} {tg e e2 : Expr} {we : WE} {wa : WA} {p pos tpos : Pos} {elts : List Expr} {kk : Nat}
/-- a list or a tuple, as the value is -/
abbrev wiS (we : WE) : WI := fun dl M T => we dl M fun r M1 => match r with
  | .d (.list ds) => T (ds.map Sl.d) C0 M1
  | .d (.tuple ds) => T (ds.map Sl.d) C0 M1
  | .v (.ref p) => ∃ ss, M1 p = some (.lst ss) ∧ T ss (fun M => M p = some (.lst ss)) M1
  | .r ns => T (ns.map fun n => Sl.i n) C0 M1
  | _ => False
theorem iter_l {pins : List (Addr × Obj)} {st : L2.St} {H : Hp} {s : Shared} {a : Addr} {xs : List V} {R : It → Hp → Prop} (I : Inv X pins st H s) (h : SqL X.K H a xs) (q : R (Itl X.K a) H) : wpAny (model X.prog X.w) X.A (pyIter (.ref a)) (PIE X pins st tg R) X.xe s := by
  obtain ⟨its, rv, pl, hz⟩ := I.list h
  refine wpAny_pyIter_list pl.isList ⟨s.heap.objs.size, [s.heap.objs.size], _, _, H, rfl, I.kept (t' := s.toks) fun b o z => Heap.get?_push_of_some _ z, turn_list a _, ⟨_, Heap.get?_push_size _ rfl, rfl, rfl⟩, fun b hb => ?_, q⟩
  obtain rfl : b = s.heap.objs.size := by simpa using hb
  exact I.fpOk (Nat.le_refl _) (I.hok.fresh (Nat.le_refl _))
theorem iter_t {pins : List (Addr × Obj)} {st : L2.St} {H : Hp} {s : Shared} {a : Addr} {xs : List V} {R : It → Hp → Prop} (I : Inv X pins st H s) (h : SqT X.K H a xs) (q : R (Itt X.K a) H) : wpAny (model X.prog X.w) X.A (pyIter (.ref a)) (PIE X pins st tg R) X.xe s := by
  obtain ⟨its, rv, pl, hz⟩ := I.tuple h
  refine wpAny_pyIter_tuple (show s.heap.IsTuple a its.toArray from pl) ⟨s.heap.objs.size, [s.heap.objs.size], _, _, H, rfl, I.kept (t' := s.toks) fun b o z => Heap.get?_push_of_some _ z, turn_tuple a _, ⟨_, Heap.get?_push_size _ rfl, rfl, rfl⟩, fun b hb => ?_, q⟩
  obtain rfl : b = s.heap.objs.size := by simpa using hb
  exact I.fpOk (Nat.le_refl _) (I.hok.fresh (Nat.le_refl _))
theorem pdi_seq (he : PD X e we) : PDI X tg e (wiS we) := by
  refine ⟨fun pins s st H R I h => ?_⟩
  obtain ⟨F, dl, M, T, so, at0, hw, po⟩ := h
  refine thn (PE.run he pins s st H (fun x H1 => ∃ a, x = .ref a ∧ ((∃ xs, SqL X.K H1 a xs ∧ R (Itl X.K a) H1) ∨ ∃ xs, SqT X.K H1 a xs ∧ R (Itt X.K a) H1)) I (tD_to so at0 hw fun v F1 H1 r M1 h1 g1 so1 at1 i1 => ?_)) fun v s1 ⟨x, H1, I1, r1, q1⟩ => ?_
  · split at h1
    · cases i1 with
      | lst q1 q2 =>
        exact ⟨_, rfl, .inl ⟨_, SqL.of (at1.ex _ _ q1), po F1 M1 H1 _ _ _ h1 g1 (wk_list (vs := []) fun F' M' H' e at' _ => ⟨_, SqL.of (at'.ex _ _ (e _ _ q1)), isAll_mono e (isAll_d q2)⟩)⟩⟩
    · obtain ⟨a, vs, rfl, q1, q2⟩ := sqT_at at1 i1
      refine ⟨a, rfl, .inr ⟨vs, q1, po F1 M1 H1 _ _ _ h1 g1 (wk_tup fun F' M' H' e at' _ => ?_)⟩⟩
      obtain ⟨b, us, e2, z1, z2⟩ := sqT_at at' (dq_mono e i1)
      cases e2
      exact ⟨us, z1, isAll_d z2⟩
    · rename_i q
      have i2 : v = .ref q := i1
      subst i2
      obtain ⟨ss, q0, h1⟩ := h1
      obtain ⟨_, vs, q1, q2⟩ := at1.mem q _ q0
      refine ⟨q, rfl, .inl ⟨vs, SqL.of q1, po F1 M1 H1 _ _ _ h1 g1 (wk_list (vs := []) fun F' M' H' e at' c => ?_)⟩⟩
      obtain ⟨_, us, z1, z2⟩ := at'.mem q _ c
      exact ⟨us, SqL.of z1, z2⟩
    · obtain ⟨a, rfl, q2⟩ := i1
      exact ⟨a, rfl, .inl ⟨_, ex_l at1.ex q2, po F1 M1 H1 _ _ _ h1 g1 (wk_list (vs := []) fun F' M' H' e at' _ => ⟨_, ex_l at'.ex (ex_l e q2), isAll_ints _⟩)⟩⟩
    · exact h1.elim
  · obtain ⟨a, rfl, hq⟩ := q1
    cases r1
    rcases hq with ⟨xs, h, q⟩ | ⟨xs, h, q⟩
    · exact iter_l I1 h q
    · exact iter_t I1 h q

/-! ### enumerate -/
def enumS (ds : List PyData) : List Sl := (ds.zipIdx 0).map fun (p : PyData × Nat) => Sl.w [.int (p.2 : Int), p.1]
abbrev wiEnum (wa : WA) : WI := fun dl M T => wa dl M fun rs M1 => match rs with
  | [.d (.list ds)] => T (enumS ds) C0 M1
  | _ => False
theorem enumS_get {ds : List PyData} {i : Nat} {r : Sl} (h : (enumS ds)[i]? = some r) : ∃ d, ds[i]? = some d ∧ r = .w [.int (i : Int), d] := by
  unfold enumS at h
  rw [List.getElem?_map] at h
  obtain ⟨q, h1, rfl⟩ := Option.map_eq_some_iff.mp h
  rw [List.getElem?_zipIdx] at h1
  obtain ⟨d, h2, rfl⟩ := Option.map_eq_some_iff.mp h1
  exact ⟨d, h2, by simp⟩
theorem enumS_len (ds : List PyData) : (enumS ds).length = ds.length := by unfold enumS; rw [List.length_map, List.length_zipIdx]
theorem dqAll_get {K : PySem.W.Frag} {F : Hp} {ds : List PyData} {vs : List V} {i : Nat} {d : PyData} (h : DqAll K F vs ds) (e : ds[i]? = some d) : ∃ v, vs[i]? = some v ∧ Dq K F v d := by
  obtain ⟨v, h1, h2⟩ := (isAll_d h).get (i := i) (a := Sl.d d) (by rw [List.getElem?_map, e]; rfl)
  exact ⟨v, h1, h2⟩
theorem pdi_enum (hg : Gl X "enumerate") (hm : X.mg "enumerate" = none) (ha : PDA X [e] wa) (hs : starEach [e] X.env = [(false, eval e X.env)] := by rfl) : PDI X (.Tuple elts kk tpos) (.Call (.Name "enumerate" p) [e] [] pos) (wiEnum wa) :=
  pi_imp (pi_enum hg hm ha hs) fun st H Q ⟨F, dl, M, T, so, at0, hw, po⟩ =>
    tDA_to so at0 hw fun vs F1 H1 rs M1 h1 g1 so1 at1 i1 => by
      split at h1
      · obtain ⟨v, rfl, i2⟩ := isAll1 i1
        cases i2 with
        | @lst a us ds q1 q2 =>
          refine ⟨a, us, rfl, SqL.of (at1.ex _ _ q1), po F1 M1 H1 _ _ _ h1 g1 ⟨fun F M H i e at0 c hi => ?_, fun F M H i x H' r e at0 c y hr => ?_, fun F M H e at0 c => ?_⟩⟩
          · rw [enumS_len] at hi
            obtain ⟨v, z1, z2⟩ := dqAll_get (i := i) q2 (List.getElem?_eq_getElem hi)
            exact ⟨us, v, SqL.of (at0.ex _ _ (e _ _ q1)), z1⟩
          · obtain ⟨Tp, xv, rfl, hT, rfl, hx⟩ := y
            obtain ⟨d, hd, rfl⟩ := enumS_get hr
            obtain ⟨v, z1, z2⟩ := dqAll_get (i := i) q2 hd
            have hxv := hx us (SqL.of (at0.ex _ _ (e _ _ q1)))
            rw [z1] at hxv
            obtain rfl : v = xv := Option.some.inj hxv
            have g := Go.laid at0 (o := .tup [.int (i : Int), v]) hT
            exact ⟨_, g, _, _, rfl, .inl (.inl upd_same), .cons (.int _) (.cons (dq_mono (e.trans g.ex) z2) .nil)⟩
          · rw [enumS_len]
            exact ⟨us, SqL.of (at0.ex _ _ (e _ _ q1)), by rw [dqAll_len q2]; exact Nat.le_refl _⟩
      · exact h1.elim

/-! ### zip of two lists, of two tuples -/
def zipS (xs ys : List PyData) : List Sl := (xs.zip ys).map fun (p : PyData × PyData) => Sl.w [p.1, p.2]
theorem zipS_get {xs ys : List PyData} {i : Nat} {r : Sl} (h : (zipS xs ys)[i]? = some r) : ∃ x y, xs[i]? = some x ∧ ys[i]? = some y ∧ r = .w [x, y] := by
  unfold zipS at h
  rw [List.getElem?_map] at h
  obtain ⟨q, h1, rfl⟩ := Option.map_eq_some_iff.mp h
  rw [List.getElem?_zip_eq_some] at h1
  exact ⟨q.1, q.2, h1.1, h1.2, rfl⟩
theorem zipS_len (xs ys : List PyData) : (zipS xs ys).length = min xs.length ys.length := by unfold zipS; rw [List.length_map, List.length_zip]
abbrev wiZip (wa : WA) : WI := fun dl M T => wa dl M fun rs M1 => match rs with
  | [.d (.list xs), .d (.list ys)] => T (zipS xs ys) C0 M1
  | [.d (.tuple xs), .d (.tuple ys)] => T (zipS xs ys) C0 M1
  | _ => False
theorem pdi_zip (hg : Gl X "zip") (hm : X.mg "zip" = none) (ha : PDA X [e, e2] wa) (hs : starEach [e, e2] X.env = (false, eval e X.env) :: starEach [e2] X.env := by rfl) (hpl : (backTo pos (starEach [e2] X.env)).any (·.1) = false := by rfl) :
    PDI X (.Tuple elts kk tpos) (.Call (.Name "zip" p) [e, e2] [] pos) (wiZip wa) :=
  pi_imp (RZ.pi_zipA hg hm ha hs hpl) fun st H Q ⟨F, dl, M, T, so, at0, hw, po⟩ =>
    tDA_to so at0 hw fun vs F1 H1 rs M1 h1 g1 so1 at1 i1 => by
      split at h1
      · rename_i xs ys
        obtain ⟨v, u, rfl, i2, i3⟩ := isAll2 i1
        cases i2 with
        | @lst a us _ q1 q2 =>
          cases i3 with
          | @lst b ws _ q3 q4 =>
            refine ⟨a, b, us, ws, rfl, .inl ⟨SqL.of (at1.ex _ _ q1), SqL.of (at1.ex _ _ q3), po F1 M1 H1 _ _ _ h1 g1 ⟨fun F M H i e at0 c hi => ?_, fun F M H i x H' r e at0 c y hr => ?_, fun F M H e at0 c => ?_⟩⟩⟩
            · rw [zipS_len] at hi
              obtain ⟨v1, z1, _⟩ := dqAll_get (i := i) q2 (List.getElem?_eq_getElem (by omega))
              obtain ⟨v2, z2, _⟩ := dqAll_get (i := i) q4 (List.getElem?_eq_getElem (by omega))
              exact ⟨us, ws, v1, v2, SqL.of (at0.ex _ _ (e _ _ q1)), SqL.of (at0.ex _ _ (e _ _ q3)), z1, z2⟩
            · obtain ⟨Tp, x1, x2, rfl, hT, rfl, hx, hy⟩ := y
              obtain ⟨d1, d2, e1, e2, rfl⟩ := zipS_get hr
              obtain ⟨v1, z1, w1⟩ := dqAll_get (i := i) q2 e1
              obtain ⟨v2, z2, w2⟩ := dqAll_get (i := i) q4 e2
              have hx1 := hx us (SqL.of (at0.ex _ _ (e _ _ q1)))
              have hx2 := hy ws (SqL.of (at0.ex _ _ (e _ _ q3)))
              rw [z1] at hx1; rw [z2] at hx2
              obtain rfl : v1 = x1 := Option.some.inj hx1
              obtain rfl : v2 = x2 := Option.some.inj hx2
              have g := Go.laid at0 (o := .tup [v1, v2]) hT
              exact ⟨_, g, _, _, rfl, .inl (.inl upd_same), .cons (dq_mono (e.trans g.ex) w1) (.cons (dq_mono (e.trans g.ex) w2) .nil)⟩
            · rw [zipS_len]
              refine ⟨us, ws, SqL.of (at0.ex _ _ (e _ _ q1)), SqL.of (at0.ex _ _ (e _ _ q3)), ?_⟩
              rw [dqAll_len q2, dqAll_len q4]
              omega
      · rename_i xs ys
        obtain ⟨v, u, rfl, i2, i3⟩ := isAll2 i1
        obtain ⟨a, us, rfl, q1, q2⟩ := sqT_at at1 i2
        obtain ⟨b, ws, rfl, q3, q4⟩ := sqT_at at1 i3
        have la : ∀ F M H, Ex F1 F → At X.K F M H → ∃ us, SqT X.K H a us ∧ DqAll X.K F us xs := fun F M H e at' => by
          obtain ⟨c, zs, e2, z1, z2⟩ := sqT_at at' (dq_mono e i2)
          cases e2
          exact ⟨zs, z1, z2⟩
        have lb : ∀ F M H, Ex F1 F → At X.K F M H → ∃ us, SqT X.K H b us ∧ DqAll X.K F us ys := fun F M H e at' => by
          obtain ⟨c, zs, e2, z1, z2⟩ := sqT_at at' (dq_mono e i3)
          cases e2
          exact ⟨zs, z1, z2⟩
        refine ⟨a, b, us, ws, rfl, .inr ⟨q1, q3, po F1 M1 H1 _ _ _ h1 g1 ⟨fun F M H i e at0 c hi => ?_, fun F M H i x H' r e at0 c y hr => ?_, fun F M H e at0 c => ?_⟩⟩⟩
        · rw [zipS_len] at hi
          obtain ⟨us, s1, q2⟩ := la F M H e at0
          obtain ⟨ws, s2, q4⟩ := lb F M H e at0
          obtain ⟨v1, z1, _⟩ := dqAll_get (i := i) q2 (List.getElem?_eq_getElem (by omega))
          obtain ⟨v2, z2, _⟩ := dqAll_get (i := i) q4 (List.getElem?_eq_getElem (by omega))
          exact ⟨us, ws, v1, v2, s1, s2, z1, z2⟩
        · obtain ⟨us, s1, q2⟩ := la F M H e at0
          obtain ⟨ws, s2, q4⟩ := lb F M H e at0
          obtain ⟨Tp, x1, x2, rfl, hT, rfl, hx, hy⟩ := y
          obtain ⟨d1, d2, e1, e2, rfl⟩ := zipS_get hr
          obtain ⟨v1, z1, w1⟩ := dqAll_get (i := i) q2 e1
          obtain ⟨v2, z2, w2⟩ := dqAll_get (i := i) q4 e2
          have hx1 := hx us s1
          have hx2 := hy ws s2
          rw [z1] at hx1; rw [z2] at hx2
          obtain rfl : v1 = x1 := Option.some.inj hx1
          obtain rfl : v2 = x2 := Option.some.inj hx2
          have g := Go.laid at0 (o := .tup [v1, v2]) hT
          exact ⟨_, g, _, _, rfl, .inl (.inl upd_same), .cons (dq_mono g.ex w1) (.cons (dq_mono g.ex w2) .nil)⟩
        · obtain ⟨us, s1, q2⟩ := la F M H e at0
          obtain ⟨ws, s2, q4⟩ := lb F M H e at0
          rw [zipS_len]
          refine ⟨us, ws, s1, s2, ?_⟩
          rw [dqAll_len q2, dqAll_len q4]
          omega
      · exact h1.elim
end
end DL

set_option Elab.async false
set_option linter.all false
set_option maxRecDepth 100000
set_option maxHeartbeats 4000000
/-! DI: how readings are run. -/
namespace DL
open PySem PySem.Spec L2
/-! ### what is looked up -/
section
variable {A B C : Type} {o : Option A} {f : A → Option B} {g : A → B → Option C} {a : A} {b : B} {c : C}
theorem e1 {k : A → Prop} (h : o = some a) (hk : k a) : ∃ x, o = some x ∧ k x := ⟨a, h, hk⟩
theorem e1s {o : Option (Option A)} {k : A → Prop} (h : o = some (some a)) (hk : k a) : ∃ x, o = some (some x) ∧ k x := ⟨a, h, hk⟩
theorem e2 {k : A → B → Prop} (h : o = some a) (h2 : f a = some b) (hk : k a b) : ∃ x y, o = some x ∧ f x = some y ∧ k x y := ⟨a, b, h, h2, hk⟩
theorem e3 {k : A → B → C → Prop} (h : o = some a) (h2 : f a = some b) (h3 : g a b = some c) (hk : k a b c) : ∃ x y z, o = some x ∧ f x = some y ∧ g x y = some z ∧ k x y z := ⟨a, b, c, h, h2, h3, hk⟩
theorem e0 (h : o = some a) : ∃ x, o = some x := ⟨a, h⟩
theorem e0a {k : Prop} (h : o = some a) (hk : k) : (∃ x, o = some x) ∧ k := ⟨⟨a, h⟩, hk⟩
end
section
variable {B : Type} {o : Option MO} {ss : List Sl} {f : List Sl → Option B} {b : B}
theorem l1 {k : List Sl → Prop} (h : o = some (.lst ss)) (hk : k ss) : ∃ x, o = some (.lst x) ∧ k x := ⟨ss, h, hk⟩
theorem l2 {k : List Sl → B → Prop} (h : o = some (.lst ss)) (h2 : f ss = some b) (hk : k ss b) : ∃ x y, o = some (.lst x) ∧ f x = some y ∧ k x y := ⟨ss, b, h, h2, hk⟩
end
theorem gN_go {i : Nat} {r : Sl} {dl dl' : Env'} {M : Mem} {R : Env' → Mem → Prop} (h : dl.set i (some r) = dl') (hk : R dl' M) : gN i r dl M R := by subst h; exact hk
/-! ### a tuple taken apart -/
section
variable {ws : WGs} {dl : Env'} {M : Mem} {R : Env' → Mem → Prop} {x0 x1 x2 x3 x4 x5 x6 x7 : PyData}
theorem gt1_go (h : ws [.d x0] dl M R) : gTup' 1 ws (.d (.tuple [x0])) dl M R := ⟨rfl, h⟩
theorem gt2_go (h : ws [.d x0, .d x1] dl M R) : gTup' 2 ws (.d (.tuple [x0, x1])) dl M R := ⟨rfl, h⟩
theorem gt3_go (h : ws [.d x0, .d x1, .d x2] dl M R) : gTup' 3 ws (.d (.tuple [x0, x1, x2])) dl M R := ⟨rfl, h⟩
theorem gt4_go (h : ws [.d x0, .d x1, .d x2, .d x3] dl M R) : gTup' 4 ws (.d (.tuple [x0, x1, x2, x3])) dl M R := ⟨rfl, h⟩
theorem gt5_go (h : ws [.d x0, .d x1, .d x2, .d x3, .d x4] dl M R) : gTup' 5 ws (.d (.tuple [x0, x1, x2, x3, x4])) dl M R := ⟨rfl, h⟩
theorem gt6_go (h : ws [.d x0, .d x1, .d x2, .d x3, .d x4, .d x5] dl M R) : gTup' 6 ws (.d (.tuple [x0, x1, x2, x3, x4, x5])) dl M R := ⟨rfl, h⟩
theorem gt7_go (h : ws [.d x0, .d x1, .d x2, .d x3, .d x4, .d x5, .d x6] dl M R) : gTup' 7 ws (.d (.tuple [x0, x1, x2, x3, x4, x5, x6])) dl M R := ⟨rfl, h⟩
theorem gt8_go (h : ws [.d x0, .d x1, .d x2, .d x3, .d x4, .d x5, .d x6, .d x7] dl M R) : gTup' 8 ws (.d (.tuple [x0, x1, x2, x3, x4, x5, x6, x7])) dl M R := ⟨rfl, h⟩
theorem gw1_go (h : ws [.d x0] dl M R) : gTup' 1 ws (.w [x0]) dl M R := ⟨rfl, h⟩
theorem gw2_go (h : ws [.d x0, .d x1] dl M R) : gTup' 2 ws (.w [x0, x1]) dl M R := ⟨rfl, h⟩
theorem gw3_go (h : ws [.d x0, .d x1, .d x2] dl M R) : gTup' 3 ws (.w [x0, x1, x2]) dl M R := ⟨rfl, h⟩
theorem gw4_go (h : ws [.d x0, .d x1, .d x2, .d x3] dl M R) : gTup' 4 ws (.w [x0, x1, x2, x3]) dl M R := ⟨rfl, h⟩
theorem gw5_go (h : ws [.d x0, .d x1, .d x2, .d x3, .d x4] dl M R) : gTup' 5 ws (.w [x0, x1, x2, x3, x4]) dl M R := ⟨rfl, h⟩
theorem gw6_go (h : ws [.d x0, .d x1, .d x2, .d x3, .d x4, .d x5] dl M R) : gTup' 6 ws (.w [x0, x1, x2, x3, x4, x5]) dl M R := ⟨rfl, h⟩
theorem gw7_go (h : ws [.d x0, .d x1, .d x2, .d x3, .d x4, .d x5, .d x6] dl M R) : gTup' 7 ws (.w [x0, x1, x2, x3, x4, x5, x6]) dl M R := ⟨rfl, h⟩
theorem gw8_go (h : ws [.d x0, .d x1, .d x2, .d x3, .d x4, .d x5, .d x6, .d x7] dl M R) : gTup' 8 ws (.w [x0, x1, x2, x3, x4, x5, x6, x7]) dl M R := ⟨rfl, h⟩
end
/-! ### both ways -/
theorem if_go {k : Bool} {a b : Prop} (h1 : k = true → a) (h2 : k = false → b) : if k = true then a else b := by
  cases k
  · exact h2 rfl
  · exact h1 rfl
theorem ifd_go {p a b : Prop} [Decidable p] (h1 : p → a) (h2 : ¬ p → b) : if decide p = true then a else b := by
  by_cases h : p
  · rw [decide_eq_true h]; exact h1 h
  · rw [decide_eq_false h]; exact h2 h
theorem ifnd_go {p a b : Prop} [Decidable p] (h1 : ¬ p → a) (h2 : p → b) : if (!decide p) = true then a else b := by
  by_cases h : p
  · rw [decide_eq_true h]; exact h2 h
  · rw [decide_eq_false h]; exact h1 h
theorem ifT_go {c : Bool} {a b : Prop} (h : c = true) (k : a) : if c = true then a else b := by rw [if_pos h]; exact k
theorem ifF_go {c : Bool} {a b : Prop} (h : c = false) (k : b) : if c = true then a else b := by rw [if_neg (by rw [h]; exact Bool.false_ne_true)]; exact k
theorem ift_go {a b : Prop} (h : a) : if true = true then a else b := h
theorem iff_go {a b : Prop} (h : b) : if false = true then a else b := h
/-- what stands between two statements -/
theorem seq_cut {w u : WS} {P : PK} {dl : Env'} {M : Mem} (Q : Env' → Mem → Prop) (h2 : ∀ dl M, Q dl M → u P dl M) (h1 : ∀ nx, (∀ dl M, Q dl M → nx dl M) → w { P with nx := nx } dl M) : wSeq w u P dl M := h1 _ h2
/-! ### memory -/
theorem upM_self {M : Mem} {a : Addr} {o : MO} (h : M a = some o) : upM M a o = M := by
  funext b; unfold upM; split
  · rename_i e; subst e; exact h.symm
  · rfl
theorem upM_comm {M : Mem} {a b : Addr} {o u : MO} (h : a ≠ b) : upM (upM M a o) b u = upM (upM M b u) a o := by
  funext c; unfold upM; split
  · rename_i e; subst e; rw [if_neg (Ne.symm h)]
  · rfl
/-! ### places -/
section
variable {A : Type} {a b c d e f g : A} {l : List A}
theorem atI_nat {i : Nat} {x : A} (h : l[i]? = some x) : atI l (i : Int) = some x := by
  have hi : i < l.length := (List.getElem?_eq_some_iff.mp h).1
  unfold atI ixN
  rw [if_pos (Int.natCast_nonneg i), if_pos (by omega)]
  show l[((i : Nat) : Int).toNat]? = some x
  rw [Int.toNat_natCast]; exact h
theorem atI_int {i : Int} {x : A} (h0 : 0 ≤ i) (h : l[i.toNat]? = some x) : atI l i = some x := by
  have := atI_nat h
  rwa [Int.toNat_of_nonneg h0] at this
end
end DL

set_option Elab.async false
set_option linter.all false
set_option maxRecDepth 100000
set_option maxHeartbeats 4000000
/-! DJ: loops by a law of their own; how long a datum's text is. -/
namespace DL
open PySem PySem.Spec L2
/-! ### loops -/
theorem for_ind {g : WG} {wb : WS} {C : Mem → Prop} {P : PK} (I : List Sl → Env' → Mem → Prop) (h0 : ∀ dl M, I [] dl M → C M ∧ P.nx dl M)
    (h1 : ∀ x xs (nx : Env' → Mem → Prop) dl M, (∀ dl M, I xs dl M → nx dl M) → I (x :: xs) dl M → C M ∧ g x dl M fun dl2 M2 => wb { nx := nx, rt := P.rt, bk := P.nx, ct := nx } dl2 M2) :
    ∀ {items : List Sl} {dl : Env'} {M : Mem}, I items dl M → forGo g wb C P items dl M
  | [], dl, M, h => h0 dl M h
  | x :: xs, dl, M, h => h1 x xs _ dl M (fun dl M h => for_ind I h0 h1 h) h
theorem lc_ind {g : WG} {wt : WT} {we : WE} {C : Mem → Prop} {dl : Env'} {R : List Sl → Mem → Prop} (I : List Sl → List Sl → Mem → Prop) (h0 : ∀ acc M, I [] acc M → C M ∧ R acc M)
    (h1 : ∀ x xs acc M (nx : List Sl → Mem → Prop), (∀ acc M, I xs acc M → nx acc M) → I (x :: xs) acc M → C M ∧ g x dl M fun dl2 M2 => wt dl2 M2 fun k M3 => if k = true then we dl2 M3 fun y M4 => acc.length < sizeLine ∧ nx (acc ++ [y]) M4 else nx acc M3) :
    ∀ {items acc : List Sl} {M : Mem}, I items acc M → lcGo g wt we C dl R items acc M
  | [], acc, M, h => h0 acc M h
  | x :: xs, acc, M, h => h1 x xs acc M _ (fun acc M h => lc_ind I h0 h1 h) h
/-- a comprehension that changes nothing -/
theorem lc_map {g : WG} {wt : WT} {we : WE} {C : Mem → Prop} {dl : Env'} {R : List Sl → Mem → Prop} {items : List Sl} {M : Mem} (f : Sl → Option Sl) (hC : C M) (hz : items.length ≤ sizeLine)
    (h : ∀ x ∈ items, ∀ (k1 : Sl → Mem → Prop) (k0 : Mem → Prop), (∀ y, f x = some y → k1 y M) → (f x = none → k0 M) → g x dl M fun dl2 M2 => wt dl2 M2 fun k M3 => if k = true then we dl2 M3 k1 else k0 M3)
    (hR : R (items.filterMap f) M) : lcGo g wt we C dl R items [] M := by
  refine lc_ind (fun xs acc M' => M' = M ∧ acc.length + xs.length ≤ items.length ∧ (∀ x ∈ xs, x ∈ items) ∧ acc ++ xs.filterMap f = items.filterMap f) (fun acc M' ⟨e, hl, _, ha⟩ => ?_) (fun x xs acc M' nx hnx ⟨e, hl, hm, ha⟩ => ?_) ⟨rfl, by simp, fun _ q => q, rfl⟩
  · subst e
    rw [List.filterMap_nil, List.append_nil] at ha
    subst ha
    exact ⟨hC, hR⟩
  · subst e
    rw [List.length_cons] at hl
    refine ⟨hC, h x (hm x List.mem_cons_self) _ _ (fun y hy => ⟨by omega, hnx _ _ ⟨rfl, by simp; omega, fun z q => hm z (List.mem_cons_of_mem _ q), ?_⟩⟩) fun hy => hnx _ _ ⟨rfl, by omega, fun z q => hm z (List.mem_cons_of_mem _ q), ?_⟩⟩
    · rw [List.filterMap_cons_some hy] at ha
      rw [List.append_assoc]; exact ha
    · rw [List.filterMap_cons_none hy] at ha
      exact ha
theorem fm_some (f : PyData → PyData) : ∀ ds : List PyData, (ds.map Sl.d).filterMap (fun x => match x with | .d d => some (.d (f d)) | _ => none) = (ds.map f).map Sl.d
  | [] => rfl
  | a :: r => by
    simp only [List.map_cons, List.filterMap_cons, fm_some f r]
theorem lc_mapD {g : WG} {wt : WT} {we : WE} {C : Mem → Prop} {dl : Env'} {R : List Sl → Mem → Prop} {ds : List PyData} {M : Mem} (f : PyData → PyData) (hC : C M) (hz : ds.length ≤ sizeLine)
    (h : ∀ d ∈ ds, ∀ (k1 : Sl → Mem → Prop) (k0 : Mem → Prop), k1 (.d (f d)) M → g (.d d) dl M fun dl2 M2 => wt dl2 M2 fun k M3 => if k = true then we dl2 M3 k1 else k0 M3)
    (hR : R ((ds.map f).map Sl.d) M) : lcGo g wt we C dl R (ds.map Sl.d) [] M := by
  refine lc_map (fun x => match x with | .d d => some (.d (f d)) | _ => none) hC (by rw [List.length_map]; exact hz) (fun x hx k1 k0 h1 h0 => ?_) ?_
  · obtain ⟨d, hd, rfl⟩ := List.mem_map.mp hx
    exact h d hd k1 k0 (h1 _ rfl)
  · rw [fm_some]; exact hR
theorem while_ind {c : WT} {wb : WS} {P : PK} (I : Nat → Env' → Mem → Prop)
    (h1 : ∀ n (nx : Env' → Mem → Prop) dl M, (∀ m dl M, m < n → I m dl M → nx dl M) → I n dl M → c dl M fun k M1 => if k = true then wb { nx := nx, rt := P.rt, bk := P.nx, ct := nx } dl M1 else P.nx dl M1)
    {n : Nat} {dl : Env'} {M : Mem} (h : I n dl M) (mono : ∀ k k' dl M, k ≤ k' → whGo c wb P k dl M → whGo c wb P k' dl M) : wWhile c wb P dl M := by
  suffices hs : ∀ n dl M, I n dl M → whGo c wb P (n + 1) dl M from ⟨_, hs n dl M h⟩
  intro n
  induction n using Nat.strongRecOn with
  | ind n ih =>
    intro dl M h
    exact h1 n (whGo c wb P n) dl M (fun m dl M hm hI => mono (m + 1) n dl M hm (ih m hm dl M hI)) h
/-- .. whose measure goes down by one -/
theorem while_ind1 {c : WT} {wb : WS} {P : PK} (I : Nat → Env' → Mem → Prop) (h0 : ∀ (nx : Env' → Mem → Prop) dl M, I 0 dl M → c dl M fun k M1 => if k = true then wb { nx := nx, rt := P.rt, bk := P.nx, ct := nx } dl M1 else P.nx dl M1)
    (h1 : ∀ n (nx : Env' → Mem → Prop) dl M, (∀ dl M, I n dl M → nx dl M) → I (n + 1) dl M → c dl M fun k M1 => if k = true then wb { nx := nx, rt := P.rt, bk := P.nx, ct := nx } dl M1 else P.nx dl M1)
    {n : Nat} {dl : Env'} {M : Mem} (h : I n dl M) : wWhile c wb P dl M := by
  suffices hs : ∀ n dl M, I n dl M → whGo c wb P (n + 1) dl M from ⟨_, hs n dl M h⟩
  intro n
  induction n with
  | zero => intro dl M h; exact h0 _ dl M h
  | succ n ih => intro dl M h; exact h1 n _ dl M ih h

/-! ### slices, ints -/
theorem datI (ns : List Int) : datOf (ns.map fun n => Sl.i n) = some (ns.map PyData.int) := by
  have := datOf_map (ns.map PyData.int)
  rwa [List.map_map] at this
theorem cutA_to {A : Type} {xs : List A} {m : Int} (h : 0 ≤ m) : cutA xs none (some m) = xs.take m.toNat := by
  unfold cutA HT.sIx
  simp only [if_neg (show ¬ m < 0 by omega), List.drop_zero, Nat.sub_zero]
  rcases Nat.le_total m.toNat xs.length with q | q
  · rw [Nat.min_eq_left q]
  · rw [Nat.min_eq_right q, List.take_length, List.take_of_length_le q]
theorem cutA_from {A : Type} {xs : List A} {m : Int} (h : 0 ≤ m) : cutA xs (some m) none = xs.drop m.toNat := by
  unfold cutA HT.sIx
  simp only [if_neg (show ¬ m < 0 by omega)]
  rcases Nat.le_total m.toNat xs.length with q | q
  · rw [Nat.min_eq_left q, List.take_of_length_le (by rw [List.length_drop]; exact Nat.le_refl _)]
  · rw [Nat.min_eq_right q, List.drop_length, List.drop_of_length_le q, List.take_nil]
theorem cutA_mid {A : Type} {xs : List A} {m n : Int} (h : 0 ≤ m) (h2 : 0 ≤ n) : cutA xs (some m) (some n) = (xs.take n.toNat).drop m.toNat := by
  unfold cutA HT.sIx
  simp only [if_neg (show ¬ m < 0 by omega), if_neg (show ¬ n < 0 by omega)]
  rw [← List.drop_take]
  apply List.ext_getElem?
  intro i
  rw [List.getElem?_drop, List.getElem?_drop, List.getElem?_take, List.getElem?_take]
  by_cases h1 : m.toNat ≤ xs.length
  · rw [Nat.min_eq_left h1]
    by_cases h3 : m.toNat + i < xs.length
    · by_cases h4 : m.toNat + i < n.toNat
      · rw [if_pos h4, if_pos (by omega)]
      · rw [if_neg h4, if_neg (by omega)]
    · rw [List.getElem?_eq_none (by omega : xs.length ≤ m.toNat + i)]
      split <;> split <;> rfl
  · rw [Nat.min_eq_right (by omega : xs.length ≤ m.toNat), List.getElem?_eq_none (by omega : xs.length ≤ m.toNat + i), List.getElem?_eq_none (by omega : xs.length ≤ xs.length + i)]
    split <;> split <;> rfl
theorem intsS_set (ns : List Int) (i : Nat) (v : Int) : (ns.map fun n => Sl.i n).set i (.i v) = (ns.set i v).map fun n => Sl.i n := by
  rw [List.map_set]
theorem mapI (ns : List Int) : (ns.map fun n => Sl.i n) = (ns.map PyData.int).map Sl.d := by rw [List.map_map]; rfl
theorem enumS_nil : enumS [] = [] := rfl
/-! ### how long a datum's text is: ints below 10 ^ 36, texts out of a list of words -/
mutual
def sz (W : List Str) : PyData → Nat
  | .none => 8
  | .bool _ => 8
  | .int i => if i.natAbs < 10 ^ 36 then 40 else 10 ^ 9
  | .str s => if s ∈ W then 40 else 10 ^ 9
  | .list xs => 4 + szs W xs
  | .tuple xs => 4 + szs W xs
  | .dict _ => 10 ^ 9
def szs (W : List Str) : List PyData → Nat
  | [] => 0
  | x :: xs => 2 + sz W x + szs W xs
end
def Wds (W : List Str) : Prop := ∀ s ∈ W, PyData.strOk s = true ∧ (reprText s).length ≤ 40
theorem listText_le (ts : List Str) : (listText ts).length ≤ piled ts + 2 := by
  cases ts with
  | nil => decide +kernel
  | cons t r =>
    have h := textFrom_length_pos r 1 (("[" : Str) ++ (if (0 : Nat) > 0 then ", " else "" : String) ++ t) (Nat.succ_pos 0)
    have e : ((("[" : Str) ++ (if (0 : Nat) > 0 then ", " else "" : String) ++ t)).length = 1 + t.length := by
      rw [strLen_append, strLen_append]; rfl
    have hX : (listText (t :: r)).length = (textFrom 0 "[" (t :: r)).length + 1 := by
      show (textFrom 0 "[" (t :: r) ++ "]").length = _
      rw [strLen_append]; rfl
    have hY : (textFrom 0 "[" (t :: r)).length = (textFrom 1 (("[" : Str) ++ (if (0 : Nat) > 0 then ", " else "" : String) ++ t) r).length := rfl
    rw [hX, hY, h, e, piled_cons]; omega
theorem tupleText_le (ts : List Str) : (tupleText ts).length ≤ piled ts + 3 := by
  unfold tupleText
  rw [strLen_append, strLen_append]
  have e1 : ((("(" : String) : Str)).length = 1 := rfl
  have e3 : (((if ts.length == 1 then ",)" else ")" : String) : Str)).length ≤ 2 := by split <;> decide
  rw [e1]
  by_cases h : ts = []
  · subst h; decide +kernel
  · have := join_length_add ts h
    omega
mutual
theorem sz_ok {W : List Str} (hW : Wds W) : ∀ d : PyData, sz W d < 10 ^ 9 → d.canLay0 = true ∧ d.showable = true ∧ d.shown.length ≤ sz W d
  | .none, _ => ⟨rfl, rfl, by simp only [sz]; decide +kernel⟩
  | .bool b, _ => ⟨rfl, rfl, by simp only [sz]; cases b <;> decide +kernel⟩
  | .int i, h => by
    simp only [sz] at h ⊢
    split at h
    · rename_i hi
      refine ⟨rfl, ?_, ?_⟩
      · simp only [PyData.showable, decide_eq_true_eq]
        by_cases h0 : i.natAbs = 0
        · rw [h0]; decide
        · exact (Nat.log2_lt h0).mpr (Nat.lt_trans hi (by decide +kernel))
      · rw [PyData.shown, ofString_length, if_pos hi]
        have := int_text_length_le10 (k := 36) (by decide) hi
        omega
    · omega
  | .str s, h => by
    simp only [sz] at h ⊢
    split at h
    · rename_i hs
      obtain ⟨h1, h2⟩ := hW s hs
      rw [if_pos hs]
      exact ⟨by rw [PyData.canLay0]; exact h1, rfl, by rw [PyData.shown]; exact h2⟩
    · omega
  | .list xs, h => by
    simp only [sz] at h ⊢
    obtain ⟨h1, h2, h3⟩ := szs_ok hW xs (by omega)
    refine ⟨by rw [PyData.canLay0]; exact h1, by rw [PyData.showable]; exact h2, ?_⟩
    rw [PyData.shown]
    have := listText_le (PyData.shownAll xs)
    omega
  | .tuple xs, h => by
    simp only [sz] at h ⊢
    obtain ⟨h1, h2, h3⟩ := szs_ok hW xs (by omega)
    refine ⟨by rw [PyData.canLay0]; exact h1, by rw [PyData.showable]; exact h2, ?_⟩
    rw [PyData.shown]
    have := tupleText_le (PyData.shownAll xs)
    omega
  | .dict _, h => by simp only [sz] at h; omega
theorem szs_ok {W : List Str} (hW : Wds W) : ∀ ds : List PyData, szs W ds < 10 ^ 9 → PyData.canLayAll0 ds = true ∧ PyData.showableAll ds = true ∧ piled (PyData.shownAll ds) ≤ szs W ds
  | [], _ => ⟨rfl, rfl, Nat.le_refl _⟩
  | x :: xs, h => by
    simp only [szs] at h ⊢
    obtain ⟨a1, a2, a3⟩ := sz_ok hW x (by omega)
    obtain ⟨b1, b2, b3⟩ := szs_ok hW xs (by omega)
    refine ⟨by rw [PyData.canLayAll0, a1, b1]; rfl, by rw [PyData.showableAll, a2, b2]; rfl, ?_⟩
    rw [PyData.shownAll, piled_cons]
    omega
end
theorem shw_of {W : List Str} (hW : Wds W) {d : PyData} (h : sz W d ≤ 16777216) (hd : d.depth ≤ 40) : Shw d := by
  obtain ⟨h1, h2, h3⟩ := sz_ok hW d (by omega)
  have e : sizeLine = 16777216 := by decide
  exact ⟨h1, hd, h2, by omega⟩
theorem shaped_of {W : List Str} (hW : Wds W) {d : PyData} (h : sz W d ≤ 16777216) (hd : d.depth ≤ 40) : SeqAt.shaped d = true := by
  obtain ⟨h1, h2, h3⟩ := sz_ok hW d (by omega)
  unfold SeqAt.shaped
  rw [h1]
  simp only [Bool.true_and, decide_eq_true_eq]
  omega
/-! ### a == a -/
mutual
theorem eqv_self : ∀ {d : PyData}, d.canLay0 = true → PyData.eqv d d = true
  | .none, _ => rfl
  | .bool b, _ => by simp [PyData.eqv]
  | .int i, _ => by simp [PyData.eqv]
  | .str s, _ => by simp [PyData.eqv]
  | .list xs, h => by
    rw [PyData.canLay0] at h
    rw [PyData.eqv]; exact eqvs_self h
  | .tuple xs, h => by
    rw [PyData.canLay0] at h
    rw [PyData.eqv]; exact eqvs_self h
  | .dict _, h => by simp [PyData.canLay0] at h
theorem eqvs_self : ∀ {ds : List PyData}, PyData.canLayAll0 ds = true → PyData.eqvAll ds ds = true
  | [], _ => rfl
  | x :: xs, h => by
    rw [PyData.canLayAll0, Bool.and_eq_true] at h
    rw [PyData.eqvAll, eqv_self h.1, eqvs_self h.2]; rfl
end
end DL

set_option Elab.async false
set_option linter.all false
set_option maxRecDepth 100000
set_option maxHeartbeats 4000000
/-! DK: a set of ints out of a list, in two steps: set(x) by what __init__ does; __init__ over a list. -/
namespace DL
open PySem PySem.Spec L2 PyProof.Rows
section
variable {P : Program} {w : World} {A : Around} {E : Value → Shared → Prop} {s : Shared}
/-- a set as __new__ leaves it -/
abbrev bareSet (w : World) : Obj := { cls := .type "set", dict := none, data := .set #[] 0 (.fresh 0 0 (!w.params.followText "set-order")) }
abbrev withSet (w : World) (s : Shared) : Shared := { s with heap := s.heap.push (bareSet w) }
theorem withSet_get : (withSet w s).heap.get? s.heap.objs.size = some (bareSet w) := Heap.get?_push_size _ rfl
theorem set_by_init {x : Value} {Q : Value → Shared → Prop}
    (h : ∀ A' : Around, A'.handled = A.handled → codeAny (model P w) A' (.call (.builtin "set.__init__") ⟨[.ref s.heap.objs.size, x], []⟩) (wants (fun r s₂ => r = .none ∧ Q (.ref s.heap.objs.size) s₂) E) (withSet w s)) : wpAny (model P w) A (call (.type "set") [x]) Q E s := by
  obtain ⟨c, tl, hmro⟩ := F.called_set.mro
  have hmade := F.called_set.made
  have hsub := F.called_set.sub
  have h1 := F.called_set.notType
  have h2 := F.called_set.canCreate
  have hct := F.typeCall_set_1 x
  refine wpAny_call (codeAny_of_tree ?_)
  show wpAny _ _ (callAny (.type "set") _) _ _ _
  refine wpAny_pure ⟨Code.quiet_builtin _ (by decide +kernel), codeAny_builtin F.entry_type_call ?_⟩
  rw [Around.under_plain (weight_type_call_type "set" [x] []) rfl]
  repeat (any_goals (first | assumption | wp_step))
  refine codeAny_mono (code_set_led1 x (E := E) (Q₁ := fun o s₁ => o = .ref s.heap.objs.size ∧ s₁ = withSet w s) ⟨rfl, rfl⟩) fun r s₁ hr => ?_
  cases r with
  | error e => exact hr
  | ok fl =>
    cases fl with
    | ret o =>
      obtain ⟨rfl, rfl⟩ := hr
      have hT : Shared.TypeIs (withSet w s) (.ref s.heap.objs.size) "set" := ⟨_, withSet_get, rfl⟩
      have hli := F.called_set.init.lookup
      have hbi := F.called_set.init.bind (.ref s.heap.objs.size)
      repeat (any_goals (first | assumption | wp_step))
      refine codeAny_mono (h _ rfl) fun r₂ s₂ hr₂ => ?_
      cases r₂ with
      | error e => exact hr₂
      | ok f2 =>
        cases f2 with
        | ret r =>
          obtain ⟨rfl, hq⟩ := hr₂
          repeat (any_goals (first | assumption | wp_step))
        | _ => exact hr₂.elim
    | _ => exact hr.elim
theorem init_list {l : Addr} {vs : Array Value} (ns : List Int) {Q : Value → Shared → Prop} (hh : A.handled = none) (hl : s.heap.IsList l vs) (hi : IntsAre vs.toList ns) (hb : ns.length + 1 < scanBound)
    (h : ∀ (h' : Heap) (tk c : Nat), SetR w h' s.heap.objs.size (fun j => decide (j ∈ ns)) c → c ≤ ns.length → (∀ b o, s.heap.get? b = some o → h'.get? b = some o) → Q (.ref s.heap.objs.size) { s with heap := h', toks := tk }) :
    codeAny (model P w) A (.call (.builtin "set.__init__") ⟨[.ref s.heap.objs.size, .ref l], []⟩) (wants (fun r s₂ => r = .none ∧ Q (.ref s.heap.objs.size) s₂) E) (withSet w s) := by
  have hsz : vs.size = ns.length := by have q := IntsAre.length hi; rwa [Array.length_toList] at q
  have hlt : l < s.heap.objs.size := hl.elim fun _ z => Heap.lt_size z.1
  have hl2 : (withSet w s).heap.IsList l vs := hl.push _
  have z1 : (withSet w s).heap.objs.size = s.heap.objs.size + 1 := Heap.size_push ..
  refine codeAny_call_builtin F.called_set.init.plain F.entry_set_init (check_set_init_1 ⟨_, withSet_get, rfl⟩ ?_)
  obtain ⟨⟨oc, od, odat, osl⟩, e1, e2, n, e3⟩ := hl2
  have hl2 : (withSet w s).heap.IsList l vs := ⟨_, e1, e2, n, e3⟩
  simp only at e2 e3
  subst e2 e3
  have a1 := F.sub_list_set
  have a2 := F.sub_list_frozenset
  have a3 : (Value.type "list" == Value.type "dict") = false := by decide
  unfold Builtin.«set.__init__» noKeywords Builtin.Frozenset.updateFrom
  generalize hp : pyIter = pit
  wp_walk
  subst hp
  have hv : ∀ (i : Nat) (v : Value), vs[i]? = some v → ∃ k t, ns[i]? = some k ∧ v = .int k t := fun i v q => by
    have hlt2 : i < ns.length := by rw [← hsz]; exact (Array.getElem?_eq_some_iff.mp q).1
    obtain ⟨t, e⟩ := IntsAre.int_at hi i v (by rw [Array.getElem?_toList]; exact q)
    exact ⟨ns[i], t, List.getElem?_eq_getElem hlt2, by rw [e, List.getD_eq_getElem?_getD, List.getElem?_eq_getElem hlt2]; rfl⟩
  have hne : l ≠ (withSet w s).heap.objs.size := by rw [z1]; exact Nat.ne_of_lt (Nat.lt_succ_of_lt hlt)
  refine wpAny_pyIter_list hl2 (wpAny_bind (wpAny_runValue ?_))
  have W := (Walks.list (prog := P) (w := w) (A := A.in1.in1) (by simp [hh]) (withSet w s).heap.objs.size l hne vs).toS
  refine set_update_ints W s.heap.objs.size (fun z => ?_) ns hsz hb hv (vs.size - 0) 0 _ (by omega) (Nat.zero_le _) ?_ ?_ ?_
  · rw [z1] at z
    rcases List.mem_cons.mp z with q | q
    · exact absurd q (Nat.ne_of_lt (Nat.lt_succ_self _))
    · exact absurd (List.mem_singleton.mp q) (Nat.ne_of_gt hlt)
  · exact ⟨⟨_, Heap.get?_push_size _ rfl, rfl, rfl⟩, hl2.push _⟩
  · have q : ((withSet w s).heap.push { cls := .type "list_iterator", data := .fields #[.ref l, .int 0 0] }).get? s.heap.objs.size = some (bareSet w) := Heap.get?_push_of_some _ withSet_get
    exact ⟨0, Nat.le_refl 0, setR_new_at q⟩
  · rintro ⟨h', g2, d2, tk2, os2⟩ c hm hc hS
    have e1 : g2 = s.gens := hm.gens
    have e2 : d2 = s.drawn := hm.drawn
    have e3 : os2 = s.os := hm.os
    subst e1 e2 e3
    show wpAny _ _ _ _ _ _
    refine wpAny_pure ?_
    show wpAny _ _ (ret Value.none) _ _ _
    rw [hsz] at hc
    refine wpAny_pure ⟨rfl, h h' tk2 c hS hc fun b o e => hm.heap b o (fun z => ?_) (Heap.get?_push_of_some _ (Heap.get?_push_of_some _ e))⟩
    have hb0 := Heap.lt_size e
    rcases List.mem_cons.mp z with q | q
    · exact absurd q (Nat.ne_of_lt hb0)
    · have q2 := List.mem_singleton.mp q
      rw [z1] at q2
      exact absurd q2 (Nat.ne_of_lt (Nat.lt_succ_of_lt hb0))
/-- set(l), l a list of ints -/
theorem set_of_list {l : Addr} {vs : Array Value} (ns : List Int) {Q : Value → Shared → Prop} (hh : A.handled = none) (hl : s.heap.IsList l vs) (hi : IntsAre vs.toList ns) (hb : ns.length + 1 < scanBound)
    (h : ∀ (h' : Heap) (tk c : Nat), SetR w h' s.heap.objs.size (fun j => decide (j ∈ ns)) c → c ≤ ns.length → (∀ b o, s.heap.get? b = some o → h'.get? b = some o) → Q (.ref s.heap.objs.size) { s with heap := h', toks := tk }) :
    wpAny (model P w) A (call (.type "set") [.ref l]) Q E s :=
  set_by_init fun A' e => init_list ns (e.trans hh) hl hi hb h
end
end DL

set_option Elab.async false
set_option linter.all false
set_option maxRecDepth 100000
set_option maxHeartbeats 4000000
/-! DM: sorted(set(xs)), len(set(xs)), a < b < c, list(range(n)). -/
namespace DL
open PySem PySem.Spec L2
open Evl (Ex)
/-! ### ints in order, each once -/
def insS (x : Int) : List Int → List Int
  | [] => [x]
  | y :: r => if x < y then x :: y :: r else if x = y then y :: r else y :: insS x r
def srtS : List Int → List Int
  | [] => []
  | x :: r => insS x (srtS r)
theorem insS_mem (x k : Int) : ∀ l : List Int, k ∈ insS x l ↔ k = x ∨ k ∈ l
  | [] => by simp [insS]
  | y :: r => by
    unfold insS
    split
    · simp
    · split
      · rename_i e; subst e; simp
      · simp only [List.mem_cons, insS_mem x k r]
        constructor
        · rintro (h | h | h)
          · exact .inr (.inl h)
          · exact .inl h
          · exact .inr (.inr h)
        · rintro (h | h | h)
          · exact .inr (.inl h)
          · exact .inl h
          · exact .inr (.inr h)
theorem srtS_mem (k : Int) : ∀ l : List Int, k ∈ srtS l ↔ k ∈ l
  | [] => by simp [srtS]
  | x :: r => by rw [srtS, insS_mem, srtS_mem k r, List.mem_cons]
theorem insS_lt (x : Int) : ∀ l : List Int, l.Pairwise (· < ·) → (insS x l).Pairwise (· < ·)
  | [], _ => List.pairwise_singleton _ _
  | y :: r, h => by
    have hy := List.pairwise_cons.mp h
    unfold insS
    split
    · rename_i hx
      refine List.pairwise_cons.mpr ⟨fun z hz => ?_, h⟩
      rcases List.mem_cons.mp hz with rfl | hz
      · exact hx
      · exact Int.lt_trans hx (hy.1 z hz)
    · split
      · exact h
      · refine List.pairwise_cons.mpr ⟨fun z hz => ?_, insS_lt x r hy.2⟩
        rcases (insS_mem x z r).mp hz with rfl | hz
        · omega
        · exact hy.1 z hz
theorem srtS_lt : ∀ l : List Int, (srtS l).Pairwise (· < ·)
  | [] => List.Pairwise.nil
  | x :: r => insS_lt x _ (srtS_lt r)
theorem insS_len (x : Int) : ∀ l : List Int, (insS x l).length ≤ l.length + 1
  | [] => by simp [insS]
  | y :: r => by
    unfold insS
    split
    · simp
    · split
      · simp
      · have := insS_len x r; simp only [List.length_cons]; omega
theorem srtS_len : ∀ l : List Int, (srtS l).length ≤ l.length
  | [] => Nat.le_refl _
  | x :: r => by have := insS_len x (srtS r); have := srtS_len r; simp only [srtS, List.length_cons]; omega
theorem lt_one : ∀ {l m : List Int}, (∀ k, k ∈ l ↔ k ∈ m) → l.Pairwise (· < ·) → m.Pairwise (· < ·) → l = m
  | [], [], _, _, _ => rfl
  | [], y :: m, h, _, _ => absurd ((h y).mpr List.mem_cons_self) (by simp)
  | x :: l, [], h, _, _ => absurd ((h x).mp List.mem_cons_self) (by simp)
  | x :: l, y :: m, h, hl, hm => by
    have h1 := List.pairwise_cons.mp hl
    have h2 := List.pairwise_cons.mp hm
    have e : x = y := by
      rcases List.mem_cons.mp ((h x).mp List.mem_cons_self) with e | e
      · exact e
      · rcases List.mem_cons.mp ((h y).mpr List.mem_cons_self) with e2 | e2
        · exact e2.symm
        · have := h1.1 y e2; have := h2.1 x e; omega
    subst e
    rw [lt_one (fun k => ?_) h1.2 h2.2]
    constructor
    · intro hk
      rcases List.mem_cons.mp ((h k).mp (List.mem_cons_of_mem _ hk)) with e | e
      · subst e; have := h1.1 k hk; omega
      · exact e
    · intro hk
      rcases List.mem_cons.mp ((h k).mpr (List.mem_cons_of_mem _ hk)) with e | e
      · subst e; have := h2.1 k hk; omega
      · exact e
theorem srtS_id {l : List Int} (h : l.Pairwise (· < ·)) : srtS l = l := lt_one (fun k => srtS_mem k l) (srtS_lt l) h
section
variable {X : Cx} {a b c : Expr} {wa wb wc : WE} {p p2 q pos : Pos}
abbrev kSortedSet (r : Sl) (M : Mem) (R : RK) : Prop := ∃ ss ns, lsOf M r = some ss ∧ intsOf ss = some ns ∧ ns.length < 63 ∧ R (.d (.list ((srtS ns).map PyData.int))) M
abbrev wSortedSet (wa : WE) : WE := fun dl M R => wa dl M fun r M1 => kSortedSet r M1 R
theorem pd_sortedSet (hc : X.calm = true) (hg : Gl X "sorted") (hm : X.mg "sorted" = none) (hg2 : Gl X "set") (hm2 : X.mg "set" = none) (ha : PD X a wa)
    (na : starEach [a] X.env = (false, eval a X.env) :: starEach [] X.env := by rfl) : PD X (.Call (.Name "sorted" p) [.Call (.Name "set" p2) [a] [] q] [] pos) (wSortedSet wa) := by
  refine ⟨fun pins s st H Q I h => ?_⟩
  obtain ⟨F, dl, M, R, so, at0, hw, po⟩ := h
  refine PyProof.Rows.Call_ (ld_blt I hg hm (u := .builtin "sorted") (by decide +kernel) ?_)
  refine PyProof.Rows.callWith_builtin1 (PyProof.Rows.args_cons ?_ rfl) rfl rfl
  refine PyProof.Rows.Call_ (ld_blt I hg2 hm2 PyProof.Rows.boot_set ?_)
  refine PyProof.Rows.callWith_type1 (PyProof.Rows.args_cons (thn (PE.run ha pins s st H (fun x H1 => ∃ l ns, x = .ref l ∧ SqL X.K H1 l (ns.map V.int) ∧ ns.length < 63 ∧ ∀ p, H1 p = none → Q (.ref p) (upd H1 p (.lst ((srtS ns).map V.int)))) I ?_) fun v s1 ⟨x, H1, I1, r1, q1⟩ => PyProof.Rows.args_nil ?_) na) na rfl
  · refine tD_to so at0 hw fun x F1 H1 r M1 h1 g1 so1 at1 i1 => ?_
    obtain ⟨ss, ns, e1, e2, hz, hR⟩ := h1
    obtain ⟨l, vs, rfl, q1, q2⟩ := lsOf_at at1 i1 e1
    have e3 := intsOf_at e2 q2
    subst e3
    exact ⟨l, ns, rfl, SqL.of q1, hz, fun p hp => po_dat at1 (po.mono g1) hp hR fun F' e h => .lst h (dqAll_ints _)⟩
  · obtain ⟨l, ns, rfl, hq, hz, q1⟩ := q1
    cases r1
    obtain ⟨its, r, pl, _⟩ := I1.list hq
    have hlen : its.length = ns.length := by rw [← r.length, List.length_map]
    refine set_of_list ns (I1.ok.hd hc) pl.isList (by simpa using RZ.intsAre_vals r) (by unfold scanBound; omega) fun h' tk n hS hn hk => PyProof.Rows.args_nil ?_
    have I2 : Inv X pins st H1 { s1 with heap := h', toks := tk } := I1.kept fun b o e => hk b o e
    refine sorted_set hS (I2.ok.hd hc) (by omega) fun s' p out c ms k g o hp hg hi hs hm hl => ?_
    have hn2 : H1 p = none := I2.hok.fresh hp
    have e : ms = srtS ns := lt_one (fun k => by rw [hm k, srtS_mem]; simp) hs (srtS_lt ns)
    have hlen2 : (ms.map V.int).length ≤ sizeLine := by rw [List.length_map, hl, sizeLine_eq]; omega
    have J : Inv X pins st (upd H1 p (.lst (ms.map V.int))) { ({ s1 with heap := h', toks := tk } : Shared) with heap := s'.heap, gens := s'.gens, drawn := s'.drawn, toks := s'.toks } :=
      I2.call (ch := []) (Un.laid k hp hn2) (I2.hok.laid k hp ⟨hlen2, out.toList, c, vals_of_ints hi, hg⟩) (by rw [g]; exact I2.bare) (fun _ z => nomatch z)
    have e5 : s' = { ({ s1 with heap := h', toks := tk } : Shared) with heap := s'.heap, gens := s'.gens, drawn := s'.drawn, toks := s'.toks } := by
      cases s'; cases s1; cases o; rfl
    rw [e5]
    exact ⟨.ref p, _, J, rfl, by rw [e]; exact q1 p hn2⟩
/-! ### len(set(xs)) -/
theorem setR_count {w : World} {h : Heap} {a : Addr} {ns : List Int} {c : Nat} (R : SetR w h a (fun j => decide (j ∈ ns)) c) : c = (srtS ns).length := by
  obtain ⟨o, es, ep, t, ho, hx, hd, g, nd, hm, hb, hf, hn, _⟩ := R
  have nd2 : (srtS ns).Nodup := (srtS_lt ns).imp fun h => by omega
  have pm := (List.perm_ext_iff_of_nodup nd nd2).mpr fun k => by rw [← hm k, srtS_mem]; simp
  have := pm.length_eq
  rw [List.length_map, Array.length_toList] at this
  omega
abbrev wLenSet (wa : WE) : WE := fun dl M R => wa dl M fun r M1 => ∃ ss ns, lsOf M1 r = some ss ∧ intsOf ss = some ns ∧ ns.length < 63 ∧ R (.i ((srtS ns).length : Int)) M1
theorem pd_lenSet (hc : X.calm = true) (hg : Gl X "len") (hm : X.mg "len" = none) (hg2 : Gl X "set") (hm2 : X.mg "set" = none) (ha : PD X a wa)
    (na : starEach [a] X.env = (false, eval a X.env) :: starEach [] X.env := by rfl) : PD X (.Call (.Name "len" p) [.Call (.Name "set" p2) [a] [] q] [] pos) (wLenSet wa) := by
  refine ⟨fun pins s st H Q I h => ?_⟩
  obtain ⟨F, dl, M, R, so, at0, hw, po⟩ := h
  refine PyProof.Rows.Call_ (ld_blt I hg hm (u := .builtin "len") (by decide +kernel) ?_)
  refine PyProof.Rows.callWith_builtin1 (PyProof.Rows.args_cons ?_ rfl) rfl rfl
  refine PyProof.Rows.Call_ (ld_blt I hg2 hm2 PyProof.Rows.boot_set ?_)
  refine PyProof.Rows.callWith_type1 (PyProof.Rows.args_cons (thn (PE.run ha pins s st H (fun x H1 => ∃ l ns, x = .ref l ∧ SqL X.K H1 l (ns.map V.int) ∧ ns.length < 63 ∧ Q (.int (srtS ns).length) H1) I ?_) fun v s1 ⟨x, H1, I1, r1, q1⟩ => PyProof.Rows.args_nil ?_) na) na rfl
  · refine tD_to so at0 hw fun x F1 H1 r M1 h1 g1 so1 at1 i1 => ?_
    obtain ⟨ss, ns, e1, e2, hz, hR⟩ := h1
    obtain ⟨l, vs, rfl, q1, q2⟩ := lsOf_at at1 i1 e1
    have e3 := intsOf_at e2 q2
    subst e3
    exact ⟨l, ns, rfl, SqL.of q1, hz, po _ F1 H1 _ M1 hR g1 (.int _)⟩
  · obtain ⟨l, ns, rfl, hq, hz, q1⟩ := q1
    cases r1
    obtain ⟨its, r, pl, _⟩ := I1.list hq
    refine set_of_list ns (I1.ok.hd hc) pl.isList (by simpa using RZ.intsAre_vals r) (by unfold scanBound; omega) fun h' tk n hS hn hk => PyProof.Rows.args_nil ?_
    have I2 : Inv X pins st H1 { s1 with heap := h', toks := tk } := I1.kept fun b o e => hk b o e
    have ec := setR_count hS
    obtain ⟨o, es, ep, t, ho, hex, hd, _, _, _, hb, hf, hn2, _⟩ := hS
    exact call_len_set ho hex hd hf (by omega) ⟨.int (srtS ns).length, H1, I2.tok _, ⟨_, by rw [hn2, ec]⟩, q1⟩
/-! ### a < b < c -/
theorem pd_chain {op op' : CmpOp} {g g' : W2} (ho : OpD X (compareOp op) g) (ho' : OpD X (compareOp op') g') (ha : PD X a wa) (hb : PD X b wb) (hc : PD X c wc)
    (hm : lastMarks [op, op'] [b, c] = false := by with_unfolding_all rfl) : PD X (.Compare a [op, op'] [b, c] pos) (wChain g g' wa wb wc) := by
  obtain ⟨r, h1, h2⟩ := ho
  obtain ⟨r', h1', h2'⟩ := ho'
  refine pe_imp (pe_chain h1 h1' ha hb hc hm) fun st H Q ⟨F, dl, M, R, so, at0, hw, po⟩ => ?_
  refine tD_to so at0 hw fun x F1 H1 u M1 k1 g1 so1 at1 i1 => ?_
  refine tD_to so1 at1 k1 fun y F2 H2 v M2 k2 g2 so2 at2 i2 => ?_
  refine h2 F2 H2 M2 x y u v _ _ at2 (is_mono g2.ex i1) i2 k2 fun z F3 H3 t M3 k3 g3 i3 => ?_
  split at k3
  · refine ⟨_, dq_bl i3, ?_⟩
    have at3 := g3.at'
    have so3 := sok_mono g3.ex so2
    split at k3
    · rw [if_pos (by assumption)]
      refine tD_to so3 at3 k3 fun w F4 H4 t4 M4 k4 g4 so4 at4 i4 => ?_
      exact h2' F4 H4 M4 y w v t4 R Q at4 (is_mono (g3.trans g4).ex i2) i4 k4 (po.mono (((g1.trans g2).trans g3).trans g4))
    · rw [if_neg (by assumption)]
      exact po _ F3 H3 _ M3 k3 ((g1.trans g2).trans g3) (.bl _)
  · exact k3.elim
theorem pdt_chain {op op' : CmpOp} {g g' : W2} (ho : OpD X (compareOp op) g) (ho' : OpD X (compareOp op') g') (ha : PD X a wa) (hb : PD X b wb) (hc : PD X c wc)
    (hm : lastMarks [op, op'] [b, c] = false := by with_unfolding_all rfl) : PDT X (.Compare a [op, op'] [b, c] pos) (wBl (wChain g g' wa wb wc)) := by
  obtain ⟨r, h1, h2⟩ := ho
  obtain ⟨r', h1', h2'⟩ := ho'
  refine pt_imp (pt_chain h1 h1' ha hb hc hm) fun st H Q ⟨F, dl, M, R, so, at0, hw, po⟩ => ?_
  refine tD_to so at0 hw fun x F1 H1 u M1 k1 g1 so1 at1 i1 => ?_
  refine tD_to so1 at1 k1 fun y F2 H2 v M2 k2 g2 so2 at2 i2 => ?_
  refine h2 F2 H2 M2 x y u v _ _ at2 (is_mono g2.ex i1) i2 k2 fun z F3 H3 t M3 k3 g3 i3 => ?_
  split at k3
  · refine ⟨_, dq_bl i3, ?_⟩
    have at3 := g3.at'
    have so3 := sok_mono g3.ex so2
    split at k3
    · rw [if_pos (by assumption)]
      refine tD_to so3 at3 k3 fun w F4 H4 t4 M4 k4 g4 so4 at4 i4 => ?_
      refine h2' F4 H4 M4 y w v t4 _ _ at4 (is_mono (g3.trans g4).ex i2) i4 k4 fun w5 F5 H5 t5 M5 k5 g5 i5 => ?_
      split at k5
      · exact ⟨_, dq_bl i5, po _ F5 H5 M5 k5 ((((g1.trans g2).trans g3).trans g4).trans g5)⟩
      · exact k5.elim
    · rw [if_neg (by assumption)]
      exact ⟨_, rfl, po _ F3 H3 M3 k3 ((g1.trans g2).trans g3)⟩
  · exact k3.elim
end
end DL

set_option Elab.async false
set_option linter.all false
set_option maxRecDepth 100000
set_option maxHeartbeats 4000000
/-! DN: dicts by data: {}, displays, d[k], d[k] = v, d.get(k, x), dict(pairs), sorted(d), len(d). -/
namespace DL
open PySem PySem.Spec L2
open Evl (Ex)

abbrev KS := List (Key × Sl)
def valS (ks : KS) (k : Key) : Option Sl := (ks.find? fun kv => decide (kv.1 = k)).map (·.2)
def putS (ks : KS) (k : Key) (v : Sl) : KS := if (ks.any fun kv => decide (kv.1 = k)) = true then ks.map (fun kv => if kv.1 = k then (kv.1, v) else kv) else ks ++ [(k, v)]
def keyS : Sl → Option Key
  | .d (.int i) => some (.inl i)
  | .d (.str s) => some (.inr s)
  | _ => none
theorem keyS_at {K : PySem.W.Frag} {F : Hp} : ∀ {r : Sl} {v : V} {k : Key}, Is K F r v → keyS r = some k → v = kV k
  | .d (.int i), _, _, h, e => by cases e; exact dq_int h
  | .d (.str s), _, _, h, e => by cases e; exact dq_str h
  | .d .none, _, _, _, e => by simp [keyS] at e
  | .d (.bool _), _, _, _, e => by simp [keyS] at e
  | .d (.list _), _, _, _, e => by simp [keyS] at e
  | .d (.tuple _), _, _, _, e => by simp [keyS] at e
  | .d (.dict _), _, _, _, e => by simp [keyS] at e
  | .v _, _, _, _, e => by simp [keyS] at e
  | .r _, _, _, _, e => by simp [keyS] at e
  | .w _, _, _, _, e => by simp [keyS] at e
  | .e _ _, _, _, _, e => by simp [keyS] at e
  | .pe _ _ _, _, _, _, e => by simp [keyS] at e
section
variable {K : PySem.W.Frag} {F : Hp}
theorem valS_at {k : Key} : ∀ {ks : KS} {kvs : List (Key × V)}, All2 (KIs K F) ks kvs → (∀ r, valS ks k = some r → ∃ v, valV kvs k = some v ∧ Is K F r v) ∧ (valS ks k = none → valV kvs k = none)
  | _, _, .nil => ⟨fun r e => by simp [valS] at e, fun _ => rfl⟩
  | a :: as, b :: bs, .cons h t => by
    obtain ⟨i1, i2⟩ := valS_at (k := k) t
    by_cases e : a.1 = k
    · have e' : b.1 = k := h.1.symm.trans e
      refine ⟨fun r q => ⟨b.2, valV_pos e', ?_⟩, fun q => ?_⟩
      · simp [valS, List.find?_cons, e] at q
        subst q; exact h.2
      · simp [valS, List.find?_cons, e] at q
    · have e' : ¬ b.1 = k := fun z => e (h.1.trans z)
      have q0 : valS (a :: as) k = valS as k := by simp [valS, List.find?_cons, e]
      rw [q0, valV_neg e']
      exact ⟨i1, i2⟩
theorem any_at {k : Key} : ∀ {ks : KS} {kvs : List (Key × V)}, All2 (KIs K F) ks kvs → (ks.any fun kv => decide (kv.1 = k)) = (kvs.any fun kv => decide (kv.1 = k))
  | _, _, .nil => rfl
  | _, _, .cons h t => by rw [List.any_cons, List.any_cons, any_at t, h.1]
theorem map_at {k : Key} {r : Sl} {v : V} (h : Is K F r v) : ∀ {ks : KS} {kvs : List (Key × V)}, All2 (KIs K F) ks kvs → All2 (KIs K F) (ks.map fun kv => if kv.1 = k then (kv.1, r) else kv) (kvs.map fun kv => if kv.1 = k then (kv.1, v) else kv)
  | _, _, .nil => .nil
  | a :: _, _, .cons q t => by
    refine .cons ?_ (map_at h t)
    have q1 := q.1
    dsimp only
    by_cases e : (a : Key × Sl).1 = k
    · rw [if_pos e, if_pos (q1 ▸ e)]; exact ⟨q1, h⟩
    · rw [if_neg e, if_neg (q1 ▸ e)]; exact q
theorem putS_at {k : Key} {r : Sl} {v : V} {ks : KS} {kvs : List (Key × V)} (h : Is K F r v) (a : All2 (KIs K F) ks kvs) : All2 (KIs K F) (putS ks k r) (putK kvs k v) := by
  unfold putS putK
  rw [any_at a]
  split
  · exact map_at h a
  · exact a.append (.cons ⟨rfl, h⟩ .nil)
end
theorem valS_cons {k k' : Key} {v : Sl} {r : KS} : valS ((k', v) :: r) k = if k' = k then some v else valS r k := by
  unfold valS
  rw [List.find?_cons]
  by_cases h : k' = k
  · simp [h]
  · simp [h]
theorem valS_nil {k : Key} : valS [] k = none := rfl
theorem putS_new {ks : KS} {k : Key} {v : Sl} (h : k ∉ ks.map (·.1)) : putS ks k v = ks ++ [(k, v)] := by
  unfold putS
  rw [if_neg]
  intro z
  apply h
  obtain ⟨a, b, c⟩ := List.any_eq_true.mp z
  exact List.mem_map.mpr ⟨a, b, of_decide_eq_true c⟩
theorem valS_put (ks : KS) (k j : Key) (y : Sl) : valS (putS ks k y) j = if j = k then some y else valS ks j := by
  unfold putS
  split
  · rename_i h
    induction ks with
    | nil => cases h
    | cons a r ih =>
      obtain ⟨k', v⟩ := a
      rw [List.map_cons]
      by_cases e : k' = k
      · subst e
        simp only [if_true, valS_cons]
        by_cases ej : k' = j
        · subst ej; simp
        · rw [if_neg ej, if_neg (Ne.symm ej), if_neg ej]
          clear ih h
          induction r with
          | nil => rfl
          | cons b r ih =>
            obtain ⟨k2, v2⟩ := b
            rw [List.map_cons]
            by_cases e2 : k2 = k'
            · subst e2; simp only [if_true, valS_cons, if_neg ej]; exact ih
            · rw [if_neg e2]; simp only [valS_cons, ih]
      · rw [if_neg e]
        simp only [valS_cons]
        have h2 : (r.any fun kv => decide (kv.1 = k)) = true := by simpa [e] using h
        rw [ih h2]
        by_cases ej : k' = j
        · subst ej; simp [e]
        · simp [ej]
  · rename_i h
    have h2 : valS ks k = none := by
      unfold valS
      rw [Option.map_eq_none_iff, List.find?_eq_none]
      intro x hx hd
      exact h (List.any_eq_true.mpr ⟨x, hx, hd⟩)
    clear h
    induction ks with
    | nil => simp only [List.nil_append, valS_cons, valS_nil]; by_cases e : j = k
             · subst e; simp
             · rw [if_neg (Ne.symm e), if_neg e]
    | cons a r ih =>
      obtain ⟨k', v⟩ := a
      rw [valS_cons] at h2
      split at h2
      · cases h2
      · rename_i e
        rw [List.cons_append, valS_cons, valS_cons, ih h2]
        by_cases ej : k' = j
        · subst ej; simp [e]
        · simp [ej]
/-! ### d[k] -/
abbrev gDGet : W2 := fun p q M R => match p with
  | .v (.ref a) => ∃ ks k r, M a = some (.dic ks) ∧ keyS q = some k ∧ valS ks k = some r ∧ R r M
  | _ => False
section
variable {B C : Type} {o : Option MO} {ks : KS} {f : KS → Option B} {g : KS → B → Option C} {b : B} {c : C}
theorem d1 {k : KS → Prop} (h : o = some (.dic ks)) (hk : k ks) : ∃ x, o = some (.dic x) ∧ k x := ⟨ks, h, hk⟩
theorem d2 {k : KS → B → Prop} (h : o = some (.dic ks)) (h2 : f ks = some b) (hk : k ks b) : ∃ x y, o = some (.dic x) ∧ f x = some y ∧ k x y := ⟨ks, b, h, h2, hk⟩
theorem d3 {k : KS → B → C → Prop} (h : o = some (.dic ks)) (h2 : f ks = some b) (h3 : g ks b = some c) (hk : k ks b c) : ∃ x y z, o = some (.dic x) ∧ f x = some y ∧ g x y = some z ∧ k x y z := ⟨ks, b, c, h, h2, h3, hk⟩
end
section
variable {X : Cx} {a b c o i : Expr} {wa wb wc wo wi we : WE} {pos : Pos}
theorem pd_dget (hu : X.A.units + 1 < cLine) (ha : PD X a wa) (hb : PD X b wb) (hs : NoSl b := by exact fun _ _ => rfl) : PD X (.Subscript a b pos) (wOp gDGet wa wb) := by
  refine pe_imp (pe_dget hu ha hb hs) fun st H Q ⟨F, dl, M, R, so, at0, hw, po⟩ => ?_
  refine tD_to so at0 hw fun x F1 H1 p M1 h1 e1 so1 at1 i1 => ?_
  refine tD_to so1 at1 h1 fun y F2 H2 q M2 h2 e2 so2 at2 i2 => ?_
  unfold gDGet at h2
  split at h2
  · rename_i ad
    obtain ⟨ks, k, r, m, hk, hv, hR⟩ := h2
    have e : x = .ref ad := i1
    subst e
    obtain ⟨_, kvs, q1, q2⟩ := at2.mem ad _ m
    obtain ⟨v, z1, z2⟩ := (valS_at (k := k) q2).1 r hv
    refine ⟨ad, v, rfl, ?_, po _ F2 H2 _ M2 hR (e1.trans e2) z2⟩
    rw [keyS_at i2 hk, ← z1]
    exact DGet.k q1
  · exact h2.elim
/-- k in d -/
abbrev gDIn : W2 := fun q p M R => match p with
  | .v (.ref a) => ∃ ks k, M a = some (.dic ks) ∧ keyS q = some k ∧ R (.b (valS ks k).isSome) M
  | _ => False
theorem valS_isSome {K : PySem.W.Frag} {F : Hp} {k : Key} {ks : KS} {kvs : List (Key × V)} (h : All2 (KIs K F) ks kvs) : (valS ks k).isSome = (valV kvs k).isSome := by
  obtain ⟨h1, h2⟩ := valS_at (k := k) h
  cases e : valS ks k with
  | none => rw [h2 e]; rfl
  | some r => obtain ⟨v, z, _⟩ := h1 r e; rw [z]; rfl
theorem tD_din {X : Cx} {st : L2.St} {H : Hp} {Q : VK} (h : tD X.K (wOp gDIn wa wb) st H Q) : tDIn (tD X.K wa) (tD X.K wb) st H Q := by
  obtain ⟨F, dl, M, R, so, at0, hw, po⟩ := h
  refine tD_to so at0 hw fun x F1 H1 p M1 h1 e1 so1 at1 i1 => ?_
  refine tD_to so1 at1 h1 fun y F2 H2 q M2 h2 e2 so2 at2 i2 => ?_
  unfold gDIn at h2
  split at h2
  · rename_i ad
    obtain ⟨ks, k, m, hk, hR⟩ := h2
    have e : y = .ref ad := i2
    subst e
    obtain ⟨_, kvs, q1, q2⟩ := at2.mem ad _ m
    refine ⟨ad, _, rfl, by rw [keyS_at (is_mono e2.ex i1) hk]; exact DGet.k q1, ?_⟩
    rw [← valS_isSome q2]
    exact po _ F2 H2 _ M2 hR (e1.trans e2) (.bl _)
  · exact h2.elim
theorem pdt_din (hu : X.A.units + 1 < cLine) (ha : PD X a wa) (hb : PD X b wb) (hm : behindInMarks .In b = false := by rfl) : PDT X (.Compare a [.In] [b] pos) (wBl (wOp gDIn wa wb)) := by
  refine pt_imp (pt_cmp (pc_din hu ha hb) hm) fun st H Q ⟨F, dl, M, R, so, at0, hw, po⟩ => ?_
  refine tD_din (Q := fun x H' => ∃ k, x = V.bl k ∧ Q k H') ⟨F, dl, M, _, so, at0, hw, fun v F' H' r M' hr e i1 => ?_⟩
  split at hr
  · exact ⟨_, dq_bl i1, po _ F' H' M' hr e⟩
  · exact hr.elim
/-! ### d[k] = v -/
abbrev wDPut (we wo wi : WE) : WS := fun P dl M => we dl M fun v M1 => wo dl M1 fun p M2 => wi dl M2 fun q M3 => match p with
  | .v (.ref a) => ∃ ks k, M3 a = some (.dic ks) ∧ keyS q = some k ∧ ks.length < sizeLine ∧ P.nx dl (upM M3 a (.dic (putS ks k v)))
  | _ => False
theorem pds_dput {e : Expr} {pos' : Pos} (hu : X.A.units + 1 < cLine) (ho : PD X o wo) (hi : PD X i wi) (he : PD X e we) (hs : swapsWith e (some (.Subscript o i pos')) pos.line X.env = pure false := by rfl) : PDS X (.Assign [.Subscript o i pos'] e pos) (wDPut we wo wi) := by
  refine ps_imp (ps_dput hu ho hi he hs) fun D st H ⟨F, dl, M, P, so, at0, hw, po⟩ => ?_
  refine tD_to so at0 hw fun v F1 H1 r M1 h1 g1 so1 at1 i1 => ?_
  refine tD_to so1 at1 h1 fun x F2 H2 p M2 h2 g2 so2 at2 i2 => ?_
  refine tD_to so2 at2 h2 fun y F3 H3 q M3 h3 g3 so3 at3 i3 => ?_
  split at h3
  · rename_i ad
    obtain ⟨ks, k, m, hk, hz, hR⟩ := h3
    have e : x = .ref ad := i2
    subst e
    obtain ⟨_, kvs, q1, q2⟩ := at3.mem ad _ m
    refine ⟨ad, upd H3 ad (.dK (putK kvs k v)), rfl, ?_, po.nx _ F3 _ _ _ hR (((g1.trans g2).trans g3).trans (Go.put at3 m ⟨_, upd_same, putS_at (is_mono (g2.trans g3).ex i1) q2⟩)) so3⟩
    rw [keyS_at i3 hk]
    exact DPut.k q1 (by rw [← q2.length]; exact hz)
  · exact h3.elim
/-! ### {} -/
abbrev wDict0 : WE := fun _ M R => ∀ p, M p = none → R (.v (.ref p)) (upM M p (.dic []))
theorem pd_dict0 : PD X (.Dict [] [] pos) wDict0 := by
  refine pe_imp pe_dnewK fun st H Q ⟨F, dl, M, R, so, at0, hw, po⟩ p hp => ?_
  exact po _ F _ _ _ (hw p (at0.freeM hp)) (Go.new at0 hp ⟨[], upd_same, .nil⟩) rfl
/-! ### {k: v, ..} -/
abbrev WP := Env' → Mem → (KS → Mem → Prop) → Prop
abbrev wpNil : WP := fun _ M R => R [] M
abbrev wpCons (wk wv : WE) (wr : WP) : WP := fun dl M R => wk dl M fun q M1 => wv dl M1 fun v M2 => wr dl M2 fun ks M3 => ∃ k, keyS q = some k ∧ R ((k, v) :: ks) M3
def PDP (X : Cx) (pos : Pos) (keys : List (Option Expr)) (values : List Expr) (w : WP) : Prop := ∃ trs, PPs X pos keys values trs ∧ ∀ st H (Q : List (V × V) → Hp → Prop) F dl M (R : KS → Mem → Prop), SOk X.K F dl st → At X.K F M H → w dl M R →
  (∀ kvs F' H' ks M', R ks M' → Go X.K F M H F' M' H' → All2 (KIs X.K F') ks kvs → Q (kvs.map fun kv => (kV kv.1, kv.2)) H') → tPairs trs st H Q
theorem pdp_nil : PDP X pos [] [] wpNil := ⟨[], pps_nil, fun st H Q F dl M R so at0 hw po => po [] F H [] M hw (Go.refl at0) .nil⟩
theorem pdp_cons {k v : Expr} {ks : List (Option Expr)} {vs : List Expr} {wk wv : WE} {wr : WP} (hk : PD X k wk) (hv : PD X v wv) (hr : PDP X pos ks vs wr) : PDP X pos (some k :: ks) (v :: vs) (wpCons wk wv wr) := by
  obtain ⟨trs, h1, h2⟩ := hr
  refine ⟨(_, _) :: trs, pps_cons hk hv h1, fun st H Q F dl M R so at0 hw po => ?_⟩
  refine tD_to so at0 hw fun x F1 H1 q M1 k1 g1 so1 at1 i1 => ?_
  refine tD_to so1 at1 k1 fun y F2 H2 r M2 k2 g2 so2 at2 i2 => ?_
  refine h2 st H2 _ F2 dl M2 _ so2 at2 k2 fun kvs F3 H3 rs M3 k3 g3 i3 => ?_
  obtain ⟨kk, e, hR⟩ := k3
  have ex := keyS_at i1 e
  subst ex
  exact po ((kk, y) :: kvs) F3 H3 ((kk, r) :: rs) M3 hR ((g1.trans g2).trans g3) (.cons ⟨rfl, is_mono g3.ex i2⟩ i3)
def mergeS (ks more : KS) : KS := more.foldl (fun acc kv => putS acc kv.1 kv.2) ks
theorem mergeS_at {K : PySem.W.Frag} {F : Hp} : ∀ {more : KS} {mvs : List (Key × V)} {ks : KS} {kvs : List (Key × V)}, All2 (KIs K F) more mvs → All2 (KIs K F) ks kvs → All2 (KIs K F) (mergeS ks more) (mergeK kvs mvs)
  | _, _, _, _, .nil, h => h
  | a :: as, b :: bs, _, _, .cons q t, h => by
    show All2 _ (mergeS (putS _ a.1 a.2) as) (mergeK (putK _ b.1 b.2) bs)
    refine mergeS_at t ?_
    rw [q.1]
    exact putS_at q.2 h
abbrev wDisp (wp : WP) : WE := fun dl M R => ∀ p, M p = none → wp dl (upM M p (.dic [])) fun ks M2 => M2 p = some (.dic []) ∧ ks.length ≤ 15 ∧ R (.v (.ref p)) (upM M2 p (.dic (mergeS [] ks)))
theorem pd_disp {keys : List (Option Expr)} {values : List Expr} {wp : WP} (h : PDP X pos keys values wp) (hall : keys.all (·.isSome) = true := by rfl) (hl : keys.length = values.length := by rfl) (h0 : keys ≠ [] := by exact fun z => by cases z) (h15 : keys.length ≤ 15 := by decide) : PD X (.Dict keys values pos) (wDisp wp) := by
  obtain ⟨trs, h1, h2⟩ := h
  refine pe_imp (pe_disp h1 hall hl h0 h15) fun st H Q ⟨F, dl, M, R, so, at0, hw, po⟩ p hp => ?_
  have g0 : Go X.K F M H F (upM M p (.dic [])) (upd H p (.dK [])) := Go.new at0 hp ⟨[], upd_same, .nil⟩
  refine h2 st _ _ F dl _ _ so g0.at' (hw p (at0.freeM hp)) fun kvs F1 H1 ks M1 k1 g1 i1 => ?_
  obtain ⟨m, hz, hR⟩ := k1
  obtain ⟨_, kvs0, q1, q2⟩ := g1.at'.mem p _ m
  cases q2
  exact ⟨q1, kvs, rfl, by rw [← i1.length]; exact hz, po _ F1 _ _ _ hR ((g0.trans g1).trans (Go.put g1.at' m ⟨_, upd_same, mergeS_at i1 .nil⟩)) rfl⟩
end
end DL

set_option Elab.async false
set_option linter.all false
set_option maxRecDepth 100000
set_option maxHeartbeats 4000000
/-! DO: zip(xs, ys) of two lists over one name: each pair is a new plain tuple. -/
namespace DL
open PySem PySem.Spec PySem.Builtin.SmallTypes
/-- a zip of two: what is out, whether that is known -/
abbrev IsZ (h : Heap) (z TI TO : Addr) (v : Value) (f : Bool) : Prop := h.get? z = some { cls := .type "zip", dict := none, data := .fields #[v, .bool f, .bool false, .ref TI, .ref TO], slots := #[] }
section
variable {prog : Program} {w : World} {A : Around} {E : Value → Shared → Prop} {s : Shared} {z TI TO i1 i2 l1 l2 : Addr} {k1 k2 : Nat} {xs ys : Array Value} {x y a b v0 : Value} {f0 : Bool}
theorem zipF_item {Q : Value → Shared → Prop} (D : ZipApart z TI TO i1 i2 l1 l2) (hz : IsZ s.heap z TI TO v0 f0) (fr : ∀ R : Bool → Shared → Prop, R true s → wpAny (model prog w) A (ownedTupleIsFree (.ref z)) R E s)
    (pI : IsPair s.heap TI (.ref i1) (.ref i2)) (pO : IsPair s.heap TO a b) (t1 : s.heap.IsListIter i1 l1 k1) (t2 : s.heap.IsListIter i2 l2 k2) (y1 : s.heap.IsList l1 xs) (y2 : s.heap.IsList l2 ys) (hx : xs[k1]? = some x) (hy : ys[k2]? = some y)
    (hQ : ∀ g, IsZip g z TI TO (rawInt s.heap.objs.size) → IsPair g TO x y → g.IsListIter i1 l1 (k1 + 1) → g.IsListIter i2 l2 (k2 + 1) → IsPair g s.heap.objs.size x y → g.objs.size = s.heap.objs.size + 1 →
      (∀ c o, c ≠ z → c ≠ TO → c ≠ i1 → c ≠ i2 → s.heap.get? c = some o → g.get? c = some o) → Q (.ref s.heap.objs.size) { s with heap := g }) :
    wpAny (model prog w) A (Builtin.«zip.__next__» ⟨[.ref z], []⟩) (fun fin s2 => ∃ r, fin = .done (.ret r) ∧ Q r s2) E s := by
  refine wpAny_bind (m := field (.ref z) 2) (wpAny_field hz rfl (x := .bool false) rfl ?_)
  refine wpAny_bind (m := field (.ref z) 3) (wpAny_field hz rfl (x := .ref TI) rfl (wpAny_bind (wpAny_seqItems pI rfl ?_)))
  refine wpAny_bind (m := ownedTupleIsFree (.ref z)) (fr _ ?_)
  simp only [if_true]
  refine wpAny_bind (wpAny_rule (wpAny_bind (wpAny_field hz rfl (x := .ref TO) rfl (wpAny_bind (wpAny_setField_rec hz (by simp) fun g1 z1 s1 => wpAny_bind ?_)))))
  replace z1 : IsZ g1 z TI TO .ellipsis f0 := z1
  simp only [List.zipIdx_cons, List.zipIdx_nil, List.forIn_cons, List.forIn_nil]
  refine wpAny_bind (wpAny_bind (wpAny_onRaise (wpAny_bind (m := nextOf (.ref i1)) (wpAny_nextOf_list_item (t1.extBut s1.extBut D.i1z) (y1.extBut s1.extBut D.l1z) hx fun g2 u2 s2 => wpAny_pure ?_))))
  have o2 : IsPair g2 TO a b := s2.extBut _ _ D.TOi1 (s1.extBut _ _ D.TOz pO)
  refine wpAny_bind (wpAny_seqItems o2 rfl (wpAny_bind (wpAny_updateSeq_pair o2 fun g3 o3 s3 => wpAny_bind (wpAny_letGo (wpAny_pure ?_)))))
  replace o3 : IsPair g3 TO x b := o3
  have t2' := ((t2.extBut s1.extBut D.i2z).extBut s2.extBut D.i12.symm).extBut s3.extBut D.TOi2.symm
  have y2' := ((y2.extBut s1.extBut D.l2z).extBut s2.extBut D.l2i1).extBut s3.extBut D.l2TO
  refine wpAny_bind (wpAny_bind (wpAny_onRaise (wpAny_bind (m := nextOf (.ref i2)) (wpAny_nextOf_list_item t2' y2' hy fun g4 u4 s4 => wpAny_pure ?_))))
  have o4 : IsPair g4 TO x b := s4.extBut _ _ D.TOi2 o3
  refine wpAny_bind (wpAny_seqItems o4 rfl (wpAny_bind (wpAny_updateSeq_pair o4 fun g5 o5 s5 => wpAny_bind (wpAny_letGo (wpAny_pure (wpAny_pure ?_))))))
  replace o5 : IsPair g5 TO x y := o5
  refine wpAny_bind (wpAny_seqItems o5 rfl (wpAny_bind (wpAny_newTuple ?_)))
  have sz : g5.objs.size = s.heap.objs.size := by rw [s5.1, s4.1, s3.1, s2.1, s1.1]
  have z5 : IsZ g5 z TI TO .ellipsis f0 := s5.extBut _ _ D.TOz.symm (s4.extBut _ _ D.i2z.symm (s3.extBut _ _ D.TOz.symm (s2.extBut _ _ D.i1z.symm z1)))
  have k5 : ∀ c o, c ≠ z → c ≠ TO → c ≠ i1 → c ≠ i2 → s.heap.get? c = some o → g5.get? c = some o := fun c o c1 c2 c3 c4 e => s5.extBut _ _ c2 (s4.extBut _ _ c4 (s3.extBut _ _ c2 (s2.extBut _ _ c3 (s1.extBut _ _ c1 e))))
  have u5 : g5.IsListIter i1 l1 (k1 + 1) := ((u2.extBut s3.extBut D.TOi1.symm).extBut s4.extBut D.i12).extBut s5.extBut D.TOi1.symm
  have w5 : g5.IsListIter i2 l2 (k2 + 1) := u4.extBut s5.extBut D.TOi2.symm
  have lz : z < g5.objs.size := Heap.lt_size z5
  refine wpAny_bind (m := ownedTupleHandOut (.ref z) (.ref g5.objs.size)) ?_
  unfold ownedTupleHandOut
  have z6 : IsZ (g5.push { cls := .type "tuple", data := .seq #[x, y] }) z TI TO .ellipsis f0 := Heap.get?_push_of_some _ z5
  refine wpAny_bind (wpAny_setField_rec z6 (by simp) fun g7 z7 s7 => ?_)
  replace z7 : IsZ g7 z TI TO (rawInt g5.objs.size) f0 := z7
  refine wpAny_setField_rec z7 (by simp) fun g8 z8 s8 => wpAny_pure ⟨_, rfl, ?_⟩
  replace z8 : IsZip g8 z TI TO (rawInt g5.objs.size) := z8
  have up : ∀ c o, c ≠ z → g5.get? c = some o → g8.get? c = some o := fun c o c1 e => s8.extBut _ _ c1 (s7.extBut _ _ c1 (Heap.get?_push_of_some _ e))
  have p8 : IsPair g8 g5.objs.size x y := s8.extBut _ _ (Nat.ne_of_gt lz) (s7.extBut _ _ (Nat.ne_of_gt lz) (Heap.get?_push_size _ rfl))
  have q8 : g8.objs.size = g5.objs.size + 1 := by rw [s8.1, s7.1, Heap.size_push]
  rw [sz] at z8 p8 q8
  show Q (.ref g5.objs.size) _
  rw [sz]
  exact hQ g8 z8 (up _ _ D.TOz o5) (u5.at fun o e => up _ o D.i1z e) (w5.at fun o e => up _ o D.i2z e) p8 q8 fun c o c1 c2 c3 c4 e => up c o c1 (k5 c o c1 c2 c3 c4 e)
theorem zipF_end {Q : Fin → Shared → Prop} (hh : A.handled = none) (D : ZipApart z TI TO i1 i2 l1 l2) (hz : IsZ s.heap z TI TO v0 f0) (fr : ∀ R : Bool → Shared → Prop, R true s → wpAny (model prog w) A (ownedTupleIsFree (.ref z)) R E s)
    (pI : IsPair s.heap TI (.ref i1) (.ref i2)) (pO : IsPair s.heap TO a b) (t1 : s.heap.IsListIter i1 l1 k1) (t2 : s.heap.IsListIter i2 l2 k2) (y1 : s.heap.IsList l1 xs) (y2 : s.heap.IsList l2 ys) (he : xs[k1]? = none ∨ ys[k2]? = none)
    (hE : ∀ g e, (∀ c o, c ≠ z → c ≠ TO → c ≠ i1 → c ≠ i2 → s.heap.get? c = some o → g.get? c = some o) → (∃ o, g.get? e = some o ∧ o.cls = .type "StopIteration") → E (.ref e) { s with heap := g }) :
    wpAny (model prog w) A (Builtin.«zip.__next__» ⟨[.ref z], []⟩) Q E s := by
  refine wpAny_bind (m := field (.ref z) 2) (wpAny_field hz rfl (x := .bool false) rfl ?_)
  refine wpAny_bind (m := field (.ref z) 3) (wpAny_field hz rfl (x := .ref TI) rfl (wpAny_bind (wpAny_seqItems pI rfl ?_)))
  refine wpAny_bind (m := ownedTupleIsFree (.ref z)) (fr _ ?_)
  simp only [if_true]
  refine wpAny_bind (wpAny_rule (wpAny_bind (wpAny_field hz rfl (x := .ref TO) rfl (wpAny_bind (wpAny_setField_rec hz (by simp) fun g1 z1 s1 => wpAny_bind ?_)))))
  replace z1 : IsZ g1 z TI TO .ellipsis f0 := z1
  simp only [List.zipIdx_cons, List.zipIdx_nil, List.forIn_cons, List.forIn_nil]
  refine wpAny_bind (wpAny_bind (wpAny_onRaise (wpAny_bind (m := nextOf (.ref i1)) ?_)))
  cases hx : xs[k1]? with
  | none =>
    refine wpAny_nextOf_list_end hh (t1.extBut s1.extBut D.i1z) (y1.extBut s1.extBut D.l1z) hx fun g2 e s2 ⟨oe, he1, he2⟩ => ?_
    have z2 : IsZ g2 z TI TO .ellipsis f0 := s2 _ _ D.i1z.symm z1
    have ne : e ≠ z := fun q => by subst q; rw [z2] at he1; cases he1; simp at he2
    exact wpAny_setField_rec z2 (by simp) fun g3 _ s3 => hE g3 e (fun c o c1 _ c3 _ q => s3.extBut _ _ c1 (s2 _ _ c3 (s1.extBut _ _ c1 q))) ⟨oe, s3.extBut _ _ ne he1, he2⟩
  | some x =>
    have hy : ys[k2]? = none := he.elim (fun q => by rw [hx] at q; cases q) id
    refine wpAny_nextOf_list_item (t1.extBut s1.extBut D.i1z) (y1.extBut s1.extBut D.l1z) hx fun g2 u2 s2 => wpAny_pure ?_
    have o2 : IsPair g2 TO a b := s2.extBut _ _ D.TOi1 (s1.extBut _ _ D.TOz pO)
    refine wpAny_bind (wpAny_seqItems o2 rfl (wpAny_bind (wpAny_updateSeq_pair o2 fun g3 o3 s3 => wpAny_bind (wpAny_letGo (wpAny_pure ?_)))))
    have t2' := ((t2.extBut s1.extBut D.i2z).extBut s2.extBut D.i12.symm).extBut s3.extBut D.TOi2.symm
    have y2' := ((y2.extBut s1.extBut D.l2z).extBut s2.extBut D.l2i1).extBut s3.extBut D.l2TO
    refine wpAny_bind (wpAny_bind (wpAny_onRaise (wpAny_bind (m := nextOf (.ref i2)) (wpAny_nextOf_list_end hh t2' y2' hy fun g4 e s4 ⟨oe, he1, he2⟩ => ?_))))
    have z4 : IsZ g4 z TI TO .ellipsis f0 := s4 _ _ D.i2z.symm (s3.extBut _ _ D.TOz.symm (s2.extBut _ _ D.i1z.symm z1))
    have ne : e ≠ z := fun q => by subst q; rw [z4] at he1; cases he1; simp at he2
    exact wpAny_setField_rec z4 (by simp) fun g5 _ s5 => hE g5 e (fun c o c1 c2 c3 c4 q => s5.extBut _ _ c1 (s4 _ _ c4 (s3.extBut _ _ c2 (s2.extBut _ _ c3 (s1.extBut _ _ c1 q))))) ⟨oe, s5.extBut _ _ ne he1, he2⟩
/-- free: nothing is out, or what was out is gone -/
theorem free_none {R : Bool → Shared → Prop} (hz : IsZ s.heap z TI TO .none f0) (h : R true s) : wpAny (model prog w) A (ownedTupleIsFree (.ref z)) R E s := by
  unfold ownedTupleIsFree
  exact wpAny_bind (wpAny_field hz rfl (x := .none) rfl (wpAny_pure h))
theorem free_gone {T : Addr} {R : Bool → Shared → Prop} (hz : IsZ s.heap z TI TO (rawInt T) f0) (g : s.heap.get? T = none) (h : R true s) : wpAny (model prog w) A (ownedTupleIsFree (.ref z)) R E s := by
  unfold ownedTupleIsFree
  refine wpAny_bind (wpAny_field hz rfl (x := rawInt T) rfl ?_)
  show wpAny _ _ (loadIfAlive ((T : Int).toNat) >>= _) _ _ _
  rw [Int.toNat_natCast]
  have q : ∀ R : Option Obj → Shared → Prop, R none s → wpAny (model prog w) A (loadIfAlive T) R E s := fun R hr => by
    have hr2 : R (s.heap.get? T) s := by rw [g]; exact hr
    exact fun _ _ _ => hr2
  exact wpAny_bind (q _ (wpAny_pure h))
/-- what a zip may be like between two turns -/
structure ZSt (h : Heap) (z TI TO i1 i2 l1 l2 : Addr) (i : Nat) : Prop where
  z : ∃ v f, IsZ h z TI TO v f ∧ (v = .none ∨ ∃ T : Addr, v = rawInt T)
  pI : IsPair h TI (.ref i1) (.ref i2)
  pO : ∃ x y, IsPair h TO x y
  t1 : h.IsListIter i1 l1 i
  t2 : h.IsListIter i2 l2 i
theorem next_item {i : Nat} {Q : Option Value → Shared → Prop} (D : ZipApart z TI TO i1 i2 l1 l2) (S : ZSt s.heap z TI TO i1 i2 l1 l2 i) (y1 : s.heap.IsList l1 xs) (y2 : s.heap.IsList l2 ys) (hx : xs[i]? = some x) (hy : ys[i]? = some y)
    (hQ : ∀ g, ZSt g z TI TO i1 i2 l1 l2 (i + 1) → IsPair g s.heap.objs.size x y → (∀ c o, c ≠ z → c ≠ TO → c ≠ i1 → c ≠ i2 → s.heap.get? c = some o → g.get? c = some o) → Q (some (.ref s.heap.objs.size)) { s with heap := g }) : wpAny (model prog w) A (pyNext (.ref z)) Q E s := by
  obtain ⟨⟨v, f, hz, hv⟩, pI, ⟨a, b, pO⟩, t1, t2⟩ := S
  have hT : s.TypeIs (.ref z) "zip" := ⟨_, hz, rfl⟩
  have fin : (∀ (A : Around) (E : Value → Shared → Prop) (R : Bool → Shared → Prop), R true s → wpAny (model prog w) A (ownedTupleIsFree (.ref z)) R E s) → wpAny (model prog w) A (pyNext (.ref z)) Q E s := fun fr => by
    unfold pyNext
    refine wpAny_bind (wpAny_attempt (wpAny_callSpecial?_slot (name := Str.ofString "__next__") hT F.slot_zip_next (wpAny_call_entry F.slot_zip_next hT F.entry_zip_next ?_ (F.args_zip_next_1 _))))
    exact zipF_item D hz (fr _ _) pI pO t1 t2 y1 y2 hx hy fun g a1 a2 a3 a4 a5 a6 a7 => wpAny_pure (hQ g ⟨⟨_, _, a1, .inr ⟨_, rfl⟩⟩, a7 _ _ D.TIz D.TITO D.TIi1 D.TIi2 pI, ⟨_, _, a2⟩, a3, a4⟩ a5 a7)
  rcases hv with rfl | ⟨T, rfl⟩
  · exact fin fun _ _ _ h => free_none hz h
  · cases e : s.heap.get? T with
    | none => exact fin fun _ _ _ h => free_gone hz e h
    | some oT =>
      refine wpAny_pyNext_zip_item_held D hz e pI t1 t2 y1 y2 hx hy fun g a1 a2 a3 a4 a5 a6 => hQ g ⟨⟨_, _, a1, .inr ⟨_, rfl⟩⟩, a6 _ _ D.TIz D.TIi1 D.TIi2 pI, ⟨a, b, a6 _ _ D.TOz D.TOi1 D.TOi2 pO⟩, a2, a3⟩ a4 fun c o c1 _ c3 c4 q => a6 c o c1 c3 c4 q
theorem next_end {i : Nat} {Q : Option Value → Shared → Prop} (hh : A.handled = none) (D : ZipApart z TI TO i1 i2 l1 l2) (S : ZSt s.heap z TI TO i1 i2 l1 l2 i) (y1 : s.heap.IsList l1 xs) (y2 : s.heap.IsList l2 ys) (he : xs[i]? = none ∨ ys[i]? = none)
    (hQ : ∀ g, (∀ c o, c ≠ z → c ≠ TO → c ≠ i1 → c ≠ i2 → s.heap.get? c = some o → g.get? c = some o) → Q none { s with heap := g }) : wpAny (model prog w) A (pyNext (.ref z)) Q E s := by
  obtain ⟨⟨v, f, hz, hv⟩, pI, ⟨a, b, pO⟩, t1, t2⟩ := S
  have hT : s.TypeIs (.ref z) "zip" := ⟨_, hz, rfl⟩
  have fin : (∀ (A : Around) (E : Value → Shared → Prop) (R : Bool → Shared → Prop), R true s → wpAny (model prog w) A (ownedTupleIsFree (.ref z)) R E s) → wpAny (model prog w) A (pyNext (.ref z)) Q E s := fun fr => by
    unfold pyNext
    refine wpAny_bind (wpAny_attempt (wpAny_callSpecial?_slot (name := Str.ofString "__next__") hT F.slot_zip_next (wpAny_call_entry F.slot_zip_next hT F.entry_zip_next ?_ (F.args_zip_next_1 _))))
    refine zipF_end hh D hz (fr _ _) pI pO t1 t2 y1 y2 he fun g e k ⟨o, ho, hc⟩ => ?_
    exact wpAny_bind (wpAny_isInstance (T := "StopIteration") (b := true) ⟨o, ho, hc⟩ isSubtype_stop (wpAny_pure (hQ g k)))
  rcases hv with rfl | ⟨T, rfl⟩
  · exact fin fun _ _ _ h => free_none hz h
  · cases e : s.heap.get? T with
    | none => exact fin fun _ _ _ h => free_gone hz e h
    | some oT => exact wpAny_pyNext_zip_end_held hh D hz e pI t1 t2 y1 y2 he fun g k => hQ g fun c o c1 _ c3 c4 q => k c o c1 c3 c4 q
end
end DL
namespace DL
open PySem PySem.Spec L2
open Evl (Ex)
/-- the lists at a and b, each pair a new plain tuple -/
def ItzF (K : PySem.W.Frag) (a b : Addr) : It :=
  ⟨fun i H => ∃ (xs ys : List V) (x y : V), SqL K H a xs ∧ SqL K H b ys ∧ xs[i]? = some x ∧ ys[i]? = some y,
    fun i H v H' => ∃ T x y o, v = .ref T ∧ H T = none ∧ o.dict = none ∧ H' = upd H T (.frz o (.tup [x, y])) ∧ (∀ xs, SqL K H a xs → xs[i]? = some x) ∧ ∀ ys, SqL K H b ys → ys[i]? = some y,
    fun i H => ∃ xs ys : List V, SqL K H a xs ∧ SqL K H b ys ∧ (xs.length ≤ i ∨ ys.length ≤ i)⟩
theorem mem5 {z TI TO i1 i2 c : Addr} (h : c ∈ [z, TI, TO, i1, i2]) : c = z ∨ c = TI ∨ c = TO ∨ c = i1 ∨ c = i2 := by simpa using h
theorem turn_zipF {P : Program} {w : World} {K : PySem.W.Frag} {x : Str} {tpos : Pos} {a b z TI TO i1 i2 : Addr} (D : ZipApart z TI TO i1 i2 a b) :
    Turn P w K (.Name x tpos) (ItzF K a b) [z, TI, TO, i1, i2] z (fun i h => ZSt h z TI TO i1 i2 a b i) where
  mem := by simp
  obj := fun i h ⟨⟨v, f, hz, _⟩, pI, ⟨x, y, pO⟩, ⟨o1, e1, _, d1⟩, ⟨o2, e2, _, d2⟩⟩ c hc => by
    rcases mem5 hc with rfl | rfl | rfl | rfl | rfl
    · exact ⟨_, hz, fun v q => nomatch q⟩
    · exact ⟨_, pI, fun v q => nomatch q⟩
    · exact ⟨_, pO, fun v q => nomatch q⟩
    · exact ⟨o1, e1, fun v q => by rw [d1] at q; cases q⟩
    · exact ⟨o2, e2, fun v q => by rw [d2] at q; cases q⟩
  keep := fun i h g ⟨⟨v, f, hz, hv⟩, pI, ⟨x, y, pO⟩, t1, t2⟩ k =>
    ⟨⟨v, f, k z (by simp) _ hz, hv⟩, k TI (by simp) _ pI, ⟨x, y, k TO (by simp) _ pO⟩, t1.at fun o q => k i1 (by simp) o q, t2.at fun o q => k i2 (by simp) o q⟩
  item := by
    intro X hP hw hK hc i pins s st H E I hf S ⟨xs, ys, x, y, hqx, hqy, hx, hy⟩
    subst hP hw hK
    obtain ⟨us, rv, p, _⟩ := I.list hqx
    obtain ⟨ws, rv2, p2, _⟩ := I.list hqy
    obtain ⟨u, hu, ru⟩ := rv.get hx
    obtain ⟨u2, hu2, ru2⟩ := rv2.get hy
    refine next_item D S p.isList p2.isList (x := u) (y := u2) (by simpa using hu) (by simpa using hu2) fun g S2 pT k => ⟨_, rfl, wpAny_pure ?_⟩
    have J := I.turnedNew (T := s.heap.objs.size) (ob := .frz _ (.tup [x, y])) (h' := g) (t' := s.toks) (ch := [z, TI, TO, i1, i2]) (fun c o hb q => k c o (fun e => hb (by simp [e])) (fun e => hb (by simp [e])) (fun e => hb (by simp [e])) (fun e => hb (by simp [e])) q) hf (Nat.le_refl _)
      (show ObjOk X.prog X.w _ _ _ (.frz _ (.tup [x, y])) from ⟨pT, by show 2 ≤ sizeLine; decide, [u, u2], .cons ru (.cons ru2 .nil), ⟨_, pT, rfl, _, rfl⟩⟩)
    refine ⟨.ref s.heap.objs.size, _, J, rfl, ⟨_, x, y, _, rfl, I.hok.fresh (Nat.le_refl _), rfl, rfl, fun l hl => by rw [I.list_inj hl hqx]; exact hx, fun l hl => by rw [I.list_inj hl hqy]; exact hy⟩, S2, fun c hcm => ?_⟩
    have hlt : c < s.heap.objs.size := by
      obtain ⟨⟨v, f, hz, _⟩, pI, ⟨x, y, pO⟩, ⟨o1, e1, _, d1⟩, ⟨o2, e2, _, d2⟩⟩ := S
      rcases mem5 hcm with rfl | rfl | rfl | rfl | rfl
      · exact Heap.lt_size hz
      · exact Heap.lt_size pI
      · exact Heap.lt_size pO
      · exact Heap.lt_size e1
      · exact Heap.lt_size e2
    rw [upd_ne (Nat.ne_of_lt hlt)]
    exact (hf c hcm).1
  done := by
    intro X hP hw hK hc i pins s st H E I hf S ⟨xs, ys, hqx, hqy, hend⟩
    subst hP hw hK
    obtain ⟨us, rv, p, _⟩ := I.list hqx
    obtain ⟨ws, rv2, p2, _⟩ := I.list hqy
    have e1 := rv.length
    have e2 := rv2.length
    have he : us.toArray[i]? = none ∨ ws.toArray[i]? = none := hend.imp (fun q => by simp; omega) fun q => by simp; omega
    exact next_end (I.ok.hd hc) D S p.isList p2.isList he fun g k => ⟨rfl, I.turnedL (t' := s.toks) (ch := [z, TI, TO, i1, i2]) (fun c o hb q => k c o (fun e => hb (by simp [e])) (fun e => hb (by simp [e])) (fun e => hb (by simp [e])) (fun e => hb (by simp [e])) q) hf⟩
  self := fun A i s Q E S h => by
    obtain ⟨v, f, hz, _⟩ := S.z
    have hT : s.TypeIs (.ref z) "zip" := ⟨_, hz, rfl⟩
    exact wpAny_pyIter_slot hT F.slot_zip_iter (wpAny_call_entry F.slot_zip_iter hT F.entry_zip_iter (wpAny_pure ⟨_, rfl, "zip", _, hT, F.slot_zip_next.lookup, h⟩) (F.args_zip_iter_1 _))
section
variable {X : Cx} {e e2 : Expr} {wa : WA} {p pos tpos : Pos} {x : Str}
def zipD (xs ys : List PyData) : List PyData := (xs.zip ys).map fun (p : PyData × PyData) => .tuple [p.1, p.2]
abbrev wiZipN (wa : WA) : WI := fun dl M T => wa dl M fun rs M1 => match rs with
  | [.d (.list xs), .d (.list ys)] => T ((zipD xs ys).map Sl.d) C0 M1
  | _ => False
theorem pdi_zipN (hg : Gl X "zip") (hm : X.mg "zip" = none) (ha : PDA X [e, e2] wa) (hs : starEach [e, e2] X.env = (false, eval e X.env) :: starEach [e2] X.env := by rfl) (hpl : (backTo pos (starEach [e2] X.env)).any (·.1) = false := by rfl) :
    PDI X (.Name x tpos) (.Call (.Name "zip" p) [e, e2] [] pos) (wiZipN wa) := by
  refine ⟨fun pins s st H R I ⟨F, dl, M, T, so, at0, hw, po⟩ => ?_⟩
  refine PyProof.Rows.Call_ (ld_blt I hg hm PyProof.Rows.boot_zip (PyProof.Rows.callWith_type1 (thn (PA.run ha pos pins s st H (fun vs H1 => ∃ a b us ws, vs = [.ref a, .ref b] ∧ SqL X.K H1 a us ∧ SqL X.K H1 b ws ∧ R (ItzF X.K a b) H1) I ?_) fun us s1 ⟨vs, H1, I1, r1, q1⟩ => ?_) hs hpl))
  · refine tDA_to so at0 hw fun vs F1 H1 rs M1 h1 g1 so1 at1 i1 => ?_
    split at h1
    · rename_i xs ys
      obtain ⟨v, u, rfl, i2, i3⟩ := isAll2 i1
      cases i2 with
      | @lst a us _ q1 q2 =>
        cases i3 with
        | @lst b ws _ q3 q4 =>
          have hl : (zipD xs ys).length = min xs.length ys.length := by unfold zipD; rw [List.length_map, List.length_zip]
          refine ⟨a, b, us, ws, rfl, SqL.of (at1.ex _ _ q1), SqL.of (at1.ex _ _ q3), po F1 M1 H1 _ _ _ h1 g1 ⟨fun F M H i e at0 c hi => ?_, fun F M H i x H' r e at0 c y hr => ?_, fun F M H e at0 c => ?_⟩⟩
          · rw [List.length_map, hl] at hi
            obtain ⟨v1, z1, _⟩ := dqAll_get (i := i) q2 (List.getElem?_eq_getElem (by omega))
            obtain ⟨v2, z2, _⟩ := dqAll_get (i := i) q4 (List.getElem?_eq_getElem (by omega))
            exact ⟨us, ws, v1, v2, SqL.of (at0.ex _ _ (e _ _ q1)), SqL.of (at0.ex _ _ (e _ _ q3)), z1, z2⟩
          · obtain ⟨Tp, x1, x2, o, rfl, hT, ho, rfl, hx, hy⟩ := y
            rw [List.getElem?_map] at hr
            obtain ⟨d, hd, rfl⟩ := Option.map_eq_some_iff.mp hr
            unfold zipD at hd
            rw [List.getElem?_map] at hd
            obtain ⟨⟨d1, d2⟩, hd2, rfl⟩ := Option.map_eq_some_iff.mp hd
            rw [List.getElem?_zip_eq_some] at hd2
            obtain ⟨v1, z1, w1⟩ := dqAll_get (i := i) q2 hd2.1
            obtain ⟨v2, z2, w2⟩ := dqAll_get (i := i) q4 hd2.2
            have hx1 := hx us (SqL.of (at0.ex _ _ (e _ _ q1)))
            have hx2 := hy ws (SqL.of (at0.ex _ _ (e _ _ q3)))
            rw [z1] at hx1; rw [z2] at hx2
            obtain rfl : v1 = x1 := Option.some.inj hx1
            obtain rfl : v2 = x2 := Option.some.inj hx2
            have g := Go.laid at0 (o := .frz o (.tup [v1, v2])) hT
            exact ⟨_, g, .tup (.inl ⟨o, upd_same, ho⟩) (.cons (dq_mono (e.trans g.ex) w1) (.cons (dq_mono (e.trans g.ex) w2) .nil))⟩
          · rw [List.length_map, hl]
            refine ⟨us, ws, SqL.of (at0.ex _ _ (e _ _ q1)), SqL.of (at0.ex _ _ (e _ _ q3)), ?_⟩
            rw [dqAll_len q2, dqAll_len q4]
            omega
    · exact h1.elim
  · obtain ⟨a, b, xs, ys, ex, hqx, hqy, q⟩ := q1
    subst ex
    obtain ⟨u1, u2, rfl, r, r'⟩ := vals2 r1
    cases r
    cases r'
    obtain ⟨ts, rv, p1, _⟩ := I1.list hqx
    obtain ⟨ws, rv2, p2, _⟩ := I1.list hqy
    refine call_zip_2 p1.isList p2.isList fun g hz pI pO t1 t2 hsz hk => wpAny_pyIter_zip hz ?_
    have I2 : Inv X pins st H1 { s1 with heap := g } := I1.kept (t' := s1.toks) hk
    refine ⟨s1.heap.objs.size + 4, _, _, _, H1, rfl, I2, turn_zipF (PySem.W.ktu_apart s1.heap.objs.size a b p1.lt p2.lt), ⟨⟨_, _, hz, .inl rfl⟩, pI, ⟨_, _, pO⟩, t1, t2⟩, fun c hcm => ?_, q⟩
    have hle : s1.heap.objs.size ≤ c := by
      rcases mem5 hcm with rfl | rfl | rfl | rfl | rfl
      all_goals first | exact Nat.le_refl _ | exact Nat.le_add_right _ _
    exact I1.fpOk hle (I1.hok.fresh hle)
end
end DL

set_option Elab.async false
set_option linter.all false
set_option maxRecDepth 100000
set_option maxHeartbeats 4000000
/-! DP: d.get(k, x), dict(pairs), sorted(d), sorted of keyed pairs, a, *b = t, list(range(..)). -/
namespace DL
open PySem PySem.Spec L2
open Evl (Ex)
section
variable {X : Cx} {a b c o e f : Expr} {wa wb wc wo we wx : WE} {pos apos cpos : Pos}
/-! ### d.get(k, x), d.get(k) -/
abbrev wGet2 (wo we wx : WE) : WE := fun dl M R => wo dl M fun p M1 => match p with
  | .v (.ref a) => (∃ ks, M1 a = some (.dic ks)) ∧ we dl M1 fun q M2 => wx dl M2 fun z M3 => ∃ ks k r, M3 a = some (.dic ks) ∧ keyS q = some k ∧ some ((valS ks k).getD z) = some r ∧ R r M3
  | _ => False
theorem d0 {o : Option MO} {ks : KS} {k : Prop} (h : o = some (.dic ks)) (hk : k) : (∃ x, o = some (.dic x)) ∧ k := ⟨⟨ks, h⟩, hk⟩
theorem pd_get2 (hu : X.A.units + 1 < cLine) (ho : PD X o wo) (he : PD X e we) (hf : PD X f wx) (hbase : attributeBase o "get" X.env (eval o X.env) = eval o X.env := by rfl)
    (few : ((backTo cpos (starEach [e, f] X.env)).all (fun x => !x.1) && (backToKw cpos (keywordEach [] X.env)).all (fun x => x.1.isSome) && decide (([e, f] : List Expr).length + ([] : List Keyword).length + (if ([] : List Keyword).isEmpty then 0 else 1) < 30)) = true := by rfl)
    (line : (apos.endLine == cpos.line) = true := by rfl) (trees : backTo cpos (starEach [e, f] X.env) = [(false, eval e X.env), (false, eval f X.env)] := by rfl) : PD X (.Call (.Attribute o "get" apos) [e, f] [] cpos) (wGet2 wo we wx) := by
  refine pe_imp (pe_dget2 hu ho he hf ⟨hbase, few, line, trees⟩) fun st H Q ⟨F, dl, M, R, so, at0, hw, po⟩ => ?_
  refine tD_to so at0 hw fun x F1 H1 p M1 h1 g1 so1 at1 i1 => ?_
  split at h1
  · rename_i ad
    obtain ⟨⟨ks, m⟩, h1⟩ := h1
    have ex : x = .ref ad := i1
    subst ex
    obtain ⟨_, kvs, q1, _⟩ := at1.mem ad _ m
    refine ⟨ad, rfl, .inl ⟨kvs, .inl q1⟩, ?_⟩
    refine tD_to so1 at1 h1 fun y F2 H2 q M2 h2 g2 so2 at2 i2 => ?_
    refine tD_to so2 at2 h2 fun z F3 H3 r M3 h3 g3 so3 at3 i3 => ?_
    obtain ⟨ks, k, r, m, hk, hv, hR⟩ := h3
    obtain ⟨_, kvs, q1, q2⟩ := at3.mem ad _ m
    obtain ⟨z1, z2⟩ := valS_at (k := k) q2
    refine ⟨valV kvs k, by rw [keyS_at (is_mono g3.ex i2) hk]; exact DGet.k q1, ?_⟩
    cases hv
    cases ev : valS ks k with
    | none => rw [ev] at hR; rw [z2 ev]; exact po _ F3 H3 _ M3 hR ((g1.trans g2).trans g3) i3
    | some r => rw [ev] at hR; obtain ⟨v, e1, e2⟩ := z1 r ev; rw [e1]; exact po _ F3 H3 _ M3 hR ((g1.trans g2).trans g3) e2
  · exact h1.elim
abbrev wGet1 (wo we : WE) : WE := fun dl M R => wo dl M fun p M1 => match p with
  | .v (.ref a) => (∃ ks, M1 a = some (.dic ks)) ∧ we dl M1 fun q M3 => ∃ ks k r, M3 a = some (.dic ks) ∧ keyS q = some k ∧ some ((valS ks k).getD .n) = some r ∧ R r M3
  | _ => False
theorem pd_get1 (hu : X.A.units + 1 < cLine) (ho : PD X o wo) (he : PD X e we) (hbase : attributeBase o "get" X.env (eval o X.env) = eval o X.env := by rfl)
    (few : ((backTo cpos (starEach [e] X.env)).all (fun x => !x.1) && (backToKw cpos (keywordEach [] X.env)).all (fun x => x.1.isSome) && decide (([e] : List Expr).length + ([] : List Keyword).length + (if ([] : List Keyword).isEmpty then 0 else 1) < 30)) = true := by rfl)
    (line : (apos.endLine == cpos.line) = true := by rfl) (trees : backTo cpos (starEach [e] X.env) = [(false, eval e X.env)] := by rfl) : PD X (.Call (.Attribute o "get" apos) [e] [] cpos) (wGet1 wo we) := by
  refine pe_imp (pe_dget1 hu ho he ⟨hbase, few, line, trees⟩) fun st H Q ⟨F, dl, M, R, so, at0, hw, po⟩ => ?_
  refine tD_to so at0 hw fun x F1 H1 p M1 h1 g1 so1 at1 i1 => ?_
  split at h1
  · rename_i ad
    obtain ⟨⟨ks, m⟩, h1⟩ := h1
    have ex : x = .ref ad := i1
    subst ex
    obtain ⟨_, kvs, q1, _⟩ := at1.mem ad _ m
    refine ⟨ad, rfl, .inl ⟨kvs, .inl q1⟩, ?_⟩
    refine tD_to so1 at1 h1 fun y F3 H3 q M3 h3 g3 so3 at3 i2 => ?_
    obtain ⟨ks, k, r, m, hk, hv, hR⟩ := h3
    obtain ⟨_, kvs, q1, q2⟩ := at3.mem ad _ m
    obtain ⟨z1, z2⟩ := valS_at (k := k) q2
    refine ⟨valV kvs k, by rw [keyS_at i2 hk]; exact DGet.k q1, ?_⟩
    cases hv
    cases ev : valS ks k with
    | none => rw [ev] at hR; rw [z2 ev]; exact po _ F3 H3 _ M3 hR (g1.trans g3) .non
    | some r => rw [ev] at hR; obtain ⟨v, e1, e2⟩ := z1 r ev; rw [e1]; exact po _ F3 H3 _ M3 hR (g1.trans g3) e2
  · exact h1.elim
/-! ### dict(pairs) -/
def pairsD : List PyData → Option KS
  | [] => some []
  | .tuple [.int i, v] :: r => (pairsD r).map ((.inl i, .d v) :: ·)
  | .tuple [.str i, v] :: r => (pairsD r).map ((.inr i, .d v) :: ·)
  | _ => none
theorem dq_tup2 {K : PySem.W.Frag} {F : Hp} {v : V} {x y : PyData} (h : Dq K F v (.tuple [x, y])) : ∃ p u w, v = .ref p ∧ TqT K F p [u, w] ∧ Dq K F u x ∧ Dq K F w y := by
  cases h with
  | tup h1 h2 =>
    cases h2 with
    | cons a t =>
      cases t with
      | cons b t => cases t; exact ⟨_, _, _, rfl, h1, a, b⟩
theorem pairsD_at {K : PySem.W.Frag} {F : Hp} : ∀ {ds : List PyData} {ks : KS} {vs : List V}, pairsD ds = some ks → DqAll K F vs ds → ∃ (ps : List Addr) (kvs : List (Key × V)), vs = ps.map V.ref ∧ Paired (fun p kv => SqT K F p [kV kv.1, kv.2]) ps kvs ∧ All2 (KIs K F) ks kvs := by
  intro ds
  induction ds with
  | nil => intro ks vs h hd; cases h; cases hd; exact ⟨[], [], rfl, .nil, .nil⟩
  | cons d r ih =>
    intro ks vs h hd
    cases hd with
    | cons h1 h2 =>
      unfold pairsD at h
      split at h
      · rename_i e; cases e
      · rename_i i v r e
        cases e
        obtain ⟨ks', hk, rfl⟩ := Option.map_eq_some_iff.mp h
        obtain ⟨ps, kvs, rfl, q1, q2⟩ := ih hk h2
        obtain ⟨p, u, w, rfl, t, hu, hw⟩ := dq_tup2 h1
        rw [dq_int hu] at t
        exact ⟨p :: ps, (.inl i, w) :: kvs, rfl, .cons t.sq q1, .cons ⟨rfl, hw⟩ q2⟩
      · rename_i i v r e
        cases e
        obtain ⟨ks', hk, rfl⟩ := Option.map_eq_some_iff.mp h
        obtain ⟨ps, kvs, rfl, q1, q2⟩ := ih hk h2
        obtain ⟨p, u, w, rfl, t, hu, hw⟩ := dq_tup2 h1
        rw [dq_str hu] at t
        exact ⟨p :: ps, (.inr i, w) :: kvs, rfl, .cons t.sq q1, .cons ⟨rfl, hw⟩ q2⟩
      · cases h
theorem pairs_val {pins : List (Addr × Obj)} {st : St} {H : Hp} {s : Shared} (I : Inv X pins st H s) : ∀ {ps : List Addr} {kvs : List (Key × V)}, Paired (fun p kv => SqT X.K H p [kV kv.1, kv.2]) ps kvs →
    ∃ (vvs : List (Value × Value)) (prs : List (Key × Value)), KV kvs prs ∧ vvs.length = ps.length ∧ prs.length = ps.length ∧ ∀ j k v, vvs[j]? = some (k, v) → PySem.PairAt s.heap (ps.getD j 0) k v ∧ (∃ q, ps[j]? = some q) ∧ ∃ kk, prs[j]? = some (kk, v) ∧ keyIs kk k = true
  | _, _, .nil => ⟨[], [], .nil, rfl, rfl, fun j k v e => by simp at e⟩
  | _, _, .cons (a := p) (b := kv) h t => by
    obtain ⟨vvs, prs, r, l1, l2, hp⟩ := pairs_val I t
    obtain ⟨ws, rv, ht, _⟩ := I.tuple h
    obtain ⟨u, y, ei, ru, ry⟩ := vals2 rv
    subst ei
    refine ⟨(u, y) :: vvs, (kv.1, y) :: prs, .cons ⟨rfl, ry⟩ r, by simp [l1], by simp [l2], fun j k v e => ?_⟩
    cases j with
    | zero =>
      have e2 : (u, y) = (k, v) := Option.some.inj e
      cases e2
      exact ⟨.inl ht, ⟨p, rfl⟩, kv.1, rfl, kV_is (P := X.prog) (w := X.w) ru⟩
    | succ j =>
      obtain ⟨a1, ⟨q, a2⟩, kk, a3, a4⟩ := hp j k v (by simpa using e)
      exact ⟨by simpa using a1, ⟨q, by simpa using a2⟩, kk, by simpa using a3, a4⟩
/-- dict(t), t a tuple of pairs -/
theorem call_dictT (hcalm : X.calm = true) : CallR X (.type "dict") (fun xs H Q => ∃ (a : Addr) (ps : List Addr) (kvs : List (Key × V)), xs = [.ref a] ∧ TqT X.K H a (ps.map V.ref) ∧ Paired (fun p kv => SqT X.K H p [kV kv.1, kv.2]) ps kvs ∧
    ∀ p, H p = none → Q (.ref p) (upd H p (.dK (mergeK [] kvs)))) := by
  intro pins s st H xs us Q I r ⟨a, ps, kvs, ex, hq, hp, q⟩
  subst ex
  obtain ⟨u, eu, rx⟩ := vals1 r
  subst eu
  cases rx
  obtain ⟨ws, n, rv, pl, hz⟩ : ∃ (ws : List Value) (n : Nat), Vals (ps.map V.ref) ws ∧ PySem.PlainSeq "tuple" s.heap a ws.toArray ∧ ps.length ≤ sizeLine := by
    rcases hq with ⟨ob, hH, hd⟩ | ⟨ob, ws, n, hk, hc, hs, hz, rv, hd⟩
    · obtain ⟨e, z, ws, rv, ob2, e2, hc, n, hs⟩ := I.hok _ _ hH
      rw [e] at e2
      cases e2
      exact ⟨ws, n, rv, ⟨ob, n, e, hc, hd, hs⟩, by simpa using z⟩
    · refine ⟨ws.toList, n, rv, ⟨ob, n, I.kIn a ob hk, hc, hd, by simpa using hs⟩, ?_⟩
      have := rv.length
      simp only [Array.length_toList, List.length_map] at this
      omega
  have ei := refs_at rv
  subst ei
  obtain ⟨vvs, prs, rel, l1, l2, hv⟩ := pairs_val I hp
  have pi : PySem.PairItems s.heap (ps.map Value.ref).toArray (fun j => ps.getD j 0) vvs := by
    refine ⟨by simp [l1], fun j k v e => ?_⟩
    obtain ⟨a1, ⟨b, a2⟩, _⟩ := hv j k v e
    exact ⟨by simp [List.getD_eq_getElem?_getD, a2], a1⟩
  refine PySem.call_dict_pairs (knd := mixKind X.prog X.w) (kvs := prs) (PairArg.tuple a (ps.map Value.ref).toArray (fun j => ps.getD j 0) vvs) (I.ok.hd hcalm) ⟨pl, pi⟩ ⟨by rw [l1, l2], fun i key v hr => ?_⟩ (by rw [l1]; exact hz) fun g tk hd k => ?_
  · obtain ⟨_, _, kk, a3, a4⟩ := hv i key v hr
    exact ⟨kk, a3, a4⟩
  · have hm : (s.heap.objs.size == sysModules) = false := beq_eq_false_iff_ne.mpr (Nat.ne_of_gt I.big)
    have hlen : (mergeK [] kvs).length ≤ sizeLine := by
      refine Nat.le_trans (length_mergeK kvs []) ?_
      rw [List.length_nil, Nat.zero_add, rel.length, l2]
      exact hz
    have J : Inv X pins st (upd H s.heap.objs.size (.dK (mergeK [] kvs))) { s with heap := g, toks := tk } := I.laid (t' := tk) (fun b o e => k b o (fun z => nomatch z) e) (Nat.le_refl _) (show ObjOk X.prog X.w _ _ _ (.dK (mergeK [] kvs)) from ⟨hlen, hm, merged [] prs, KV.merge rel .nil, hd⟩)
    exact ⟨.ref s.heap.objs.size, _, J, rfl, q _ (I.hok.fresh (Nat.le_refl _))⟩
abbrev gDict : Sl → Mem → RK → Prop := fun r M R => match r with
  | .d (.tuple ds) => ∃ ks, pairsD ds = some ks ∧ ∀ p, M p = none → R (.v (.ref p)) (upM M p (.dic (mergeS [] ks)))
  | .d (.list ds) => ∃ ks, pairsD ds = some ks ∧ ∀ p, M p = none → R (.v (.ref p)) (upM M p (.dic (mergeS [] ks)))
  | _ => False
theorem paired_mono {K : PySem.W.Frag} {F H : Hp} (e : Ex F H) : ∀ {ps : List Addr} {kvs : List (Key × V)}, Paired (fun p kv => SqT K F p [kV kv.1, kv.2]) ps kvs → Paired (fun p kv => SqT K H p [kV kv.1, kv.2]) ps kvs
  | _, _, .nil => .nil
  | _, _, .cons h t => .cons (Evl.ex_t e h) (paired_mono e t)
theorem c_dict (hc : X.calm = true) : CaD X (.type "dict") (g1 gDict) := ca1 fun F H M v r R Q at0 i1 h1 po => by
  unfold gDict at h1
  split at h1
  · obtain ⟨ks, e, hR⟩ := h1
    cases i1 with
    | @tup ad vs _ q1 q2 =>
      obtain ⟨ps, kvs, rfl, z1, z2⟩ := pairsD_at e q2
      exact ⟨_, call_dictT hc, ad, ps, kvs, rfl, q1.mono at0.ex, paired_mono at0.ex z1, fun p hp => po _ F _ _ _ (hR p (at0.freeM hp)) (Go.new at0 hp ⟨_, upd_same, mergeS_at z2 .nil⟩) rfl⟩
  · obtain ⟨ks, e, hR⟩ := h1
    cases i1 with
    | @lst ad vs _ q1 q2 =>
      obtain ⟨ps, kvs, rfl, z1, z2⟩ := pairsD_at e q2
      exact ⟨_, call_dictP hc, ad, ps, kvs, rfl, SqL.of (at0.ex _ _ q1), paired_mono at0.ex z1, fun p hp => po _ F _ _ _ (hR p (at0.freeM hp)) (Go.new at0 hp ⟨_, upd_same, mergeS_at z2 .nil⟩) rfl⟩
  · exact h1.elim
/-! ### sorted(d) -/
def keysI : KS → Option (List Int)
  | [] => some []
  | (.inl i, _) :: r => (keysI r).map (i :: ·)
  | (.inr _, _) :: _ => none
theorem keysI_at {K : PySem.W.Frag} {F : Hp} : ∀ {ks : KS} {kvs : List (Key × V)} {ns : List Int}, All2 (KIs K F) ks kvs → keysI ks = some ns → kvs.map (·.1) = ns.map Sum.inl
  | [], _, _, .nil, e => by cases e; rfl
  | (.inl i, _) :: r, _, _, .cons h t, e => by
    simp only [keysI, Option.map_eq_some_iff] at e
    obtain ⟨rs, h1, rfl⟩ := e
    rw [List.map_cons, List.map_cons, keysI_at t h1, ← h.1]
  | (.inr _, _) :: _, _, _, .cons _ _, e => by cases e
abbrev gSortedD : Sl → Mem → RK → Prop := fun r M R => match r with
  | .v (.ref a) => ∃ ks ns, M a = some (.dic ks) ∧ keysI ks = some ns ∧ ns.length < 64 ∧ R (.d (.list ((srtI ns).map PyData.int))) M
  | _ => False
theorem c_sortedD (hc : X.calm = true) : CaD X (.builtin "sorted") (g1 gSortedD) := ca1 fun F H M v r R Q at0 i1 h1 po => by
  unfold gSortedD at h1
  split at h1
  · rename_i ad
    obtain ⟨ks, ns, m, e, hz, hR⟩ := h1
    have ex : v = .ref ad := i1
    subst ex
    obtain ⟨_, kvs, q1, q2⟩ := at0.mem ad _ m
    refine ⟨_, call_sortedDI hc, ad, kvs, ns, rfl, .inl q1, keysI_at q2 e, hz, fun ys p hp hs hn => ?_⟩
    have e4 := sorted_one (hp.trans (srtI_perm ns).symm) hs (srtI_sorted ns)
    subst e4
    exact po_dat at0 po hn hR fun F' e h => .lst h (dqAll_ints _)
  · exact h1.elim
/-! ### list(range(..)) -/
abbrev wLRg1 (wa : WE) : WE := fun dl M R => wa dl M fun r M1 => match r with
  | .d (.int n) => (0 ≤ n ∧ n ≤ 16777216) ∧ R (.d (.list ((List.range n.toNat).map fun (i : Nat) => .int (i : Int)))) M1
  | _ => False
abbrev wLRg2 (wa wb : WE) : WE := fun dl M R => wa dl M fun r M1 => wb dl M1 fun q M2 => match r, q with
  | .d (.int m), .d (.int n) => (0 ≤ m ∧ m ≤ n ∧ n ≤ 16777216) ∧ R (.d (.list ((List.range (n - m).toNat).map fun (i : Nat) => .int (m + (i : Int))))) M2
  | _, _ => False
theorem dqAll_rg {K : PySem.W.Frag} {F : Hp} (a b : Int) : DqAll K F (rgV a b) ((List.range (b - a).toNat).map fun (i : Nat) => .int (a + (i : Int))) := by
  unfold rgV
  generalize List.range (b - a).toNat = l
  induction l with
  | nil => exact .nil
  | cons x r ih => exact .cons (.int _) ih
theorem pd_listRg1 {p p2 q : Pos} (hc : X.calm = true) (hg : Gl X "list") (hm : X.mg "list" = none) (hg2 : Gl X "range") (hm2 : X.mg "range" = none) (ha : PD X a wa)
    (na : starEach [a] X.env = (false, eval a X.env) :: starEach [] X.env := by rfl) : PD X (.Call (.Name "list" p) [.Call (.Name "range" p2) [a] [] q] [] pos) (wLRg1 wa) := by
  refine pe_imp (pe_listRg hc hg hm (prg_1 hg2 hm2 ha na)) fun st H Q ⟨F, dl, M, R, so, at0, hw, po⟩ => ?_
  refine tD_to so at0 hw fun x F1 H1 r M1 h1 g1 so1 at1 i1 => ?_
  split at h1
  · rename_i n
    obtain ⟨⟨h0, h2⟩, hR⟩ := h1
    refine ⟨n, dq_int i1, RgOk.of_le (by omega) h2 (by omega) h0, fun c hc => po_dat at1 (po.mono g1) hc hR fun F' e h => .lst h ?_⟩
    have := dqAll_rg (K := X.K) (F := F') 0 n
    simpa using this
  · exact h1.elim
theorem pd_listRg2 {p p2 q : Pos} (hc : X.calm = true) (hg : Gl X "list") (hm : X.mg "list" = none) (hg2 : Gl X "range") (hm2 : X.mg "range" = none) (ha : PD X a wa) (hb : PD X b wb)
    (na : starEach [a, b] X.env = (false, eval a X.env) :: starEach [b] X.env := by rfl) (nb : starEach [b] X.env = (false, eval b X.env) :: starEach [] X.env := by rfl) (hp : (backTo q (starEach [b] X.env)).any (·.1) = false := by rfl) :
    PD X (.Call (.Name "list" p) [.Call (.Name "range" p2) [a, b] [] q] [] pos) (wLRg2 wa wb) := by
  refine pe_imp (pe_listRg hc hg hm (prg_2 hg2 hm2 ha hb na nb hp)) fun st H Q ⟨F, dl, M, R, so, at0, hw, po⟩ => ?_
  refine tD_to so at0 hw fun x F1 H1 r M1 h1 g1 so1 at1 i1 => ?_
  refine tD_to so1 at1 h1 fun y F2 H2 r2 M2 h2 g2 so2 at2 i2 => ?_
  split at h2
  · rename_i m n
    obtain ⟨⟨h0, h2, h3⟩, hR⟩ := h2
    exact ⟨m, n, dq_int i1, dq_int i2, RgOk.of_le h0 h3 (by omega) (by omega), fun c hc => po_dat at2 (po.mono (g1.trans g2)) hc hR fun F' e h => .lst h (dqAll_rg m n)⟩
  · exact h2.elim
end
end DL

set_option Elab.async false
set_option linter.all false
set_option maxRecDepth 100000
set_option maxHeartbeats 4000000
/-! DQ: a, *b = t; sorted of pairs with different int keys. -/
namespace DL
open PySem PySem.Spec PyProof.Rows
/-- a walk, from its k-th item on -/
theorem walk_shift {prog : Program} {w : World} {A : Around} {I : Addr} {fp wr : List Addr} {G : Array GenState → Array GenState → Prop} {n k : Nat} {P : Nat → Value → Prop} {S : Nat → Shared → Prop} (W : WalksS prog w A I fp wr G n P S) (hk : k ≤ n) :
    WalksS prog w A I fp wr G (n - k) (fun i => P (i + k)) (fun i => S (i + k)) where
  sub := W.sub
  grefl := W.grefl
  gtrans := W.gtrans
  frame := fun i s h tk st a b => W.frame (i + k) s h tk st a b
  item := fun i s Q E hi st hQ => W.item (i + k) s Q E (by omega) st fun v s2 a b c => hQ v s2 a (by rw [show i + 1 + k = i + k + 1 by omega]; exact b) c
  done := fun s Q E st hQ => W.done s Q E (by rw [show n - k + k = n by omega] at st; exact st) hQ
  self := fun i s Q E st h => W.self (i + k) s Q E st h
section
variable {prog : Program} {w : World} {A : Around} {E : Value → Shared → Prop} {s : Shared}
theorem unpack_star {t : Addr} {x : Value} {xs : List Value} {Q : List Value → Shared → Prop} (hh : A.handled = none) (ht : IsTup s.heap t (x :: xs).toArray) (hz : xs.length ≤ sizeLine)
    (hQ : ∀ (g : Heap) (tk : Nat), (∀ b o, s.heap.get? b = some o → g.get? b = some o) → Q [x, .ref g.objs.size] { s with heap := g.push { cls := .type "list", data := .seq xs.toArray }, toks := tk }) : wpAny (model prog w) A (unpackItems (.ref t) 2 (some 1)) Q E s := by
  have hlt : t ≠ s.heap.objs.size := by obtain ⟨o, ho, _⟩ := ht; exact Nat.ne_of_lt (Heap.lt_size ho)
  unfold unpackItems notIterableAtAll
  refine wpAny_bind (wpAny_bind (wpAny_specialOf ht.typeIs slot_tuple_iter.lookup (wpAny_pure ?_)))
  simp only [Bool.false_eq_true, if_false]
  refine wpAny_bind (wpAny_holding (iter_tuple ht ?_))
  refine wpAny_bind (wpAny_holding (draw_tuple hlt 1 0 _ _ ⟨_, Heap.get?_push_size _ rfl, rfl, rfl⟩ (ht.push _) (by simp) fun g1 it1 s1 => ?_))
  simp only [List.drop_zero, List.take_succ_cons, List.take_zero, List.length_cons, List.length_nil]
  rw [if_neg (by decide)]
  have t1 : IsTup g1 t (x :: xs).toArray := (ht.push _).extBut s1.extBut hlt
  have W := walk_shift (k := 1) (Walks.tuple (prog := prog) (w := w) (A := A.in1) (show A.in1.handled = none from hh) s.heap.objs.size t hlt (x :: xs).toArray).toS (by simp)
  have hfp : ∀ b ∈ [s.heap.objs.size, t], b < g1.objs.size := fun b hb => by
    simp only [List.mem_cons, List.not_mem_nil, or_false] at hb
    rcases hb with rfl | rfl
    · obtain ⟨o, e, _⟩ := it1; exact Heap.lt_size e
    · obtain ⟨o, e, _⟩ := t1; exact Heap.lt_size e
  refine wpAny_bind (wpAny_holding (wpAny_collect_iter (T := "tuple_iterator") (.inr (.inr (.inr rfl))) W (fun i s st => by obtain ⟨o, e, c, _⟩ := st.1; exact ⟨o, e, c⟩) ⟨it1, t1⟩ hfp (by simp) (fun s2 acc mv ac => ?_) (by simp; exact hz)))
  have ea : acc.toList = xs := by
    apply List.ext_getElem?
    intro j
    cases e : acc.toList[j]? with
    | none =>
      rw [List.getElem?_eq_none_iff, Array.length_toList, ac.1] at e
      simp at e
      rw [List.getElem?_eq_none (by omega)]
    | some v =>
      have q := ac.2 j v (by rw [← Array.getElem?_toList]; exact e)
      simpa using q.symm
  rw [ea, if_neg (by omega)]
  obtain ⟨g2, gn, dr, tk, os⟩ := s2
  obtain ⟨m1, m2, m3, m4, _⟩ := mv
  simp only at m1 m2 m3 m4
  subst m2 m3 m4
  refine wpAny_bind (wpAny_newList (wpAny_pure ?_) (by simp; exact hz))
  simp only [Nat.reduceSub, Nat.sub_zero, List.take_length, List.drop_length, List.append_nil, List.cons_append, List.nil_append]
  exact hQ g2 tk fun b o e => m1 b o (fun z => by
    simp only [List.mem_cons, List.not_mem_nil, or_false] at z
    exact absurd (Heap.lt_size e) (by rw [z]; exact Nat.lt_irrefl _)) (s1.extBut b o (Nat.ne_of_lt (Heap.lt_size e)) (Heap.get?_push_of_some _ e))
end
end DL
namespace DL
open PySem PySem.Spec L2
open Evl (Ex)
section
variable {X : Cx} {pos : Pos}
/-- a, *b = a tuple -/
def gStar (ws : WGs) : WG := fun r dl M R => match r with
  | .d (.tuple (x :: ds)) => ws [.d x, .d (.list ds)] dl M R
  | _ => False
theorem gs_go {ws : WGs} {x : PyData} {ds : List PyData} {dl : Env'} {M : Mem} {R : Env' → Mem → Prop} (h : ws [.d x, .d (.list ds)] dl M R) : gStar ws (.d (.tuple (x :: ds))) dl M R := h
theorem pdg_star {e f : Expr} {k : Nat} {ws : WGs} {sp : Pos} (hc : X.calm = true) (h : PDGs X [e, f] ws) (hn : (assignEach [e, .Starred f sp] X.env).length = 2 := by rfl) (hst : (assignEach [e, .Starred f sp] X.env).findIdx? (·.1) = some 1 := by rfl)
    (hm : (assignEach [e, .Starred f sp] X.env).map (·.2) = (assignEach [e, f] X.env).map (·.2) := by rfl) : PDG X (.Tuple [e, .Starred f sp] k pos) (gStar ws) := by
  refine ⟨fun pins s st H v u Q I r ⟨F, dl, M, q, R, so, at0, i1, hw, po⟩ => ?_⟩
  unfold gStar at hw
  split at hw
  · rename_i x ds
    obtain ⟨a, vs, rfl, h1, h2⟩ := sqT_at at0 i1
    cases r
    cases h2 with
    | @cons v vs _ _ a1 a2 =>
      obtain ⟨ws', rv, ht, hz⟩ := I.tuple h1
      cases rv with
      | @cons _ y _ ys r1 r2 =>
        rw [PyProof.Rows.assign_Tuple]
        refine wpAny_bind (wpAny_standAt ?_)
        unfold unpack
        rw [hn, hst, hm]
        have hl := r2.length
        refine wpAny_bind (wpAny_holding (unpack_star (I.ok.hd hc) ht (by rw [List.length_cons] at hz; omega) fun g tk kp => ?_))
        have I1 : Inv X pins st H { s with heap := g, toks := tk } := I.kept kp
        have hf : H g.objs.size = none := I1.hok.fresh (Nat.le_refl _)
        have J : Inv X pins st (upd H g.objs.size (.lst vs)) { s with heap := g.push { cls := .type "list", data := .seq ys.toArray }, toks := tk } := I1.laid (t' := tk) (fun _ _ e => Heap.get?_push_of_some _ e) (Nat.le_refl _) ⟨by rw [List.length_cons] at hz; omega, ys, 0, r2, Heap.get?_push_size _ rfl⟩
        have g1 := Go.laid at0 (o := .lst vs) hf
        have at1 := g1.at'
        have i2 : IsAll X.K (upd F g.objs.size (.lst vs)) [.d x, .d (.list ds)] [v, .ref g.objs.size] := .cons (dq_mono g1.ex a1) (.cons (.lst upd_same (dqAll_mono g1.ex a2)) .nil)
        exact PGs.run h pins _ st _ [v, .ref g.objs.size] _ Q J (.cons r1 (.cons (show RelV (.ref g.objs.size) (.ref g.objs.size) from rfl) .nil)) ⟨_, dl, M, _, R, sok_mono g1.ex so, at1, i2, hw, po.mono g1⟩
  · exact hw.elim
end
end DL
namespace DL
open PySem PySem.Spec PyProof.Rows Srt SrtO
/-- a pair whose first is an int -/
def IsKey (h : Heap) (v : Value) (x : Int) : Prop := ∃ a o t y n, v = .ref a ∧ h.get? a = some o ∧ o.cls = .type "tuple" ∧ o.data = .seq #[.int x t, y] n
theorem IsKey.keeps {h g : Heap} {v : Value} {x : Int} (p : IsKey h v x) (k : ∀ b o, h.get? b = some o → o.cls = .type "tuple" → g.get? b = some o) : IsKey g v x :=
  let ⟨a, o, t, y, n, e, ho, hc, hd⟩ := p; ⟨a, o, t, y, n, e, k _ _ ho hc, hc, hd⟩
def ltK (k : Value → Int) : Value → Value → Bool := fun v u => decide (k v < k u)
theorem swoK (k : Value → Int) : Swo (ltK k) := by
  refine ⟨fun x y h => ?_, fun x y z h1 h2 => ?_⟩
  · simp only [ltK, decide_eq_true_eq, decide_eq_false_iff_not] at *; omega
  · simp only [ltK, decide_eq_false_iff_not] at *; omega
section
variable {prog : Program} {w : World} {A : Around} {E : Value → Shared → Prop} {s : Shared}
theorem key_cmp {vs : List Value} {k : Value → Int} (hp : ∀ v ∈ vs, IsKey s.heap v (k v)) (inj : ∀ v ∈ vs, ∀ u ∈ vs, k v = k u → v = u) : Cmp prog w A s (tuples' true) (fun p => p.1 ∈ vs) (lt2 (ltK k)) := by
  intro p q hm hm2
  have h1 := hp _ hm
  have h2 := hp _ hm2
  show wpAny (model prog w) A (keyLt' (tuples' true) p.1 q.1) (fun r s2 => s2 = s ∧ r = decide (k p.1 < k q.1)) (fun _ _ => False) s
  by_cases e : k p.1 = k q.1
  · rw [inj _ hm _ hm2 e] at h1 ⊢
    obtain ⟨a, o, t, y, n, e1, ho, hc, hd⟩ := h2
    rw [e1, decide_eq_false (Int.lt_irrefl _)]
    refine PySem.W.kat_lt ho hd ho hd ?_
    show PySem.W.KatLex prog w A true (decide (2 < 2)) _ [(_, _), (y, y)] 0 s
    refine PySem.W.kat_cons (SeqAt.EqAt.same _ prog w _ _ (PySem.W.kat_yes (PySem.W.kat_cons (SeqAt.EqAt.same _ prog w _ _ (PySem.W.kat_yes (PySem.W.kat_nil ⟨rfl, rfl⟩))))))
  · obtain ⟨a, o, t, y, n, e1, ho, hc, hd⟩ := h1
    obtain ⟨b, o2, t2, y2, n2, e2, ho2, hc2, hd2⟩ := h2
    generalize k p.1 = i at *
    generalize k q.1 = j at *
    rw [e1, e2]
    refine PySem.W.kat_lt ho hd ho2 hd2 ?_
    show PySem.W.KatLex prog w A true (decide (2 < 2)) _ [(.int i t, .int j t2), (y, y2)] 0 s
    refine PySem.W.kat_cons (SeqAt.EqAt.int_int i t j t2 prog w _ _ ?_)
    rw [show (i == j) = false from beq_eq_false_iff_ne.mpr e]
    exact PySem.W.kat_no (oneLt_int ⟨rfl, rfl⟩)
theorem keys_first {h : Heap} : ∀ {vs : List Value}, (∀ v ∈ vs, ∃ x, IsKey h v x) → ∃ fs : List Value, PySem.W.KatTups h vs fs ∧ fs.length = vs.length ∧ ∀ f ∈ fs, ∃ x t, f = Value.int x t
  | [], _ => ⟨[], PySem.W.KatTups.nil, rfl, fun _ hm => by simp at hm⟩
  | v :: vs, hp => by
    obtain ⟨fs, h1, h2, h3⟩ := keys_first (vs := vs) fun u hm => hp u (List.mem_cons_of_mem _ hm)
    obtain ⟨x, a, o, t, y, n, e, ho, hc, hd⟩ := hp v List.mem_cons_self
    subst e
    refine ⟨.int x t :: fs, PySem.W.KatTups.cons ho hc hd rfl h1, by simp [h2], fun f hm => ?_⟩
    rcases List.mem_cons.mp hm with e | hm
    · exact ⟨x, t, e⟩
    · exact h3 f hm
theorem sorted_key {l : Addr} {vs : List Value} {k : Value → Int} {Q : Value → Shared → Prop} (hl : s.heap.IsList l vs.toArray) (hz : vs.length ≤ sizeLine) (hp : ∀ v ∈ vs, IsKey s.heap v (k v)) (inj : ∀ v ∈ vs, ∀ u ∈ vs, k v = k u → v = u)
    (h : ∀ (g : Heap) (d : Addr) (out : List Value), Srtd (ltK k) out → out.Perm vs → (∀ b o, s.heap.get? b = some o → g.get? b = some o) → s.heap.objs.size ≤ d → (∃ n, g.get? d = some (seqObj "list" out.toArray n)) → Q (.ref d) { s with heap := g }) :
    wpAny (model prog w) A (call (.builtin "sorted") [.ref l]) Q E s := by
  refine sorted_ord (swoK k) hl hz (fun h2 g a ha kk => ?_) fun out hs hb => h _ _ out hs hb.perm (fun b o e => sortedAll_old e) (Nat.le_succ _) (sortedAll_at s.heap vs out.toArray)
  intro g2 kp
  have hp2 : ∀ v ∈ vs, IsKey g2 v (k v) := fun v hm => (hp v hm).keeps fun b o e c => kp b o (fun z => by
    subst z
    exact absurd rfl (kk b o e).1) (kk b o e).2
  obtain ⟨fs, f1, f2, f3⟩ := keys_first fun v hm => ⟨_, hp2 v hm⟩
  refine ⟨tuples' true, fun R E2 hq => ?_, key_cmp hp2 inj⟩
  refine PySem.W.kat_kind (T := .type "int") f1 (by omega) (fun f hm => ?_) (by rfl) ?_
  · obtain ⟨x, t, rfl⟩ := f3 f hm
    exact PySem.W.Looks.now
  · rw [show (Value.type "int" != Value.type "tuple") = true by decide +kernel]
    exact hq
end
end DL
namespace DL
open PySem PySem.Spec L2
open Evl (Ex)
section
variable {X : Cx}
abbrev Kr (K : PySem.W.Frag) (H : Hp) (x : V) (n : Int) : Prop := ∃ t y, x = V.ref t ∧ SqT K H t [.int n, y]
theorem all2_inj {A B : Type} {R : A → B → Prop} {k : A → B} (hk : ∀ a b, R a b → k a = b) : ∀ {as : List A} {bs : List B}, All2 R as bs → bs.Nodup → ∀ x ∈ as, ∀ y ∈ as, k x = k y → x = y
  | _, _, .nil, _, x, hx, _, _, _ => by cases hx
  | a :: as, b :: bs, .cons h t, nd, x, hx, y, hy, e => by
    have n1 := List.nodup_cons.mp nd
    have kin : ∀ z ∈ as, k z ∈ bs := fun z hz => by
      obtain ⟨i, hi⟩ := List.getElem?_of_mem hz
      obtain ⟨c, h1, h2⟩ := t.get hi
      rw [hk _ _ h2]; exact List.mem_of_getElem? h1
    rcases List.mem_cons.mp hx with ex | hx
    · rcases List.mem_cons.mp hy with ey | hy
      · rw [ex, ey]
      · exact absurd (kin y hy) (by rw [← e, ex, hk _ _ h]; exact n1.1)
    · rcases List.mem_cons.mp hy with ey | hy
      · exact absurd (kin x hx) (by rw [e, ey, hk _ _ h]; exact n1.1)
      · exact all2_inj hk t n1.2 x hx y hy e
theorem all2_mem {A B : Type} {R : A → B → Prop} {as : List A} {bs : List B} (h : All2 R as bs) {x : A} (hx : x ∈ as) : ∃ b ∈ bs, R x b := by
  obtain ⟨i, hi⟩ := List.getElem?_of_mem hx
  obtain ⟨c, h1, h2⟩ := h.get hi
  exact ⟨c, List.mem_of_getElem? h1, h2⟩
open Classical in
/-- sorted(xs), xs a list of pairs whose firsts are different ints -/
theorem cr_sortedK : CallR X (.builtin "sorted") (fun vs H Q => ∃ (a : Addr) (xs : List V) (ns : List Int), vs = [V.ref a] ∧ SqL X.K H a xs ∧ All2 (Kr X.K H) xs ns ∧ ns.Nodup ∧
    ∀ k : V → Int, (∀ x n, Kr X.K H x n → k x = n) → ∀ ys p, ys.Pairwise (fun x y => k x ≤ k y) → ys.Perm xs → H p = none → Q (.ref p) (upd H p (.lst ys))) := by
  intro pins s st H vs us Q I r ⟨a, xs, ns, ex, hs, hx, nd, q⟩
  subst ex
  obtain ⟨ws, rv, hl, hz⟩ := I.list hs
  obtain ⟨u, eu, ru⟩ := vals1 r
  subst eu
  obtain rfl : u = Value.ref a := ru
  let k : V → Int := fun x => if h : ∃ n, Kr X.K H x n then h.choose else 0
  have hk : ∀ x n, Kr X.K H x n → k x = n := fun x n h => by
    have ex : ∃ n, Kr X.K H x n := ⟨n, h⟩
    show (if h : ∃ n, Kr X.K H x n then h.choose else 0) = n
    rw [dif_pos ex]
    obtain ⟨t, y, e1, h1⟩ := ex.choose_spec
    obtain ⟨t2, y2, e2, h2⟩ := h
    rw [e1] at e2
    cases e2
    have := I.tuple_inj h1 h2
    injection this with z _
    injection z
  have inj := all2_inj hk hx nd
  obtain ⟨e1, e2⟩ := refs_back rv fun x m => let ⟨_, _, t, _, e, _⟩ := all2_mem hx m; ⟨t, e⟩
  have mem : ∀ t, Value.ref t ∈ ws → V.ref t ∈ xs := fun t ht => by rw [e1]; exact List.mem_map.mpr ⟨_, ht, rfl⟩
  refine sorted_key (k := fun u => k (backV u)) hl.isList (by rw [← rv.length]; exact hz) (fun v hv => ?_) (fun v hv u hu e => ?_) fun g d out h1 h2 kp hd hn => ?_
  · obtain ⟨t, rfl⟩ := e2 v hv
    obtain ⟨n, _, hr⟩ := all2_mem hx (mem t hv)
    show IsKey s.heap (.ref t) (k (.ref t))
    rw [hk _ _ hr]
    obtain ⟨t2, y, e, ht⟩ := hr
    cases e
    obtain ⟨zs, r2, ⟨o, ho, hc, n, hd⟩, _⟩ := I.tuple ht
    obtain ⟨u1, u2, rfl, ri, rj⟩ := vals2 r2
    obtain ⟨t1, rfl⟩ := ri
    exact ⟨t, o, t1, u2, n, rfl, ho, hc, hd⟩
  · obtain ⟨t, rfl⟩ := e2 v hv
    obtain ⟨t2, rfl⟩ := e2 u hu
    have := inj _ (mem t hv) _ (mem t2 hu) e
    cases this
    rfl
  · have h3 : ∀ u ∈ out, ∃ a, u = Value.ref a := fun u hu => e2 u (h2.mem_iff.mp hu)
    obtain ⟨n, hn⟩ := hn
    have hb : (out.map backV).Perm xs := by rw [e1]; exact h2.map backV
    have J : Inv X pins st (upd H d (.lst (out.map backV))) { s with heap := g } := I.laid (t' := s.toks) kp hd ⟨by rw [hb.length_eq]; exact hz, out, n, vals_back h3, hn⟩
    refine ⟨.ref d, _, J, rfl, q k hk _ d ?_ hb (I.hok.fresh hd)⟩
    refine List.pairwise_map.mpr (h1.imp fun {x y} h => ?_)
    simp only [ltK, decide_eq_false_iff_not] at h
    omega
/-! ### by data -/
def keyD : PyData → Int
  | .tuple (.int i :: _) => i
  | _ => 0
def isKeyD : PyData → Bool
  | .tuple [.int _, _] => true
  | _ => false
def insD (x : PyData) : List PyData → List PyData
  | [] => [x]
  | y :: r => if keyD x ≤ keyD y then x :: y :: r else y :: insD x r
def srtD : List PyData → List PyData
  | [] => []
  | x :: r => insD x (srtD r)
theorem insD_perm (x : PyData) : ∀ l : List PyData, (insD x l).Perm (x :: l)
  | [] => List.Perm.refl _
  | y :: r => by
    unfold insD
    split
    · exact List.Perm.refl _
    · exact ((insD_perm x r).cons y).trans (List.Perm.swap x y r)
theorem srtD_perm : ∀ l : List PyData, (srtD l).Perm l
  | [] => List.Perm.refl _
  | x :: r => (insD_perm x (srtD r)).trans ((srtD_perm r).cons x)
theorem insD_sorted (x : PyData) : ∀ l : List PyData, l.Pairwise (fun a b => keyD a ≤ keyD b) → (insD x l).Pairwise fun a b => keyD a ≤ keyD b
  | [], _ => List.pairwise_singleton _ _
  | y :: r, h => by
    unfold insD
    have hy := List.pairwise_cons.mp h
    split
    · rename_i hx
      refine List.pairwise_cons.mpr ⟨fun z hz => ?_, h⟩
      rcases List.mem_cons.mp hz with rfl | hz
      · exact hx
      · exact Int.le_trans hx (hy.1 z hz)
    · rename_i hx
      refine List.pairwise_cons.mpr ⟨fun z hz => ?_, insD_sorted x r hy.2⟩
      rcases List.mem_cons.mp ((insD_perm x r).mem_iff.mp hz) with rfl | hz
      · omega
      · exact hy.1 z hz
theorem srtD_sorted : ∀ l : List PyData, (srtD l).Pairwise fun a b => keyD a ≤ keyD b
  | [] => List.Pairwise.nil
  | x :: r => insD_sorted x _ (srtD_sorted r)
theorem srtD_one : ∀ {l m : List PyData}, l.Perm m → l.Pairwise (fun a b => keyD a ≤ keyD b) → m.Pairwise (fun a b => keyD a ≤ keyD b) → (l.map keyD).Nodup → l = m
  | [], m, p, _, _, _ => (List.Perm.eq_nil p.symm).symm
  | x :: l, [], p, _, _, _ => absurd p.length_eq (by simp)
  | x :: l, y :: m, p, hl, hm, nd => by
    have h1 := List.pairwise_cons.mp hl
    have h2 := List.pairwise_cons.mp hm
    have n1 := List.nodup_cons.mp nd
    have e : x = y := by
      rcases List.mem_cons.mp (p.mem_iff.mp List.mem_cons_self) with e | e
      · exact e
      · rcases List.mem_cons.mp (p.mem_iff.mpr List.mem_cons_self) with e3 | e3
        · exact e3.symm
        · have a := h2.1 x e
          have b := h1.1 y e3
          exact absurd (List.mem_map.mpr ⟨y, e3, by omega⟩) n1.1
    subst e
    rw [srtD_one p.cons_inv h1.2 h2.2 n1.2]
theorem perm_all2 {A B : Type} {R : A → B → Prop} {l m : List A} (p : l.Perm m) : ∀ {ds : List B}, All2 R m ds → ∃ es, All2 R l es ∧ es.Perm ds := by
  induction p with
  | nil => intro ds h; exact ⟨ds, h, List.Perm.refl _⟩
  | cons x _ ih =>
    intro ds h
    cases h with
    | cons a t =>
      obtain ⟨es, h1, h2⟩ := ih t
      exact ⟨_, .cons a h1, h2.cons _⟩
  | swap x y l =>
    intro ds h
    cases h with
    | cons a t =>
      cases t with
      | cons b t => exact ⟨_, .cons b (.cons a t), List.Perm.swap _ _ _⟩
  | trans _ _ i1 i2 =>
    intro ds h
    obtain ⟨es, h1, h2⟩ := i2 h
    obtain ⟨fs, h3, h4⟩ := i1 h1
    exact ⟨fs, h3, h4.trans h2⟩
abbrev gSortedK : Sl → Mem → RK → Prop := fun r M R => ∃ ss ds, lsOf M r = some ss ∧ datOf ss = some ds ∧ ds.all isKeyD = true ∧ (ds.map keyD).Nodup ∧ R (.d (.list (srtD ds))) M
theorem keyD_at {K : PySem.W.Frag} {F : Hp} {v : V} {d : PyData} (h : Dq K F v d) (e : isKeyD d = true) : ∃ t y, v = .ref t ∧ SqT K F t [.int (keyD d), y] := by
  unfold isKeyD at e
  split at e
  · obtain ⟨p, u, w, rfl, t, hu, hw⟩ := dq_tup2 h
    rw [dq_int hu] at t
    exact ⟨p, w, rfl, t.sq⟩
  · cases e
theorem all2_of_dq {K : PySem.W.Frag} {F : Hp} : ∀ {ds : List PyData} {vs : List V}, DqAll K F vs ds → All2 (fun v d => Dq K F v d) vs ds
  | _, _, .nil => .nil
  | _, _, .cons a t => .cons a (all2_of_dq t)
theorem dq_of_all2 {K : PySem.W.Frag} {F : Hp} : ∀ {ds : List PyData} {vs : List V}, All2 (fun v d => Dq K F v d) vs ds → DqAll K F vs ds
  | _, _, .nil => .nil
  | _, _, .cons a t => .cons a (dq_of_all2 t)
theorem all2_keys {K : PySem.W.Frag} {F H : Hp} (e : Ex F H) : ∀ {ds : List PyData} {vs : List V}, All2 (fun v d => Dq K F v d) vs ds → ds.all isKeyD = true → All2 (Kr K H) vs (ds.map keyD)
  | _, _, .nil, _ => .nil
  | d :: ds, _, .cons a t, h => by
    rw [List.all_cons, Bool.and_eq_true] at h
    obtain ⟨p, y, e1, e2⟩ := keyD_at a h.1
    exact .cons ⟨p, y, e1, Evl.ex_t e e2⟩ (all2_keys e t h.2)
theorem c_sortedK : CaD X (.builtin "sorted") (g1 gSortedK) := ca1 fun F H M v r R Q at0 i1 h1 po => by
  obtain ⟨ss, ds, e1, e2, hk, nd, hR⟩ := h1
  obtain ⟨a, vs, rfl, q1, q2⟩ := lsOf_at at0 i1 e1
  rw [datOf_eq e2] at q2
  have al := all2_of_dq (dqAll_of q2)
  refine ⟨_, cr_sortedK, a, vs, ds.map keyD, rfl, SqL.of q1, all2_keys at0.ex al hk, nd, fun k hkx ys p hs hp hn => ?_⟩
  obtain ⟨es, a1, a2⟩ := perm_all2 hp al
  have ke : es.all isKeyD = true := by
    rw [List.all_eq_true] at hk ⊢
    exact fun x hx => hk x (a2.mem_iff.mp hx)
  have hs2 : es.Pairwise fun a b => keyD a ≤ keyD b := by
    have h3 := all2_keys at0.ex a1 ke
    clear hp a2 al ke hR
    clear hn
    revert hs h3
    induction a1 with
    | nil => intro _ _; exact List.Pairwise.nil
    | @cons v d vs' ds' h t ih =>
      intro hs h3
      cases h3 with
      | cons b1 b2 =>
        have hs := List.pairwise_cons.mp hs
        refine List.pairwise_cons.mpr ⟨fun z hz => ?_, ih hs.2 b2⟩
        obtain ⟨i, hi⟩ := List.getElem?_of_mem hz
        obtain ⟨x, g1, g2⟩ := b2.get' (b := keyD z) (i := i) (by rw [List.getElem?_map, hi]; rfl)
        have := hs.1 x (List.mem_of_getElem? g1)
        rw [hkx _ _ b1, hkx _ _ g2] at this
        exact this
  have e5 : es = srtD ds := srtD_one (a2.trans (srtD_perm ds).symm) hs2 (srtD_sorted ds) ((a2.map keyD).nodup_iff.mpr nd)
  subst e5
  exact po_dat at0 po hn hR fun F' e h => .lst h (dqAll_mono e (dq_of_all2 a1))
end
end DL

set_option Elab.async false
set_option linter.all false
set_option maxRecDepth 100000
set_option maxHeartbeats 4000000
/-! DR: comprehensions over typed lists, over draws; memory. -/
namespace DL
open PySem PySem.Spec L2
section
variable {g : WG} {wt : WT} {we : WE} {C : Mem → Prop} {dl : Env'} {R : List Sl → Mem → Prop} {M : Mem}
/-- nothing changes; an item is kept or not -/
theorem lc_fm {A : Type} (l : List A) (φ : A → Sl) (f : A → Option Sl) (hC : C M) (hz : l.length ≤ sizeLine)
    (h : ∀ a ∈ l, ∀ (k1 : Sl → Mem → Prop) (k0 : Mem → Prop), (∀ y, f a = some y → k1 y M) → (f a = none → k0 M) → g (φ a) dl M fun dl2 M2 => wt dl2 M2 fun k M3 => if k = true then we dl2 M3 k1 else k0 M3)
    (hR : R (l.filterMap f) M) : lcGo g wt we C dl R (l.map φ) [] M := by
  suffices hs : ∀ (l' : List A) (acc : List Sl), (∀ a ∈ l', a ∈ l) → acc.length + l'.length ≤ sizeLine → R (acc ++ l'.filterMap f) M → lcGo g wt we C dl R (l'.map φ) acc M from hs l [] (fun _ h => h) (by simpa using hz) hR
  intro l'
  induction l' with
  | nil => intro acc _ _ h; exact ⟨hC, by simpa using h⟩
  | cons a r ih =>
    intro acc hm hl hr
    rw [List.length_cons] at hl
    refine ⟨hC, h a (hm a List.mem_cons_self) _ _ (fun y hy => ⟨by omega, ih _ (fun b hb => hm b (List.mem_cons_of_mem _ hb)) (by simp; omega) ?_⟩) fun hy => ih _ (fun b hb => hm b (List.mem_cons_of_mem _ hb)) (by omega) ?_⟩
    · rw [List.filterMap_cons_some hy] at hr
      simpa using hr
    · rwa [List.filterMap_cons_none hy] at hr
/-- .. each is kept -/
theorem lc_m {A : Type} (l : List A) (φ f : A → Sl) (hC : C M) (hz : l.length ≤ sizeLine)
    (h : ∀ a ∈ l, ∀ (k1 : Sl → Mem → Prop) (k0 : Mem → Prop), k1 (f a) M → g (φ a) dl M fun dl2 M2 => wt dl2 M2 fun k M3 => if k = true then we dl2 M3 k1 else k0 M3)
    (hR : R (l.map f) M) : lcGo g wt we C dl R (l.map φ) [] M :=
  lc_fm l φ (fun a => some (f a)) hC hz (fun a ha k1 k0 h1 _ => h a ha k1 k0 (h1 _ rfl)) (by simpa [List.filterMap_eq_map'] using hR)
/-- each is made while something changes -/
theorem lc_seq {items : List Sl} (I : Nat → List Sl → Mem → Prop) (hz : items.length ≤ sizeLine) (h0 : I 0 [] M)
    (h : ∀ i x acc M (nx : Sl → Mem → Prop) (k0 : Mem → Prop), items[i]? = some x → acc.length = i → I i acc M → (∀ y M, I (i + 1) (acc ++ [y]) M → nx y M) → C M ∧ g x dl M fun dl2 M2 => wt dl2 M2 fun k M3 => if k = true then we dl2 M3 nx else k0 M3)
    (hR : ∀ acc M, acc.length = items.length → I items.length acc M → C M ∧ R acc M) : lcGo g wt we C dl R items [] M := by
  suffices hs : ∀ (n : Nat) (acc : List Sl) (M : Mem) (i : Nat), i + n = items.length → acc.length = i → I i acc M → lcGo g wt we C dl R (items.drop i) acc M from by simpa using hs items.length [] M 0 (by omega) rfl h0
  intro n
  induction n with
  | zero =>
    intro acc M i hi ha hI
    have e : i = items.length := by omega
    subst e
    rw [List.drop_length]
    exact hR acc M ha hI
  | succ n ih =>
    intro acc M i hi ha hI
    have hlt : i < items.length := by omega
    rw [List.drop_eq_getElem_cons hlt]
    obtain ⟨hc, hg⟩ := h i items[i] acc M (fun y M4 => acc.length < sizeLine ∧ lcGo g wt we C dl R (items.drop (i + 1)) (acc ++ [y]) M4) (lcGo g wt we C dl R (items.drop (i + 1)) acc) (List.getElem?_eq_getElem hlt) ha hI fun y M4 hy => ⟨by omega, ih _ _ _ (by omega) (by simp [ha]) hy⟩
    exact ⟨hc, hg⟩
end
theorem blsOf_map : ∀ bs : List Bool, blsOf ((bs.map PyData.bool).map Sl.d) = some bs
  | [] => rfl
  | b :: r => by rw [List.map_cons, List.map_cons, blsOf, blsOf_map r]; rfl
theorem blsOf_f {A : Type} (l : List A) (f : A → Bool) : blsOf ((l.map fun a => PyData.bool (f a)).map Sl.d) = some (l.map f) := by
  rw [← blsOf_map (l.map f), List.map_map (l := l) (f := f)]; rfl
theorem all_mapid {A : Type} (l : List A) (f : A → Bool) : (l.map f).all id = l.all f := by rw [List.all_map]; rfl
theorem intsOf_mapD (ns : List Int) : intsOf ((ns.map PyData.int).map Sl.d) = some ns := by rw [← mapI]; exact intsOf_map ns
theorem mapD_d {A : Type} (l : List A) (f : A → PyData) : (l.map fun a => Sl.d (f a)) = (l.map f).map Sl.d := by rw [List.map_map]; rfl
theorem zipS_map {A : Type} (l m : List A) (f : A → PyData) : zipS (l.map f) (m.map f) = (l.zip m).map fun p => Sl.w [f p.1, f p.2] := by
  unfold zipS
  rw [List.zip_map, List.map_map]
  rfl
theorem zipS_map2 {A B : Type} (l : List A) (m : List B) (f : A → PyData) (h : B → PyData) : zipS (l.map f) (m.map h) = (l.zip m).map fun p => Sl.w [f p.1, h p.2] := by
  unfold zipS
  rw [List.zip_map, List.map_map]
  rfl
theorem zipD_map2 {A B : Type} (l : List A) (m : List B) (f : A → PyData) (h : B → PyData) : zipD (l.map f) (m.map h) = (l.zip m).map fun p => PyData.tuple [f p.1, h p.2] := by
  unfold zipD
  rw [List.zip_map, List.map_map]
  rfl
theorem atI_map0 {A B : Type} {f : A → B} {x : A} {r : List A} : atI ((x :: r).map f) 0 = some (f x) := atI_nat (i := 0) rfl
theorem atI_map1 {A B : Type} {f : A → B} {x y : A} {r : List A} : atI ((x :: y :: r).map f) 1 = some (f y) := atI_nat (i := 1) rfl
theorem atI_last {A : Type} {l : List A} {x : A} (h : l.getLast? = some x) : atI l (-1) = some x := by
  have hl : l ≠ [] := fun e => by rw [e] at h; cases h
  have h0 : 0 < l.length := List.length_pos_iff.mpr hl
  rw [List.getLast?_eq_getElem?] at h
  unfold atI ixN
  rw [if_neg (by omega), if_pos (by omega)]
  have e : ((l.length : Int) + -1).toNat = l.length - 1 := by omega
  show l[((l.length : Int) + -1).toNat]? = some x
  rw [e]; exact h
theorem map_erase {A B : Type} (f : A → B) : ∀ (l : List A) (i : Nat), (l.map f).eraseIdx i = (l.eraseIdx i).map f
  | [], _ => rfl
  | _ :: _, 0 => rfl
  | a :: r, i + 1 => by rw [List.map_cons, List.eraseIdx_cons_succ, map_erase f r i, List.eraseIdx_cons_succ, List.map_cons]
theorem erase_perm {A : Type} : ∀ {l : List A} {i : Nat} {x : A}, l[i]? = some x → (x :: l.eraseIdx i).Perm l
  | [], _, _, h => by simp at h
  | a :: r, 0, x, h => by simp at h; subst h; exact List.Perm.refl _
  | a :: r, i + 1, x, h => by
    rw [List.eraseIdx_cons_succ]
    exact (List.Perm.swap a x _).trans ((erase_perm (by simpa using h)).cons a)
section
variable {M : Mem} {p : Addr} {ss : List Sl} {ks : KS}
theorem lsOf_m (h : M p = some (.lst ss)) : lsOf M (.v (.ref p)) = some ss := by simp only [lsOf, h]
theorem rlOf_m (h : M p = some (.lst ss)) : rlOf M (.v (.ref p)) = some ss := by simp only [rlOf, lsOf, h]
theorem sqOf_m (h : M p = some (.lst ss)) : sqOf M (.v (.ref p)) = some ss := by simp only [sqOf, rlOf, lsOf, h]
theorem sqOf'_m (h : M p = some (.lst ss)) : sqOf' M (.v (.ref p)) = some ss := by simp only [sqOf', lsOf, h]
theorem tru_l (h : M p = some (.lst ss)) : tru M (.v (.ref p)) = some (!ss.isEmpty) := by simp only [tru, h]
theorem tru_d (h : M p = some (.dic ks)) : tru M (.v (.ref p)) = some (!ks.isEmpty) := by simp only [tru, h]
end
/-! ### memory: what stays -/
/-- all but some of it stays -/
def Kp (ex : List Addr) (M M' : Mem) : Prop := ∀ a o, a ∉ ex → M a = some o → M' a = some o
theorem Kp.refl (ex : List Addr) (M : Mem) : Kp ex M M := fun _ _ _ h => h
theorem Kp.trans {ex : List Addr} {M M1 M2 : Mem} (a : Kp ex M M1) (b : Kp ex M1 M2) : Kp ex M M2 := fun x o h e => b x o h (a x o h e)
theorem Kp.up {ex : List Addr} {M M' : Mem} {p : Addr} {o : MO} (h : Kp ex M M') (hp : p ∈ ex) : Kp ex M (upM M' p o) := fun a u ha e => by
  rw [upM_ne (fun z : a = p => ha (by rw [z]; exact hp))]; exact h a u ha e
theorem Kp.new {ex : List Addr} {M M' : Mem} {p : Addr} {o : MO} (h : Kp ex M M') (hp : M' p = none) : Kp ex M (upM M' p o) := fun a u ha e => by
  have := h a u ha e
  rw [upM_ne (neM this hp)]; exact this
theorem Kp.upN {ex : List Addr} {M M' : Mem} {p : Addr} {o : MO} (h : Kp ex M M') (hp : M p = none) : Kp ex M (upM M' p o) := fun a u ha e => by
  rw [upM_ne (neM e hp)]; exact h a u ha e
theorem Kp.le {ex : List Addr} {M M1 M2 : Mem} (h : Kp ex M M1) (l : Le M1 M2) : Kp ex M M2 := fun a u ha e => l a u (h a u ha e)
theorem Kp.mono {ex ex2 : List Addr} {M M' : Mem} (h : Kp ex M M') (s : ∀ a, a ∈ ex → a ∈ ex2) : Kp ex2 M M' := fun a u ha e => h a u (fun z => ha (s a z)) e
/-- what is wished for at a memory, from a wider one -/
theorem le1 {M M' : Mem} {a : Addr} {o : MO} (h : M' a = some o) (k : Kp [a] M M') : Le (upM M a o) M' := fun c u e => by
  by_cases hc : c = a
  · subst hc; rw [upM_same] at e; cases e; exact h
  · rw [upM_ne hc] at e; exact k c u (by simpa using hc) e
theorem le2 {M M' : Mem} {a b : Addr} {o u : MO} (ha : M' a = some o) (hb : M' b = some u) (k : Kp [a, b] M M') : Le (upM (upM M a o) b u) M' := fun c x e => by
  by_cases hc : c = b
  · subst hc; rw [upM_same] at e; cases e; exact hb
  · rw [upM_ne hc] at e
    by_cases hd : c = a
    · subst hd; rw [upM_same] at e; cases e; exact ha
    · rw [upM_ne hd] at e; exact k c x (by simp [hc, hd]) e
theorem le3 {M M' : Mem} {a b d : Addr} {o u v : MO} (ha : M' a = some o) (hb : M' b = some u) (hd : M' d = some v) (k : Kp [a, b, d] M M') : Le (upM (upM (upM M a o) b u) d v) M' := fun c x e => by
  by_cases h1 : c = d
  · subst h1; rw [upM_same] at e; cases e; exact hd
  · rw [upM_ne h1] at e
    by_cases h2 : c = b
    · subst h2; rw [upM_same] at e; cases e; exact hb
    · rw [upM_ne h2] at e
      by_cases h3 : c = a
      · subst h3; rw [upM_same] at e; cases e; exact ha
      · rw [upM_ne h3] at e; exact k c x (by simp [h1, h2, h3]) e
end DL

set_option Elab.async false
set_option linter.all false
namespace DL
open PySem PySem.Spec L2
theorem nx_go {P : PK} {dl : Env'} {M : Mem} (h : P.nx dl M) : wNext P dl M := h
/-- an expression's ways come together -/
theorem we_cut {w : WE} {dl : Env'} {M : Mem} {R : RK} (Q : Sl → Mem → Prop) (h2 : ∀ r M, Q r M → R r M) (h1 : ∀ R' : RK, (∀ r M, Q r M → R' r M) → w dl M R') : w dl M R := h1 _ h2
end DL
namespace DL
open PySem PySem.Spec L2
/-! ### keywords in another order -/
def pmId {A : Type} (l : List A) : List A := l
def pmSwap {A : Type} : List A → List A
  | [x, y] => [y, x]
  | _ => []
theorem pmId_p {A B : Type} (R : A → B → Prop) (as : List A) (bs : List B) (h : Paired R as bs) : Paired R (pmId as) (pmId bs) := h
theorem pmId_a {A B : Type} (R : A → B → Prop) (as : List A) (bs : List B) (h : All2 R as bs) : All2 R (pmId as) (pmId bs) := h
theorem pmSwap_p {A B : Type} (R : A → B → Prop) (as : List A) (bs : List B) (h : Paired R as bs) : Paired R (pmSwap as) (pmSwap bs) := by
  cases h with
  | nil => exact .nil
  | cons a t =>
    cases t with
    | nil => exact .nil
    | cons b t =>
      cases t with
      | nil => exact .cons b (.cons a .nil)
      | cons c t => exact .nil
theorem pmSwap_a {A B : Type} (R : A → B → Prop) (as : List A) (bs : List B) (h : All2 R as bs) : All2 R (pmSwap as) (pmSwap bs) := by
  cases h with
  | nil => exact .nil
  | cons a t =>
    cases t with
    | nil => exact .nil
    | cons b t =>
      cases t with
      | nil => exact .cons b (.cons a .nil)
      | cons c t => exact .nil
end DL

set_option Elab.async false
set_option linter.all false
set_option maxRecDepth 100000
set_option maxHeartbeats 4000000
/-! DT: the end of a law row, from a def's promise by data. -/
namespace DL
open PySem PySem.Spec PyProof.Rows L2
open Evl (Ex)
theorem at_none {K : PySem.W.Frag} (G : Hp) : At K G (fun _ => none) G := ⟨Ex.refl G, fun a o e => by cases e⟩
/-- what the call of the law's def does, from a heap in which the script alone may be tracked -/
theorem law_core {P : Program} {w : World} {K : PySem.W.Frag} {mg mb : Str → Option Value} {lv : Nat} {fn ad : Addr} {fd : FuncData} {x : Str} {cn : Cn} {s : Shared} {us : List Value} {ns : List Int} (G : Hp)
    (kin : K.In s.heap) (g1 : s.heap.Ns mainGlobals mg) (g2 : s.heap.Ns builtinsNs mb) (g3 : ∀ y : Str, y ≠ "__name__" → mb y = bootBuiltins y) (g4 : s.heap.NoLimit) (g5 : s.gens = #[]) (scr : s.heap.get? ad = some { cls := .type "list", data := .seq us.toArray })
    (room : Room lv callerA) (F : ∀ base : Heap, FnD P w K mg base lv fn fd [x] cn) (bnd : ∀ (s : Shared) (u : Value), BindsTo s fd ⟨[u], []⟩ [(x, u)]) (prm : cn [.r ns] (fun _ => none) fun r _ => r = .b true)
    (only : ∀ b, G b = none ∨ ∃ o l, G b = some (.frz o (.lst l))) (sq : SqL K G ad (ns.map V.int)) (hok : HOk P w G s.heap) (one : ∀ b, G b ≠ none → b = ad) (off : G ad ≠ none → K.lookup ad = none) :
    codeAny (model P w) callerA (.call (.ref fn) ⟨[.ref ad], []⟩) (fun r t => r = .ok (.ret (.bool true)) ∧ OldK s.heap t.heap ∧ t.os = s.os ∧ AllBare t.gens) s := by
  have there : ∀ {c : Addr} {o : Obj}, s.heap.get? c = some o → G c = none → (hidT s.heap G).get? c = some o := fun e n => hidT_get e n
  have untracked : ∀ {c : Addr} {o : Obj} {es : Array DictEntry} {ep : Nat}, s.heap.get? c = some o → o.data = .dict es ep → G c = none := fun {c o es ep} e d => by
    cases q : G c with
    | none => rfl
    | some u =>
      obtain rfl := one c (by rw [q]; exact fun z => nomatch z)
      rw [scr] at e
      cases e
      exact nomatch (show Data.seq us.toArray _ = Data.dict es ep from d)
  have ns_of : ∀ {c : Addr} {f : Str → Option Value}, s.heap.Ns c f → (hidT s.heap G).Ns c f := fun ⟨o, es, ep, e, d, r⟩ => ⟨o, es, ep, there e (untracked e d), d, r⟩
  have kb : K.In (hidT s.heap G) := fun c o e => there (kin c o e) (by
    cases q : G c with
    | none => rfl
    | some u =>
      have n : G c ≠ none := by rw [q]; exact fun z => nomatch z
      obtain rfl := one c n
      rw [off n] at e
      cases e)
  have lim : (hidT s.heap G).NoLimit := let ⟨mc, h1, h2⟩ := g4; ⟨mc, ns_of h1, h2⟩
  have env : Env0 P w K mg (hidT s.heap G) callerA [] s G := ⟨rfl, ⟨kb, ns_of g1, ⟨mb, ns_of g2, g3⟩, lim⟩, fun c o e => of_hidT e, Nat.le_of_eq (hidT_size _ _), trivial, fun c hc => (List.not_mem_nil (a := c) hc).elim, hok, .of_eq g5⟩
  have wish : spD K cn [.ref ad] G (fun v _ => v = .bl true) := ⟨G, fun _ => none, [.r ns], fun r _ => r = .b true, .cons ⟨ad, rfl, sq⟩ .nil, at_none G, prm, fun v F' H' r M' e _ i => by subst e; exact dq_bl i⟩
  refine codeAny_mono ((F _).run callerA [] s G ⟨[.ref ad], []⟩ [.ref ad] [.ref ad] _ rfl room env (bnd s (.ref ad)) (.cons rfl .nil) wish) fun r t h => ?_
  cases r with
  | error e => exact False.elim h
  | ok fl =>
    cases fl with
    | next => exact False.elim h
    | brk => exact False.elim h
    | cont => exact False.elim h
    | ret u =>
      obtain ⟨v, G', os, bare, un, hok', rel, q⟩ := h
      obtain rfl : v = .bl true := q
      obtain rfl : u = Value.bool true := rel
      refine ⟨rfl, OldK.of_keep fun c o e => ?_, os, bare⟩
      rcases only c with z | ⟨ob, l, z⟩
      · exact un.keep c o e z (fun q => (List.not_mem_nil (a := c) q).elim) (by simp)
      · have e1 := (hok c _ z).1
        have e2 := (hok' c _ (un.frzs c ob _ z)).1
        rw [e] at e1
        cases e1
        exact e2
theorem law_end {l : PySem.W.OpenLaw} {n lv : Nat} {q : Program} {loose : List Str} {XP : (Str → Option Value) → Heap → Prop} {YP : World → Heap → Prop} {d : DefRec} {K : Params → PySem.W.Frag} {cn : Cn} {x : Str}
    (most : l.most = some n) (few : n ≤ sizeLine) (nodef : d.params.defaults = []) (room : Room lv callerA) (hY : ∀ (w : World) (h : Heap), YP w h → (K w.params).In h)
    (F : ∀ (w : World) (mg : Str → Option Value) (fa : Addr) (h : Heap), (K w.params).In h → h.Ns mainGlobals mg → mg d.name = some (.ref fa) → ∃ fd : FuncData, (∀ (s : Shared) (u : Value), BindsTo s fd ⟨[u], []⟩ [(x, u)]) ∧ ∀ base : Heap, FnD l.prog w (K w.params) mg base lv fa fd [x] cn)
    (prm : ∀ ns : List Int, ns.length ≤ n → cn [.r ns] (fun _ => none) fun r _ => r = .b true) : PySem.W.WalkO q loose XP YP l.row.toRowW d [] (fun f vs => PySem.call f vs) := by
  refine Att.attach_call most nodef fun w s0 s mg mb fa o pm cd doc ad us ns G Y ho hd hcd hmg scr inl len g5 => ?_
  obtain ⟨fd, bnd, hF⟩ := F w mg fa _ (hY w _ Y) G.T.g hmg
  have rv := vals_ints inl
  have lu := inl.length
  have core := fun H => law_core (P := l.prog) (w := w) (us := us) (ns := ns) H (hY w _ Y) G.T.g G.T.b G.T.builtins G.T.nolimit g5 scr room hF bnd (prm ns len)
  cases e : (K w.params).lookup ad with
  | some ob =>
    have e2 := hY w _ Y ad ob e
    rw [scr] at e2
    cases e2
    refine core (fun _ => none) (fun _ => .inl rfl) (.inr ⟨_, us.toArray, _, e, rfl, rfl, rfl, ?_, by simpa using rv⟩) (fun c u z => nomatch (show (none : Option HO) = some u from z)) (fun c z => absurd rfl z) fun z => absurd rfl z
    rw [List.size_toArray, lu]; omega
  | none =>
    let H : Hp := fun c => if c = ad then some (.frz { cls := .type "list", data := .seq us.toArray } (.lst (ns.map V.int))) else none
    have at1 : H ad = some (.frz { cls := .type "list", data := .seq us.toArray } (.lst (ns.map V.int))) := if_pos rfl
    have at2 : ∀ c, c ≠ ad → H c = none := fun c hc => if_neg hc
    refine core H (fun c => ?_) (.inl (.inr ⟨_, at1⟩)) (fun c u z => ?_) (fun c z => ?_) fun _ => e
    · by_cases hc : c = ad
      · subst hc; exact .inr ⟨_, _, at1⟩
      · exact .inl (at2 c hc)
    · by_cases hc : c = ad
      · subst hc
        rw [at1] at z
        cases z
        exact ⟨scr, by rw [List.length_map]; omega, us, _, rv, scr⟩
      · rw [at2 c hc] at z; cases z
    · by_cases hc : c = ad
      · exact hc
      · exact absurd (at2 c hc) z
end DL
namespace DL
open PySem PySem.Spec L2
/-- a def of the top -/
def DefAt (K : PySem.W.Frag) (mg : Str → Option Value) (x : Str) (st : Stmt) : Prop := ∃ f fd, mg x = some (.ref f) ∧ Fun K x x st f fd
theorem def_mk {K : PySem.W.Frag} {h : Heap} {mg : Str → Option Value} {x : Str} {st : Stmt} {f : Addr} {od an : Option Addr} {sl : Array (Option Value)} {oc kV doc pm cd ct : Value} (X : K.In h) (G : h.Ns mainGlobals mg)
    (a : PySem.W.nsIn K mainGlobals x = some (some (.ref f))) (l : K.lookup f = some ⟨oc, od, .func (PySem.W.fnOf x x (defArgs st) (defBody st) (defScope st) .none kV doc pm an cd ct), sl⟩) (c : PySem.W.codeIn K cd x = true) (k : PySem.W.keepIn K (.ref f) = true) : DefAt K mg x st :=
  ⟨f, _, PySem.W.mg_of X G a, fun_mk (st := st) l c k⟩
theorem const_mk {K : PySem.W.Frag} {h : Heap} {mg : Str → Option Value} {x : Str} {v : Value} (X : K.In h) (G : h.Ns mainGlobals mg) (a : PySem.W.nsIn K mainGlobals x = some (some v)) : mg x = some v := PySem.W.mg_of X G a
end DL
namespace DL
open PySem PySem.Spec L2
theorem gd_mk {K : PySem.W.Frag} {h : Heap} {mg : Str → Option Value} {x : Str} {f : Addr} {n : Nat} {sl : Array (Option Value)} {ws : Array Value} (ss : List Str) (X : K.In h) (G : h.Ns mainGlobals mg) (a : PySem.W.nsIn K mainGlobals x = some (some (.ref f))) (l : K.lookup f = some ⟨.type "tuple", none, .seq ws n, sl⟩)
    (v : Vals (ss.map V.str) ws.toList) (c : ws.size ≤ sizeLine) : GD K mg x (.tuple (ss.map PyData.str)) := gd_strs ss (PySem.W.mg_of X G a) l v c
end DL

set_option Elab.async false
set_option linter.all false
set_option maxRecDepth 100000
set_option maxHeartbeats 4000000
/-! DU: -a, a, b, c = x, y, z, + of data by shapes, tuple(..), [..] * k of data. -/
namespace DL
open PySem PySem.Spec L2
open Evl (Ex)
section
variable {X : Cx} {a b c : Expr} {wa wb wc : WE} {pos : Pos}
abbrev wNeg (wa : WE) : WE := fun dl M R => wa dl M fun r M1 => match r with
  | .d (.int i) => R (.i (-i)) M1
  | _ => False
theorem pd_neg (ha : PD X a wa) : PD X (.UnaryOp .USub a pos) (wNeg wa) := by
  refine pe_imp (pe_un un_neg ha) fun st H Q ⟨F, dl, M, R, so, at0, hw, po⟩ => ?_
  refine tD_to so at0 hw fun x F1 H1 r M1 h1 g1 so1 at1 i1 => ?_
  split at h1
  · exact ⟨_, dq_int i1, po _ F1 H1 _ M1 h1 g1 (.int _)⟩
  · exact h1.elim
abbrev wPar3 (i j l : Nat) (wa : WA) : WS := fun P dl M => wa dl M fun rs M1 => match rs with
  | [r, q, t] => P.nx (((dl.set i (some r)).set j (some q)).set l (some t)) M1
  | _ => False
theorem isAll3 {K : PySem.W.Frag} {F : Hp} {r q t : Sl} {vs : List V} (h : IsAll K F [r, q, t] vs) : ∃ v u w, vs = [v, u, w] ∧ Is K F r v ∧ Is K F q u ∧ Is K F t w := by
  cases h with
  | cons h k => obtain ⟨u, w, rfl, h2, h3⟩ := isAll2 k; exact ⟨_, _, _, rfl, h, h2, h3⟩
theorem pds_par3 (i j l : Nat) {x y z : Str} {wa : WA} {px py pz pt : Pos} {kt k2 pt2} (hc : X.calm = true) (hN : X.N.Nodup) (hij : i ≠ j) (hil : i ≠ l) (hjl : j ≠ l) (ha : PDA X [a, b, c] wa) (hi : X.N[i]? = some x := by rfl) (hj : X.N[j]? = some y := by rfl) (hl : X.N[l]? = some z := by rfl)
    (hx : X.env.scope.names.lookup x = some .local := by rfl) (hy : X.env.scope.names.lookup y = some .local := by rfl) (hz : X.env.scope.names.lookup z = some .local := by rfl)
    (hw : swappedStores [.Tuple [.Name x px, .Name y py, .Name z pz] kt pt] (.Tuple [a, b, c] k2 pt2) X.env = pure (some [x, y, z]) := by rfl)
    (hs : swapsWithSole [.Tuple [.Name x px, .Name y py, .Name z pz] kt pt] (.Tuple [a, b, c] k2 pt2) pos.line X.env = pure false := by rfl) : PDS X (.Assign [.Tuple [.Name x px, .Name y py, .Name z pz] kt pt] (.Tuple [a, b, c] k2 pt2) pos) (wPar3 i j l wa) :=
  ps_imp (ps_par3 hc hN hi hj hl hij hil hjl hx hy hz ha hw hs) fun D st H ⟨F, dl, M, P, so, at0, hw, po⟩ =>
    tDA_to so at0 hw fun vs F1 H1 rs M1 h1 g1 so1 at1 i1 => by
      split at h1
      · obtain ⟨v, u, t, rfl, q1, q2, q3⟩ := isAll3 i1
        exact ⟨v, u, t, rfl, po.nx _ F1 H1 _ M1 h1 g1 (sok_set (sok_set (sok_set so1 q1) q2) q3)⟩
      · exact h1.elim
/-- + by shapes, data lists at once -/
abbrev gPlusD : W2 := fun p q M R => match p, q with
  | .d (.int i), .d (.int j) => R (.i (i + j)) M
  | .d (.tuple xs), .d (.tuple ys) => xs.length + ys.length ≤ sizeLine ∧ R (.d (.tuple (xs ++ ys))) M
  | .d (.list xs), .d (.list ys) => xs.length + ys.length ≤ sizeLine ∧ R (.d (.list (xs ++ ys))) M
  | p, q => gCat p q M R
theorem o_plusD : OpD X (binaryOp .Add) gPlusD := opD_of fun F H M x y p q R Q at0 h1 h2 h3 po => by
  obtain ⟨r, ho, hr⟩ := o_plus (X := X)
  unfold gPlusD at h3
  split at h3
  · exact ⟨r, ho, hr F H M x y _ _ R Q at0 h1 h2 h3 po⟩
  · exact ⟨r, ho, hr F H M x y _ _ R Q at0 h1 h2 h3 po⟩
  · refine ⟨r, ho, hr F H M x y _ _ R Q at0 h1 h2 ?_ po⟩
    show gCat _ _ M R
    exact ⟨_, _, _, rfl, rfl, (congrArg datOf (List.map_append (f := Sl.d)).symm).trans (datOf_map _), by simpa using h3.1, h3.2⟩
  · obtain ⟨r, ho, hr⟩ := o_cat (X := X)
    exact ⟨r, ho, hr F H M x y _ _ R Q at0 h1 h2 h3 po⟩
end
end DL

set_option Elab.async false
set_option linter.all false
set_option maxRecDepth 100000
set_option maxHeartbeats 4000000
namespace DL
open PySem PySem.Spec L2
open Evl (Ex)
/-! ### what memory reads as, now -/
mutual
inductive RdM (M : Mem) : Sl → PyData → Prop
  | d {x : PyData} : RdM M (.d x) x
  | lst {p : Addr} {ss : List Sl} {ds : List PyData} : M p = some (.lst ss) → RdMs M ss ds → RdM M (.v (.ref p)) (.list ds)
inductive RdMs (M : Mem) : List Sl → List PyData → Prop
  | nil : RdMs M [] []
  | cons {r : Sl} {rs : List Sl} {d : PyData} {ds : List PyData} : RdM M r d → RdMs M rs ds → RdMs M (r :: rs) (d :: ds)
end
mutual
theorem rd_dp {K : PySem.W.Frag} {F H : Hp} {M : Mem} (at0 : At K F M H) : ∀ {r : Sl} {d : PyData} {v : V}, RdM M r d → Is K F r v → Dp K H v d
  | _, _, _, .d, i => dq_up at0.ex i
  | _, _, v, .lst (p := p) (ss := ss) m h, i => by
    have e : v = .ref p := i
    subst e
    obtain ⟨_, vs, h1, h2⟩ := at0.mem p _ m
    exact .lst (SqL.of h1) (rds_dp at0 h h2)
theorem rds_dp {K : PySem.W.Frag} {F H : Hp} {M : Mem} (at0 : At K F M H) : ∀ {rs : List Sl} {ds : List PyData} {vs : List V}, RdMs M rs ds → IsAll K F rs vs → DpAll K H vs ds
  | _, _, _, .nil, .nil => .nil
  | _, _, _, .cons h t, .cons i j => .cons (rd_dp at0 h i) (rds_dp at0 t j)
end
theorem rdm_map {M : Mem} : ∀ ds : List PyData, RdMs M (ds.map Sl.d) ds
  | [] => .nil
  | _ :: r => .cons .d (rdm_map r)
section
variable {X : Cx}
/-- repr of what may still change -/
abbrev gReprM : Sl → Mem → RK → Prop := fun r M R => ∃ x, RdM M r x ∧ Shw x ∧ R (.s x.shown) M
theorem c_reprM (hgd : X.A.guards = some []) (hu : X.A.units + 64 < cLine) : CaD X (.builtin "repr") (g1 gReprM) := ca1 fun F H M v r R Q at0 i1 h1 po => by
  obtain ⟨x, hx, ⟨a, b, c, d⟩, hR⟩ := h1
  exact ⟨_, call_reprD hgd hu, v, _, rfl, rd_dp at0 hx i1, a, b, c, d, po _ F H _ M hR (Go.refl at0) (.str _)⟩
/-! ### xs.extend(ys) -/
abbrev gExtend : Sl → List Sl → Mem → RK → Prop := fun r rs M R => match r, rs with
  | .v (.ref p), [.d (.list ds)] => ∃ ss, M p = some (.lst ss) ∧ ss.length + ds.length ≤ sizeLine ∧ R .n (upM M p (.lst (ss ++ ds.map Sl.d)))
  | .v (.ref p), [.v (.ref q)] => ∃ ss ts, M p = some (.lst ss) ∧ M q = some (.lst ts) ∧ ss.length + ts.length ≤ sizeLine ∧ R .n (upM M p (.lst (ss ++ ts)))
  | _, _ => False
variable {o e : Expr} {wo : WE} {wa : WA} {apos cpos : Pos}
theorem pd_extend (ho : PD X o wo) (ha : PDA X [e] wa) (hbase : attributeBase o "extend" X.env (eval o X.env) = eval o X.env := by rfl)
    (hfew : ((backTo cpos (starEach [e] X.env)).all (fun x => !x.1) && (backToKw cpos (keywordEach [] X.env)).all (fun x => x.1.isSome) && decide ([e].length + ([] : List Keyword).length + (if ([] : List Keyword).isEmpty then 0 else 1) < 30)) = true := by rfl)
    (hline : (apos.endLine == cpos.line) = true := by rfl) (hs : starEach [e] X.env = (false, eval e X.env) :: starEach [] X.env := by rfl) : PD X (.Call (.Attribute o "extend" apos) [e] [] cpos) (wLMeth gExtend wo wa) := by
  refine pe_imp (pe_bm PySem.F.plainAttrs_list PySem.F.slot_list_extend PySem.F.type_list_extend mt_extend ho ha hbase hfew hline hs rfl) fun st H Q h => tBM_of (fun F H M v vs x rs R Q at0 i1 i2 hg po => ?_) h
  unfold gExtend at hg
  split at hg
  · rename_i p ds
    obtain ⟨ss, m, hz, hR⟩ := hg
    obtain ⟨u, rfl, i3⟩ := isAll1 i2
    have i4 : v = .ref p := i1
    subst i4
    obtain ⟨f, us, q1, q2⟩ := at0.mem p _ m
    cases i3 with
    | @lst ad ws _ h1 h2 =>
      have al : IsAll X.K F (ds.map Sl.d) ws := isAll_d h2
      refine ⟨p, ad, us, ws, rfl, rfl, q1, at0.ex _ _ h1, ?_, po _ F _ _ _ hR (Go.put at0 m ⟨_, upd_same, q2.append al⟩) .non⟩
      have l1 := q2.length
      have l2 := al.length
      rw [List.length_map] at l2
      rw [← l1, ← l2]; exact hz
  · rename_i p q
    obtain ⟨ss, ts, m, n, hz, hR⟩ := hg
    obtain ⟨u, rfl, i3⟩ := isAll1 i2
    have i4 : v = .ref p := i1
    subst i4
    have i5 : u = .ref q := i3
    subst i5
    obtain ⟨f, us, q1, q2⟩ := at0.mem p _ m
    obtain ⟨f2, ws, q3, q4⟩ := at0.mem q _ n
    refine ⟨p, q, us, ws, rfl, rfl, q1, q3, ?_, po _ F _ _ _ hR (Go.put at0 m ⟨_, upd_same, q2.append q4⟩) .non⟩
    rw [← q2.length, ← q4.length]; exact hz
  · exact hg.elim
end
end DL

set_option Elab.async false
set_option linter.all false
set_option maxRecDepth 100000
set_option maxHeartbeats 4000000
namespace DL
open PySem PySem.Spec L2 PyProof.Rows
open Evl (Ex)
section
variable {X : Cx}
/-! ### sorted(d), however many keys -/
theorem cr_sortedDA (hc : X.calm = true) : CallR X (.builtin "sorted") (fun args H Q => ∃ (d : Addr) (kvs : List (Key × V)) (ns : List Int), args = [V.ref d] ∧ Rd H d (.dK kvs) ∧ kvs.map (·.1) = ns.map Sum.inl ∧
    ∀ (out : List Int) (p : Addr), out.Perm ns → out.Pairwise (· ≤ ·) → H p = none → Q (.ref p) (upd H p (.lst (out.map V.int)))) := by
  intro pins s st H args us Q I r ⟨d, kvs, ns, ea, hd, hn, post⟩
  subst ea
  obtain ⟨w1, e1, r1⟩ := vals1 r
  subst e1
  cases r1
  obtain ⟨hz, hlo, ents, hrel, hdict⟩ := dk_rd I.hok hd
  obtain ⟨ep, hat⟩ := hdict.dictAt
  have hkn : ents.map (·.1) = ns.map Sum.inl := hrel.keys.symm.trans hn
  have len1 : ents.length = ns.length := by simpa using congrArg List.length hkn
  have len2 : kvs.length = ns.length := by simpa using congrArg List.length hn
  have hz2 : ents.length ≤ sizeLine := by omega
  refine Calls.call_function_entry PyProof.Rows.kind_sorted PyProof.Rows.plain_sorted PyProof.Rows.entry_sorted (PyProof.Rows.args_sorted1 _) ?_
  unfold Builtin.«sorted»
  refine wpAny_bind (m := checkCount "sorted" 1 1 _) (wpAny_pure ?_)
  refine wpAny_bind (PySem.W.kdu_collect (A := X.A.in1) (PySem.W.kdl_dict (knd := mixKind X.prog X.w) (kvs := ents) (ep := ep) hlo) (I.ok.hd hc) hat hz2 fun g tk acc hk hacc => ?_)
  have hal : acc.toList.length = ns.length := by rw [Array.length_toList, hacc.1, len1]
  have hints : IntsAre acc.toList ns := ints_each hal fun j v ev => by
    obtain ⟨key, x, ek, kx⟩ := hacc.2 j v (by rw [← Array.getElem?_toList]; exact ev)
    have em : (ents.map (·.1))[j]? = some key := by rw [List.getElem?_map, ek]; rfl
    rw [hkn, List.getElem?_map] at em
    cases en : ns[j]? with
    | none => rw [en] at em; cases em
    | some n =>
      rw [en] at em
      have eq : Sum.inl n = key := Option.some.inj em
      subst eq
      rcases keyIs_shape (show keyIs (Sum.inl n) v = true from kx) with ⟨i, t, ei, et⟩ | ⟨i, t, ei, et⟩
      · cases ei
        exact ⟨n, t, rfl, et⟩
      · cases ei
  have I1 : Inv X pins st H { s with heap := g, toks := tk } := I.kept hk
  refine wpAny_bind (wpAny_newList ?_ (by rw [hal]; omega))
  have hat2 : (g.push (seqObj "list" acc.toList.toArray 0)).get? g.objs.size = some (seqObj "list" acc.toList.toArray 0) := Heap.get?_push_size _ rfl
  show wpAny _ _ _ _ _ { s with heap := g.push (seqObj "list" acc.toList.toArray 0), toks := tk }
  refine wpAny_bind (wpAny_holding (wpAny_call_entry slot_list_sort ⟨_, hat2, rfl⟩ entry_list_sort
    (SrtO.list_sort_ord (s := { s with heap := g.push (seqObj "list" acc.toList.toArray 0), toks := tk }) SrtO.swo_int hat2 (by rw [hal]; omega) (fun two => SrtO.ints_sortable hints two) fun out o1 o2 => ⟨_, rfl, ?_⟩) (args_list_sort _)))
  obtain ⟨k1, k2, k3⟩ := SrtO.ints_out hints o1 o2
  obtain ⟨ep2, hend⟩ := sortedHeap_at (vs := acc.toList) (out := out.toArray) hat2
  have lout : ((out.map SrtO.iv).map V.int).length ≤ sizeLine := by
    rw [List.length_map, k2.length_eq]; omega
  refine wpAny_pure ⟨_, rfl, .ref g.objs.size, upd H g.objs.size (.lst ((out.map SrtO.iv).map V.int)), I1.laid (t' := tk) (fun b u eb => ?_) (Nat.le_refl _)
    (show ObjOk X.prog X.w _ _ _ (.lst ((out.map SrtO.iv).map V.int)) from ⟨lout, out, ep2, vals_of_ints k1, hend⟩), rfl, post _ _ k2 k3 (I1.hok.fresh (Nat.le_refl _))⟩
  have lt : b < g.objs.size := Heap.lt_size eb
  rw [sortedHeap_old (Nat.ne_of_lt lt) (by rw [size_push']; exact Nat.lt_succ_of_lt lt)]
  exact Heap.get?_push_of_some _ eb
abbrev gSortedDA : Sl → Mem → RK → Prop := fun r M R => match r with
  | .v (.ref a) => ∃ ks ns, M a = some (.dic ks) ∧ keysI ks = some ns ∧ R (.d (.list ((srtI ns).map PyData.int))) M
  | _ => False
theorem c_sortedDA (hc : X.calm = true) : CaD X (.builtin "sorted") (g1 gSortedDA) := ca1 fun F H M v r R Q at0 i1 h1 po => by
  unfold gSortedDA at h1
  split at h1
  · rename_i ad
    obtain ⟨ks, ns, m, e, hR⟩ := h1
    have ex : v = .ref ad := i1
    subst ex
    obtain ⟨_, kvs, q1, q2⟩ := at0.mem ad _ m
    refine ⟨_, cr_sortedDA hc, ad, kvs, ns, rfl, .inl q1, keysI_at q2 e, fun ys p hp hs hn => ?_⟩
    have e4 := sorted_one (hp.trans (srtI_perm ns).symm) hs (srtI_sorted ns)
    subst e4
    exact po_dat at0 po hn hR fun F' e h => .lst h (dqAll_ints _)
  · exact h1.elim
end
end DL

set_option Elab.async false
set_option linter.all false
set_option maxRecDepth 100000
set_option maxHeartbeats 4000000
namespace DL
open PySem PySem.Spec L2
open Evl (Ex)
section
variable {X : Cx}
/-! ### a dict that is walked stays as it is -/
abbrev wLock (w : WS) : WS := fun P dl M => ∃ p ks, M p = some (.dic ks) ∧ ∀ od kvs, w ⟨fun dl' M' => M' p = some (.lok od kvs ks) ∧ P.nx dl' (upM M' p (.dic ks)), fun r M' => M' p = some (.lok od kvs ks) ∧ P.rt r (upM M' p (.dic ks)), fun dl' M' => M' p = some (.lok od kvs ks) ∧ P.bk dl' (upM M' p (.dic ks)), fun dl' M' => M' p = some (.lok od kvs ks) ∧ P.ct dl' (upM M' p (.dic ks))⟩ dl (upM M p (.lok od kvs ks))
theorem lock_back {K : PySem.W.Frag} {F H F' H' : Hp} {M M' : Mem} {p : Addr} {od : Obj} {kvs : List (Key × V)} {ks : KS} (at0 : At K F M H) (m : M p = some (.dic ks)) (q1 : H p = some (.dK kvs)) (q2 : All2 (KIs K F) ks kvs)
    (g : Go K F (upM M p (.lok od kvs ks)) (upd H p (.frz od (.dK kvs))) F' M' H') (m' : M' p = some (.lok od kvs ks)) : H' p = some (.frz od (.dK kvs)) ∧ Go K F M H F' (upM M' p (.dic ks)) (upd H' p (.dK kvs)) := by
  obtain ⟨f, h1, h2⟩ := g.at'.mem p _ m'
  exact ⟨h1, ((Go.put (o := .lok od kvs ks) at0 m ⟨upd_same, q2⟩).trans g).trans (Go.put g.at' m' ⟨kvs, upd_same, h2⟩)⟩
theorem pds_lock {st : Stmt} {w : WS} (h : PDS X st w) : PDS X st (wLock w) := ps_imp (ps_lock h) fun D σ H ⟨F, dl, M, P, so, at0, ⟨p, ks, m, hw⟩, po⟩ => by
  obtain ⟨hF, kvs, q1, q2⟩ := at0.mem p _ m
  refine ⟨p, .dK kvs, q1, trivial, fun od => ?_⟩
  have g : Go X.K F M H F (upM M p (.lok od kvs ks)) (upd H p (.frz od (.dK kvs))) := Go.put at0 m ⟨upd_same, q2⟩
  refine ⟨F, dl, _, _, so, g.at', hw od kvs, ⟨?_, ?_, ?_, ?_⟩⟩
  · rintro st' F' H' dl' M' ⟨m', hn⟩ g2 so'
    obtain ⟨a, b⟩ := lock_back at0 m q1 q2 g2 m'
    exact ⟨a, po.nx st' F' _ dl' _ hn b so'⟩
  · rintro v F' H' r M' ⟨m', hn⟩ g2 i'
    obtain ⟨a, b⟩ := lock_back at0 m q1 q2 g2 m'
    exact ⟨a, po.rt v F' _ r _ hn b i'⟩
  · rintro st' F' H' dl' M' ⟨m', hn⟩ g2 so'
    obtain ⟨a, b⟩ := lock_back at0 m q1 q2 g2 m'
    exact ⟨a, po.bk st' F' _ dl' _ hn b so'⟩
  · rintro st' F' H' dl' M' ⟨m', hn⟩ g2 so'
    obtain ⟨a, b⟩ := lock_back at0 m q1 q2 g2 m'
    exact ⟨a, po.ct st' F' _ dl' _ hn b so'⟩
abbrev wLockE (w : WE) : WE := fun dl M R => ∃ p ks, M p = some (.dic ks) ∧ ∀ od kvs, w dl (upM M p (.lok od kvs ks)) fun r M' => M' p = some (.lok od kvs ks) ∧ R r (upM M' p (.dic ks))
theorem pd_lock {e : Expr} {w : WE} (h : PD X e w) : PD X e (wLockE w) := pe_imp (pe_lock h) fun σ H Q ⟨F, dl, M, R, so, at0, ⟨p, ks, m, hw⟩, po⟩ => by
  obtain ⟨hF, kvs, q1, q2⟩ := at0.mem p _ m
  refine ⟨p, .dK kvs, q1, trivial, fun od => ?_⟩
  have g : Go X.K F M H F (upM M p (.lok od kvs ks)) (upd H p (.frz od (.dK kvs))) := Go.put at0 m ⟨upd_same, q2⟩
  refine ⟨F, dl, _, _, so, g.at', hw od kvs, ?_⟩
  rintro v F' H' r M' ⟨m', hn⟩ g2 i'
  obtain ⟨a, b⟩ := lock_back at0 m q1 q2 g2 m'
  exact ⟨a, po v F' _ r _ hn b i'⟩
/-! ### over the values, over the keys -/
def kSl : Key → Sl
  | .inl i => .i i
  | .inr s => .s s
abbrev wiVals (we : WE) : WI := fun dl M T => we dl M fun r M1 => match r with
  | .v (.ref p) => ∃ od kvs ks, M1 p = some (.lok od kvs ks) ∧ T (ks.map (·.2)) (fun M => M p = some (.lok od kvs ks)) M1
  | _ => False
abbrev wiKeys (we : WE) : WI := fun dl M T => we dl M fun r M1 => match r with
  | .v (.ref p) => ∃ od kvs ks, M1 p = some (.lok od kvs ks) ∧ T (ks.map fun k => kSl k.1) (fun M => M p = some (.lok od kvs ks)) M1
  | _ => False
theorem wk_vals {K : PySem.W.Frag} {F0 : Hp} {p : Addr} {od : Obj} {kvs : List (Key × V)} {ks : KS} : Wk K F0 (fun M => M p = some (.lok od kvs ks)) (Itd p od kvs) (ks.map (·.2)) := by
  refine ⟨fun F M H i e at0 c hi => ?_, fun F M H i x H' r e at0 c y hr => ?_, fun F M H e at0 c => ?_⟩
  · obtain ⟨_, h1, h2⟩ := at0.mem p _ c
    rw [List.length_map] at hi
    exact ⟨h1, by rw [← h2.length]; exact hi⟩
  · obtain ⟨_, h1, h2⟩ := at0.mem p _ c
    obtain ⟨rfl, k, hk⟩ := y
    refine ⟨F, Go.refl at0, ?_⟩
    rw [List.getElem?_map] at hr
    cases e1 : ks[i]? with
    | none => rw [e1] at hr; cases hr
    | some kr =>
      rw [e1] at hr
      obtain ⟨kv, h3, h4⟩ := h2.get e1
      rw [hk] at h3
      cases h3
      cases hr
      exact h4.2
  · obtain ⟨_, h1, h2⟩ := at0.mem p _ c
    exact ⟨h1, by rw [List.length_map, h2.length]; exact Nat.le_refl _⟩
theorem kSl_is {K : PySem.W.Frag} {F : Hp} : ∀ k : Key, Is K F (kSl k) (kV k)
  | .inl i => .int i
  | .inr s => .str s
theorem wk_keys {K : PySem.W.Frag} {F0 : Hp} {p : Addr} {od : Obj} {kvs : List (Key × V)} {ks : KS} : Wk K F0 (fun M => M p = some (.lok od kvs ks)) (Itk p od kvs) (ks.map fun k => kSl k.1) := by
  refine ⟨fun F M H i e at0 c hi => ?_, fun F M H i x H' r e at0 c y hr => ?_, fun F M H e at0 c => ?_⟩
  · obtain ⟨_, h1, h2⟩ := at0.mem p _ c
    rw [List.length_map] at hi
    exact ⟨h1, by rw [← h2.length]; exact hi⟩
  · obtain ⟨_, h1, h2⟩ := at0.mem p _ c
    obtain ⟨rfl, k, v, hk, rfl⟩ := y
    refine ⟨F, Go.refl at0, ?_⟩
    rw [List.getElem?_map] at hr
    cases e1 : ks[i]? with
    | none => rw [e1] at hr; cases hr
    | some kr =>
      rw [e1] at hr
      obtain ⟨kv, h3, h4⟩ := h2.get e1
      rw [hk] at h3
      cases h3
      cases hr
      have e9 : kr.1 = k := h4.1
      show Is K F (kSl kr.1) (kV k)
      rw [e9]
      exact kSl_is _
  · obtain ⟨_, h1, h2⟩ := at0.mem p _ c
    exact ⟨h1, by rw [List.length_map, h2.length]; exact Nat.le_refl _⟩
variable {tg e : Expr} {we : WE} {apos cpos : Pos}
theorem pdi_vals (he : PD X e we) (hbase : attributeBase e "values" X.env (eval e X.env) = eval e X.env := by rfl) (hline : (apos.endLine == cpos.line) = true := by rfl) : PDI X tg (.Call (.Attribute e "values" apos) [] [] cpos) (wiVals we) :=
  pi_imp (pi_values he hbase hline) fun st H Q ⟨F, dl, M, T, so, at0, hw, po⟩ => tD_to so at0 hw fun x F1 H1 r M1 h1 g1 so1 at1 i1 => by
    split at h1
    · rename_i p
      obtain ⟨od, kvs, ks, m, hT⟩ := h1
      have ex : x = .ref p := i1
      obtain ⟨_, h2, h3⟩ := at1.mem p _ m
      exact ⟨p, od, kvs, ex, h2, po F1 M1 H1 _ _ _ hT g1 wk_vals⟩
    · exact h1.elim
theorem pdi_keys (he : PD X e we) : PDI X tg e (wiKeys we) :=
  pi_imp (pi_keys he) fun st H Q ⟨F, dl, M, T, so, at0, hw, po⟩ => tD_to so at0 hw fun x F1 H1 r M1 h1 g1 so1 at1 i1 => by
    split at h1
    · rename_i p
      obtain ⟨od, kvs, ks, m, hT⟩ := h1
      have ex : x = .ref p := i1
      obtain ⟨_, h2, h3⟩ := at1.mem p _ m
      exact ⟨p, od, ex, .inl ⟨kvs, h2, po F1 M1 H1 _ _ _ hT g1 wk_keys⟩⟩
    · exact h1.elim
end
end DL

set_option Elab.async false
set_option linter.all false
set_option maxRecDepth 100000
set_option maxHeartbeats 4000000
namespace DL
open PySem PySem.Spec L2
open Evl (Ex)
section
variable {X : Cx}
/-! ### d.update(d2) -/
theorem mt_dupdate : MtR X "dict.update" (fun x vs H Q => ∃ (d o : Addr) (kvs more : List (Key × V)), x = V.ref d ∧ vs = [V.ref o] ∧ d ≠ o ∧ H d = some (.dK kvs) ∧ Rd H o (.dK more) ∧ kvs.length + more.length ≤ sizeLine ∧ Q .non (upd H d (.dK (mergeK kvs more)))) := by
  intro pins s st H x vs v us Q I rx rv ⟨d, o, kvs, more, ex, ev, hne, hd, ho, hz, q⟩
  subst ex ev
  obtain rfl : v = .ref d := rx
  obtain ⟨u, eu, ru⟩ := vals1 rv
  subst eu
  obtain rfl : u = .ref o := ru
  obtain ⟨z1, lo1, es1, rel1, dd1⟩ := dk_of I.hok hd
  obtain ⟨z2, lo2, es2, rel2, dd2⟩ := dk_rd I.hok ho
  refine call_meetsIn PySem.F.slot_dict_update dd1.typeIs PySem.F.entry_dict_update (PySem.F.args_dict_update_2 _ _) (meets_dict_update (mixKind X.prog X.w) d o hne lo2) ⟨es1, es2, dd1, dd2, by rw [← rel1.length, ← rel2.length]; exact hz, fun h' hd' ho' hs => ?_⟩
  have he : ∃ b, h'.get? d = some b := let ⟨b, _, _, hb, _⟩ := hd'; ⟨b, hb⟩
  have hl : (mergeK kvs more).length ≤ sizeLine := Nat.le_trans (length_mergeK more kvs) hz
  exact ⟨.non, _, d_write I (by rw [hd]; exact True.intro) hs he (dk_new hl lo1 (KV.merge rel2 rel1) hd'), rfl, q⟩
/-! ### dict(d2) -/
theorem cr_dictD : CallR X (.type "dict") (fun vs H Q => ∃ (o : Addr) (kvs : List (Key × V)), vs = [V.ref o] ∧ Rd H o (.dK kvs) ∧ ∀ p, H p = none → Q (.ref p) (upd H p (.dK kvs))) := by
  intro pins s st H vs us Q I r ⟨o, kvs, ev, ho, q⟩
  subst ev
  obtain ⟨u, eu, ru⟩ := vals1 r
  subst eu
  obtain rfl : u = .ref o := ru
  obtain ⟨z2, lo2, es2, rel2, dd2⟩ := dk_rd I.hok ho
  refine kt_call_dict lo2 dd2 (by rw [← rel2.length]; exact z2) fun h' hd' hs => ?_
  have hm : (s.heap.objs.size == sysModules) = false := beq_eq_false_iff_ne.mpr (Nat.ne_of_gt I.big)
  refine ⟨.ref s.heap.objs.size, upd H s.heap.objs.size (.dK kvs), I.laid (t' := s.toks) (fun b u e => ?_) (Nat.le_refl _) (dk_new z2 hm rel2 hd'), rfl, q _ (I.hok.fresh (Nat.le_refl _))⟩
  rw [hs.2 b (Nat.ne_of_lt (Heap.lt_size e))]
  exact Heap.get?_push_of_some _ e
abbrev gDictD : Sl → Mem → RK → Prop := fun r M R => match r with
  | .v (.ref o) => ∃ ks, M o = some (.dic ks) ∧ ∀ p, M p = none → R (.v (.ref p)) (upM M p (.dic ks))
  | _ => False
theorem c_dictD : CaD X (.type "dict") (g1 gDictD) := ca1 fun F H M v r R Q at0 i1 h1 po => by
  unfold gDictD at h1
  split at h1
  · rename_i o
    obtain ⟨ks, m, hR⟩ := h1
    have e : v = .ref o := i1
    subst e
    obtain ⟨_, kvs, q1, q2⟩ := at0.mem o _ m
    exact ⟨_, cr_dictD, o, kvs, rfl, .inl q1, fun p hp => po _ F _ _ _ (hR p (at0.freeM hp)) (Go.new at0 hp ⟨_, upd_same, q2⟩) rfl⟩
  · exact h1.elim
abbrev wUpd (wo : WE) (wa : WA) : WE := fun dl M R => wo dl M fun r M1 => match r with
  | .v (.ref d) => (∃ ks, M1 d = some (.dic ks)) ∧ wa dl M1 fun rs M2 => match rs with
    | [.v (.ref o)] => ∃ ks ms, M2 d = some (.dic ks) ∧ M2 o = some (.dic ms) ∧ d ≠ o ∧ ks.length + ms.length ≤ sizeLine ∧ R .n (upM M2 d (.dic (mergeS ks ms)))
    | _ => False
  | _ => False
variable {o e : Expr} {wo : WE} {wa : WA} {apos cpos : Pos}
theorem pd_update (ho : PD X o wo) (ha : PDA X [e] wa) (hbase : attributeBase o "update" X.env (eval o X.env) = eval o X.env := by rfl)
    (hfew : ((backTo cpos (starEach [e] X.env)).all (fun x => !x.1) && (backToKw cpos (keywordEach [] X.env)).all (fun x => x.1.isSome) && decide ([e].length + ([] : List Keyword).length + (if ([] : List Keyword).isEmpty then 0 else 1) < 30)) = true := by rfl)
    (hline : (apos.endLine == cpos.line) = true := by rfl) (hs : starEach [e] X.env = (false, eval e X.env) :: starEach [] X.env := by rfl) : PD X (.Call (.Attribute o "update" apos) [e] [] cpos) (wUpd wo wa) := by
  refine pe_imp (pe_bm PySem.F.plainAttrs_dict PySem.F.slot_dict_update PySem.F.type_dict_update mt_dupdate ho ha hbase hfew hline hs rfl) fun st H Q ⟨F, dl, M, R, so, at0, hw, po⟩ => ?_
  refine tD_to so at0 hw fun v F1 H1 x M1 h1 g1 so1 at1 i1 => ?_
  split at h1
  · rename_i d
    obtain ⟨⟨ks, m⟩, h1⟩ := h1
    have ev : v = .ref d := i1
    subst ev
    obtain ⟨_, kvs, q1, _⟩ := at1.mem d _ m
    refine ⟨.inr (.inr (.inl ⟨rfl, .inl ⟨_, q1⟩⟩)), tDA_to so1 at1 h1 fun us F2 H2 rs M2 h2 g2 so2 at2 i2 => ?_⟩
    split at h2
    · rename_i o2
      obtain ⟨ks2, ms, m1, m2, hne, hz, hR⟩ := h2
      obtain ⟨u, rfl, i3⟩ := isAll1 i2
      have e3 : u = .ref o2 := i3
      subst e3
      obtain ⟨_, kv1, p1, p2⟩ := at2.mem d _ m1
      obtain ⟨_, kv2, p3, p4⟩ := at2.mem o2 _ m2
      refine ⟨d, o2, kv1, kv2, rfl, rfl, hne, p1, .inl p3, by rw [← p2.length, ← p4.length]; exact hz, (po.mono (g1.trans g2)) _ F2 _ _ _ hR (Go.put at2 m1 ⟨_, upd_same, mergeS_at p4 p2⟩) .non⟩
    · exact h2.elim
  · exact h1.elim
end
end DL

set_option Elab.async false
set_option linter.all false
set_option maxRecDepth 100000
set_option maxHeartbeats 4000000
namespace DL
open PySem PySem.Spec L2
open Evl (Ex)
/-! ### {k: v for t in it if c} -/
def dcGo (g : WG) (wt : WT) (wk wv : WE) (C : Mem → Prop) (dl : Env') (R : KS → Mem → Prop) : List Sl → KS → Mem → Prop
  | [], ks, M => C M ∧ R ks M
  | x :: xs, ks, M => C M ∧ g x dl M fun dl2 M2 => wt dl2 M2 fun k M3 => if k = true then wk dl2 M3 fun y M4 => wv dl2 M4 fun z M5 => ∃ kk, keyS y = some kk ∧ ks.length < sizeLine ∧ dcGo g wt wk wv C dl R xs (putS ks kk z) M5 else dcGo g wt wk wv C dl R xs ks M3
theorem dcGo_C {g : WG} {wt : WT} {wk wv : WE} {C : Mem → Prop} {dl : Env'} {R : KS → Mem → Prop} : ∀ {xs : List Sl} {ks : KS} {M : Mem}, dcGo g wt wk wv C dl R xs ks M → C M
  | [], _, _, h => h.1
  | _ :: _, _, _, h => h.1
abbrev wDc (wi : WI) (g : WG) (wt : WT) (wk wv : WE) (vs : List Nat) : WE := fun dl M R => wi dl M fun items C M1 => dcGo g wt wk wv C (wipeD dl vs) (fun ks M2 => ∀ p, M2 p = none → R (.v (.ref p)) (upM M2 p (.dic ks))) items [] M1
structure DcW (K : PySem.W.Frag) (F0 : Hp) (M0 : Mem) (H0 : Hp) (p : Addr) (F : Hp) (M : Mem) (H : Hp) (ks : KS) : Prop where
  go : Go K F0 M0 H0 F M H
  f : F p = none
  m : M p = none
  h : ∃ kvs, H p = some (.dK kvs) ∧ All2 (KIs K F) ks kvs
theorem DcW.step {K : PySem.W.Frag} {F0 H0 F H F1 H1 : Hp} {M0 M M1 : Mem} {p : Addr} {ks : KS} (l : DcW K F0 M0 H0 p F M H ks) (g : Go K F M H F1 M1 H1) : DcW K F0 M0 H0 p F1 M1 H1 ks := by
  obtain ⟨kvs, h1, h2⟩ := l.h
  obtain ⟨q1, q2, q3⟩ := g.fr p _ h1 l.f l.m
  exact ⟨l.go.trans g, q2, q3, kvs, q1, h2.imp fun _ _ q => ⟨q.1, is_mono g.ex q.2⟩⟩
theorem DcW.mem {K : PySem.W.Frag} {F0 H0 F H : Hp} {M0 M : Mem} {p : Addr} {ks : KS} (l : DcW K F0 M0 H0 p F M H ks) (hp : H0 p = none) : Go K F0 M0 H0 F (upM M p (.dic ks)) H := by
  obtain ⟨kvs, q1, q2⟩ := l.h
  refine ⟨l.go.ex, ⟨l.go.at'.ex, fun b u z => ?_⟩, fun b u h1 h2 h3 => ?_⟩
  · by_cases hb : b = p
    · subst hb; rw [upM_same] at z; cases z; exact ⟨l.f, kvs, q1, q2⟩
    · rw [upM_ne hb] at z; exact l.go.at'.mem b u z
  · obtain ⟨w1, w2, w3⟩ := l.go.fr b u h1 h2 h3
    exact ⟨w1, w2, by rw [upM_ne (ne_of_none h1 hp)]; exact w3⟩
theorem tD_dc {K : PySem.W.Frag} {wi : WI} {g : WG} {wt : WT} {wk wv : WE} {vs : List Nat} {st : St} {H : Hp} {Q : VK} (h : tD K (wDc wi g wt wk wv vs) st H Q) : tDc (tDI K wi) (tDGw K vs g) (tDT K wt) (tD K wk) (tD K wv) vs st H Q := by
  obtain ⟨F, dl, M, R, so, at0, hw, po⟩ := h
  refine ⟨F, dl, M, _, so, at0, hw, fun F1 M1 H1 items C J h1 g1 wk1 p hp => ?_⟩
  have so1 := sok_mono g1.ex so
  have at1 := g1.at'
  have f1 := at1.freeF hp
  have m1 := at1.freeM hp
  refine ⟨fun i m H => m = items.length - i ∧ i ≤ items.length ∧ ∃ F M ks, DcW K F1 M1 H1 p F M H ks ∧ dcGo g wt wk wv C (wipeD dl vs) _ (items.drop i) ks M,
    ⟨_, rfl, Nat.zero_le _, F1, M1, [], ⟨⟨Ex.refl _, at1.hid f1 m1, fun a o h1 h2 h3 => ⟨by rw [upd_ne (ne_of_none h1 hp)]; exact h1, h2, h3⟩⟩, f1, m1, [], upd_same, .nil⟩, h1⟩, ?_⟩
  rintro i m H ⟨rfl, hi, F, M, ks, l, hw⟩
  have c := dcGo_C hw
  have at0 := l.go.at'
  by_cases hlt : i < items.length
  · refine .inr ⟨wk1.go F M H i l.go.ex at0 c hlt, fun H' => i + 1 ≤ items.length ∧ ∃ F M ks, DcW K F1 M1 H1 p F M H' ks ∧ dcGo g wt wk wv C (wipeD dl vs) _ (items.drop (i + 1)) ks M, fun H' q => ⟨_, by omega, rfl, q⟩, fun x H' y => ?_⟩
    obtain ⟨F2, g2, i2⟩ := wk1.yld F M H i x H' _ l.go.ex at0 c y (List.getElem?_eq_getElem hlt)
    rw [List.drop_eq_getElem_cons hlt] at hw
    obtain ⟨_, hw⟩ := hw
    have l2 := l.step g2
    refine ⟨F2, wipeD dl vs, M, _, _, sok_wipe (sok_mono l2.go.ex so1) vs, g2.at', i2, hw, fun st3 F3 H3 dl3 M3 h3 g3 so3 w3 => ⟨?_, ?_⟩⟩
    · rw [w3]; exact wipe_wipe st vs
    · have l3 := l2.step g3
      refine tDT_to so3 g3.at' h3 fun k F4 H4 M4 h4 g4 so4 at4 => ?_
      have l4 := l3.step g4
      cases k with
      | false => exact ⟨hlt, F4, M4, ks, l4, h4⟩
      | true =>
        refine tD_to so4 at4 h4 fun y F5 H5 r M5 h5 g5 so5 at5 i5 => ?_
        have l5 := l4.step g5
        refine tD_to so5 at5 h5 fun z F6 H6 r6 M6 h6 g6 so6 at6 i6 => ?_
        have l6 := l5.step g6
        obtain ⟨kk, ek, hz, h6⟩ := h6
        obtain ⟨kvs, q1, q2⟩ := l6.h
        refine ⟨kvs, kk, keyS_at i5 ek, q1, by rw [← q2.length]; exact hz, hlt, F6, M6, putS ks kk r6, ⟨⟨l6.go.ex, l6.go.at'.hid l6.f l6.m, fun a o z1 z2 z3 => ?_⟩, l6.f, l6.m, _, upd_same, putS_at i6 q2⟩, h6⟩
        obtain ⟨w1, w2, w3⟩ := l6.go.fr a o z1 z2 z3
        exact ⟨by rw [upd_ne (ne_of_none z1 hp)]; exact w1, w2, w3⟩
  · have ei : i = items.length := by omega
    subst ei
    rw [List.drop_length] at hw
    exact .inl ⟨wk1.stop F M H l.go.ex at0 c, po _ F H _ _ (hw.2 p l.m) (g1.trans (l.mem hp)) rfl⟩
section
variable {X : Cx} {kx vx tg iter : Expr} {ifs : List Expr} {scope : Scope} {own : List (Str × Nat)} {wi : WI} {g : WG} {wt : WT} {wk wv : WE} {pos : Pos}
theorem pd_dc (hc : X.calm = true) (hN : X.N.Nodup) (hi : PDI X tg iter wi) (ok : BlkOk X.N X.env.scope scope own)
    (hg : ∀ (s : Shared) (H : Hp) (C : Addr) (cl : List (Str × Addr)) (fp : List Addr), PDGw (X.blk s H scope (compEnvC scope cl C X.env) fp) (own.map (·.2)) tg g) (ht : ∀ (s : Shared) (H : Hp) (C : Addr) (cl : List (Str × Addr)) (fp : List Addr), PDTs (X.blk s H scope (compEnvC scope cl C X.env) fp) ifs wt)
    (hk : ∀ (s : Shared) (H : Hp) (C : Addr) (cl : List (Str × Addr)) (fp : List Addr), PD (X.blk s H scope (compEnvC scope cl C X.env) fp) kx wk)
    (hv : ∀ (s : Shared) (H : Hp) (C : Addr) (cl : List (Str × Addr)) (fp : List Addr), PD (X.blk s H scope (compEnvC scope cl C X.env) fp) vx wv) (hs : ∀ x, foldedSetIterable iter X.env x = pure x := by intro _; rfl) : PD X (.DictComp kx vx [⟨tg, iter, ifs, 0⟩] scope pos) (wDc wi g wt wk wv (own.map (·.2))) :=
  pe_imp (pe_dc (g := tDGw X.K (own.map (fun z : Str × Nat => z.2)) g) (tt := tDT X.K wt) (tk := tD X.K wk) (tv := tD X.K wv) hc hN hi ok hg ht hk hv hs) fun st H Q h => tD_dc h
end
end DL

set_option Elab.async false
set_option linter.all false
set_option maxRecDepth 100000
set_option maxHeartbeats 4000000
/-! DZ: list(zip(a, b, c, strict=True)) of three lists of one length. -/
namespace DL
open PySem PySem.Spec PySem.Builtin.SmallTypes
abbrev IsZ3 (h : Heap) (z TI TO : Addr) (v : Value) (f : Bool) : Prop := h.get? z = some { cls := .type "zip", dict := none, data := .fields #[v, .bool f, .bool true, .ref TI, .ref TO], slots := #[] }
abbrev IsTri (h : Heap) (T : Addr) (a b c : Value) : Prop := h.get? T = some { cls := .type "tuple", data := .seq #[a, b, c] }
structure Apart3 (z TI TO i1 i2 i3 l1 l2 l3 : Addr) : Prop where
  nd : [z, TI, TO, i1, i2, i3].Nodup
  n1 : l1 ∉ [z, TI, TO, i1, i2, i3]
  n2 : l2 ∉ [z, TI, TO, i1, i2, i3]
  n3 : l3 ∉ [z, TI, TO, i1, i2, i3]
section
variable {prog : Program} {w : World} {A : Around} {E : Value → Shared → Prop} {s : Shared} {z TI TO i1 i2 i3 l1 l2 l3 : Addr} {k1 k2 k3 : Nat} {xs ys us : Array Value} {x y u a b c v0 : Value} {f0 : Bool}
theorem orEnd_item {it l : Addr} {i : Nat} {Q : Option Value → Shared → Prop} (hit : s.heap.IsListIter it l i) (hl : s.heap.IsList l xs) (hx : xs[i]? = some x) (hQ : ∀ g, g.IsListIter it l (i + 1) → Heap.SameBut it s.heap g → Q (some x) { s with heap := g }) :
    wpAny (model prog w) A (nextOrEnd (.ref it)) Q E s := by
  unfold nextOrEnd
  exact wpAny_bind (wpAny_attempt (wpAny_nextOf_list_item hit hl hx fun g h1 h2 => wpAny_pure (hQ g h1 h2)))
theorem orEnd_end {it l : Addr} {i : Nat} {Q : Option Value → Shared → Prop} (hh : A.handled = none) (hit : s.heap.IsListIter it l i) (hl : s.heap.IsList l xs) (hx : xs[i]? = none) (hQ : ∀ g, Heap.ExtBut it s.heap g → Q none { s with heap := g }) :
    wpAny (model prog w) A (nextOrEnd (.ref it)) Q E s := by
  unfold nextOrEnd
  refine wpAny_bind (wpAny_attempt (wpAny_nextOf_list_end hh hit hl hx fun g e h1 ⟨o, ho, hc⟩ => ?_))
  exact wpAny_bind (wpAny_isInstance (T := "StopIteration") (b := true) ⟨o, ho, hc⟩ isSubtype_stop (wpAny_pure (hQ g h1)))
theorem upd_tri {T : Addr} {k : Nat} {v : Value} {Q : Unit → Shared → Prop} (hT : IsTri s.heap T a b c)
    (h : ∀ g, g.get? T = some { cls := .type "tuple", data := .seq ((#[a, b, c] : Array Value).setIfInBounds k v) } → Heap.SameBut T s.heap g → Q () { s with heap := g }) : wpAny (model prog w) A (updateSeq T (·.setIfInBounds k v)) Q E s := by
  refine wpAny_updateSeq hT rfl (h _ ?_ (Heap.SameBut.update ..))
  rw [Heap.get?_update_self _ hT rfl]
  simp [Obj.mapSeq]
theorem stop_now {α : Type} {Q : α → Shared → Prop} (hh : A.handled = none) (hE : ∀ g e, (∀ d o, s.heap.get? d = some o → g.get? d = some o) → (∃ o, g.get? e = some o ∧ o.cls = .type "StopIteration") → E (.ref e) { s with heap := g }) :
    wpAny (model prog w) A (stopIteration (α := α)) Q E s := by
  unfold stopIteration
  refine wpAny_bind ?_
  simp only [newExc, newTuple]
  refine wpAny_bind (wpAny_newObj_type ?_ (by size_fits))
  refine wpAny_bind (m := firstArgMember _ _) (wpAny_of_eq (a := Value.none) (by first | rfl | (simp only [firstArgMember]; rfl)) ?_)
  refine wpAny_newObj_type ?_ (by size_fits)
  simp only [raiseNew]
  refine wpAny_bind (wpAny_handled ?_)
  rw [hh]
  refine wpAny_bind (wpAny_pure (wpAny_throw ?_))
  exact hE _ _ (fun d o e => Heap.get?_push_of_some _ (Heap.get?_push_of_some _ e)) ⟨_, Heap.get?_push_size _ rfl, rfl⟩
theorem zip3_item {Q : Value → Shared → Prop} (D : Apart3 z TI TO i1 i2 i3 l1 l2 l3) (hz : IsZ3 s.heap z TI TO v0 f0) (fr : ∀ R : Bool → Shared → Prop, R true s → wpAny (model prog w) A (ownedTupleIsFree (.ref z)) R E s)
    (pI : IsTri s.heap TI (.ref i1) (.ref i2) (.ref i3)) (pO : IsTri s.heap TO a b c) (t1 : s.heap.IsListIter i1 l1 k1) (t2 : s.heap.IsListIter i2 l2 k2) (t3 : s.heap.IsListIter i3 l3 k3)
    (y1 : s.heap.IsList l1 xs) (y2 : s.heap.IsList l2 ys) (y3 : s.heap.IsList l3 us) (hx : xs[k1]? = some x) (hy : ys[k2]? = some y) (hu : us[k3]? = some u)
    (hQ : ∀ g, IsZ3 g z TI TO (rawInt s.heap.objs.size) false → IsTri g TO x y u → g.IsListIter i1 l1 (k1 + 1) → g.IsListIter i2 l2 (k2 + 1) → g.IsListIter i3 l3 (k3 + 1) → IsTri g s.heap.objs.size x y u →
      (∀ d o, d ∉ [z, TO, i1, i2, i3] → s.heap.get? d = some o → g.get? d = some o) → Q (.ref s.heap.objs.size) { s with heap := g }) :
    wpAny (model prog w) A (Builtin.«zip.__next__» ⟨[.ref z], []⟩) (fun fin s2 => ∃ r, fin = .done (.ret r) ∧ Q r s2) E s := by
  have nd := D.nd
  have n1 := D.n1
  have n2 := D.n2
  have n3 := D.n3
  simp only [List.nodup_cons, List.mem_cons, List.not_mem_nil, or_false, not_or, List.nodup_nil, and_true, not_false_eq_true] at nd n1 n2 n3
  obtain ⟨⟨zTI, zTO, z1, z2, z3⟩, ⟨TITO, TI1, TI2, TI3⟩, ⟨TO1, TO2, TO3⟩, ⟨i12, i13⟩, i23⟩ := nd
  refine wpAny_bind (m := field (.ref z) 2) (wpAny_field hz rfl (x := .bool true) rfl ?_)
  refine wpAny_bind (m := field (.ref z) 3) (wpAny_field hz rfl (x := .ref TI) rfl (wpAny_bind (wpAny_seqItems pI rfl ?_)))
  refine wpAny_bind (m := ownedTupleIsFree (.ref z)) (fr _ ?_)
  simp only [if_true]
  refine wpAny_bind (wpAny_rule (wpAny_bind (wpAny_field hz rfl (x := .ref TO) rfl (wpAny_bind (wpAny_setField_rec hz (by simp) fun g1 w1 s1 => wpAny_bind ?_)))))
  replace w1 : IsZ3 g1 z TI TO .ellipsis f0 := w1
  simp only [List.zipIdx_cons, List.zipIdx_nil, List.forIn_cons, List.forIn_nil]
  refine wpAny_bind (wpAny_bind (wpAny_onRaise (orEnd_item (t1.extBut s1.extBut (Ne.symm z1)) (y1.extBut s1.extBut n1.1) hx fun g2 u2 s2 => ?_)))
  have o2 : IsTri g2 TO a b c := s2.extBut _ _ TO1 (s1.extBut _ _ (Ne.symm zTO) pO)
  refine wpAny_bind (wpAny_seqItems o2 rfl (wpAny_bind (upd_tri o2 fun g3 o3 s3 => wpAny_bind (wpAny_letGo (wpAny_pure ?_)))))
  replace o3 : IsTri g3 TO x b c := o3
  have up3 : ∀ d o, d ≠ z → d ≠ TO → d ≠ i1 → s.heap.get? d = some o → g3.get? d = some o := fun d o d1 d2 d3 e => s3.extBut _ _ d2 (s2.extBut _ _ d3 (s1.extBut _ _ d1 e))
  refine wpAny_bind (wpAny_bind (wpAny_onRaise (orEnd_item (t2.at fun o e => up3 _ o (Ne.symm z2) (Ne.symm TO2) (Ne.symm i12) e) (((y2.extBut s1.extBut n2.1).extBut s2.extBut n2.2.2.2.1).extBut s3.extBut n2.2.2.1) hy fun g4 u4 s4 => ?_)))
  have o4 : IsTri g4 TO x b c := s4.extBut _ _ TO2 o3
  refine wpAny_bind (wpAny_seqItems o4 rfl (wpAny_bind (upd_tri o4 fun g5 o5 s5 => wpAny_bind (wpAny_letGo (wpAny_pure ?_)))))
  replace o5 : IsTri g5 TO x y c := o5
  have up5 : ∀ d o, d ≠ z → d ≠ TO → d ≠ i1 → d ≠ i2 → s.heap.get? d = some o → g5.get? d = some o := fun d o d1 d2 d3 d4 e => s5.extBut _ _ d2 (s4.extBut _ _ d4 (up3 d o d1 d2 d3 e))
  have y3' := ((((y3.extBut s1.extBut n3.1).extBut s2.extBut n3.2.2.2.1).extBut s3.extBut n3.2.2.1).extBut s4.extBut n3.2.2.2.2.1).extBut s5.extBut n3.2.2.1
  refine wpAny_bind (wpAny_bind (wpAny_onRaise (orEnd_item (t3.at fun o e => up5 _ o (Ne.symm z3) (Ne.symm TO3) (Ne.symm i13) (Ne.symm i23) e) y3' hu fun g6 u6 s6 => ?_)))
  have o6 : IsTri g6 TO x y c := s6.extBut _ _ TO3 o5
  refine wpAny_bind (wpAny_seqItems o6 rfl (wpAny_bind (upd_tri o6 fun g7 o7 s7 => wpAny_bind (wpAny_letGo (wpAny_pure (wpAny_pure ?_))))))
  replace o7 : IsTri g7 TO x y u := o7
  refine wpAny_bind (wpAny_seqItems o7 rfl (wpAny_bind (wpAny_newTuple ?_)))
  have sz : g7.objs.size = s.heap.objs.size := by rw [s7.1, s6.1, s5.1, s4.1, s3.1, s2.1, s1.1]
  have w7 : IsZ3 g7 z TI TO .ellipsis f0 := s7.extBut _ _ zTO (s6.extBut _ _ z3 (s5.extBut _ _ zTO (s4.extBut _ _ z2 (s3.extBut _ _ zTO (s2.extBut _ _ z1 w1)))))
  have up7 : ∀ d o, d ≠ z → d ≠ TO → d ≠ i1 → d ≠ i2 → d ≠ i3 → s.heap.get? d = some o → g7.get? d = some o := fun d o d1 d2 d3 d4 d5 e => s7.extBut _ _ d2 (s6.extBut _ _ d5 (up5 d o d1 d2 d3 d4 e))
  have a7 : g7.IsListIter i1 l1 (k1 + 1) := ((((u2.extBut s3.extBut (Ne.symm TO1)).extBut s4.extBut i12).extBut s5.extBut (Ne.symm TO1)).extBut s6.extBut i13).extBut s7.extBut (Ne.symm TO1)
  have b7 : g7.IsListIter i2 l2 (k2 + 1) := ((u4.extBut s5.extBut (Ne.symm TO2)).extBut s6.extBut i23).extBut s7.extBut (Ne.symm TO2)
  have c7 : g7.IsListIter i3 l3 (k3 + 1) := u6.extBut s7.extBut (Ne.symm TO3)
  have lz : z < g7.objs.size := Heap.lt_size w7
  refine wpAny_bind (m := ownedTupleHandOut (.ref z) (.ref g7.objs.size)) ?_
  unfold ownedTupleHandOut
  have w8 : IsZ3 (g7.push { cls := .type "tuple", data := .seq #[x, y, u] }) z TI TO .ellipsis f0 := Heap.get?_push_of_some _ w7
  refine wpAny_bind (wpAny_setField_rec w8 (by simp) fun g9 w9 s9 => ?_)
  replace w9 : IsZ3 g9 z TI TO (rawInt g7.objs.size) f0 := w9
  refine wpAny_setField_rec w9 (by simp) fun gA wA sA => wpAny_pure ⟨_, rfl, ?_⟩
  replace wA : IsZ3 gA z TI TO (rawInt g7.objs.size) false := wA
  have up : ∀ d o, d ≠ z → g7.get? d = some o → gA.get? d = some o := fun d o d1 e => sA.extBut _ _ d1 (s9.extBut _ _ d1 (Heap.get?_push_of_some _ e))
  have pA : IsTri gA g7.objs.size x y u := sA.extBut _ _ (Nat.ne_of_gt lz) (s9.extBut _ _ (Nat.ne_of_gt lz) (Heap.get?_push_size _ rfl))
  rw [sz] at wA pA
  show Q (.ref g7.objs.size) _
  rw [sz]
  refine hQ gA wA (up _ _ (Ne.symm zTO) o7) (a7.at fun o e => up _ o (Ne.symm z1) e) (b7.at fun o e => up _ o (Ne.symm z2) e) (c7.at fun o e => up _ o (Ne.symm z3) e) pA fun d o hd e => ?_
  simp only [List.mem_cons, List.not_mem_nil, or_false, not_or] at hd
  exact up d o hd.1 (up7 d o hd.1 hd.2.1 hd.2.2.1 hd.2.2.2.1 hd.2.2.2.2 e)
/-- the tuple that is out is held -/
theorem held3 {T : Addr} {oT : Obj} {R : Bool → Shared → Prop} (hz : IsZ3 s.heap z TI TO (rawInt T) f0) (hT : s.heap.get? T = some oT) (h : ∀ g, IsZ3 g z TI TO (rawInt T) true → Heap.SameBut z s.heap g → R false { s with heap := g }) : wpAny (model prog w) A (ownedTupleIsFree (.ref z)) R E s := by
  unfold ownedTupleIsFree
  refine wpAny_bind (wpAny_field hz rfl (x := rawInt T) rfl ?_)
  show wpAny _ _ (loadIfAlive ((T : Int).toNat) >>= _) _ _ _
  rw [Int.toNat_natCast]
  have q : ∀ R : Option Obj → Shared → Prop, R (some oT) s → wpAny (model prog w) A (loadIfAlive T) R E s := fun R hr => by
    have hr2 : R (s.heap.get? T) s := by rw [hT]; exact hr
    exact fun _ _ _ => hr2
  refine wpAny_bind (q _ ?_)
  simp only [Option.isNone_some, Bool.false_eq_true, if_false]
  refine wpAny_bind (wpAny_field hz rfl (x := .bool f0) rfl ?_)
  cases f0 with
  | false =>
    rw [if_pos (show (Value.bool false != Value.bool true) = true from rfl)]
    exact wpAny_bind (wpAny_setField_rec hz (by simp) fun g hg sg => wpAny_pure (h g hg sg))
  | true =>
    rw [if_neg (show ¬ ((Value.bool true != Value.bool true) = true) from Bool.false_ne_true)]
    exact wpAny_pure (h s.heap hz (Heap.SameBut.refl _ _))
theorem zip3_held {T : Addr} {oT : Obj} {Q : Value → Shared → Prop} (D : Apart3 z TI TO i1 i2 i3 l1 l2 l3) (hz : IsZ3 s.heap z TI TO (rawInt T) f0) (hT : s.heap.get? T = some oT)
    (pI : IsTri s.heap TI (.ref i1) (.ref i2) (.ref i3)) (t1 : s.heap.IsListIter i1 l1 k1) (t2 : s.heap.IsListIter i2 l2 k2) (t3 : s.heap.IsListIter i3 l3 k3)
    (y1 : s.heap.IsList l1 xs) (y2 : s.heap.IsList l2 ys) (y3 : s.heap.IsList l3 us) (hx : xs[k1]? = some x) (hy : ys[k2]? = some y) (hu : us[k3]? = some u)
    (hQ : ∀ g, IsZ3 g z TI TO (rawInt T) true → g.IsListIter i1 l1 (k1 + 1) → g.IsListIter i2 l2 (k2 + 1) → g.IsListIter i3 l3 (k3 + 1) → IsTri g s.heap.objs.size x y u →
      (∀ d o, d ∉ [z, i1, i2, i3] → s.heap.get? d = some o → g.get? d = some o) → Q (.ref s.heap.objs.size) { s with heap := g }) :
    wpAny (model prog w) A (Builtin.«zip.__next__» ⟨[.ref z], []⟩) (fun fin s2 => ∃ r, fin = .done (.ret r) ∧ Q r s2) E s := by
  have nd := D.nd
  have n1 := D.n1
  have n2 := D.n2
  have n3 := D.n3
  simp only [List.nodup_cons, List.mem_cons, List.not_mem_nil, or_false, not_or, List.nodup_nil, and_true, not_false_eq_true] at nd n1 n2 n3
  obtain ⟨⟨zTI, zTO, z1, z2, z3⟩, ⟨TITO, TI1, TI2, TI3⟩, ⟨TO1, TO2, TO3⟩, ⟨i12, i13⟩, i23⟩ := nd
  refine wpAny_bind (m := field (.ref z) 2) (wpAny_field hz rfl (x := .bool true) rfl ?_)
  refine wpAny_bind (m := field (.ref z) 3) (wpAny_field hz rfl (x := .ref TI) rfl (wpAny_bind (wpAny_seqItems pI rfl ?_)))
  refine wpAny_bind (m := ownedTupleIsFree (.ref z)) (held3 hz hT fun g1 w1 s1 => ?_)
  simp only [Bool.false_eq_true, if_false]
  refine wpAny_bind ?_
  rw [← Array.forIn_toList]
  simp only [List.forIn_cons, List.forIn_nil]
  refine wpAny_bind (wpAny_bind (wpAny_holding (orEnd_item (s := { s with heap := g1 }) (t1.extBut s1.extBut (Ne.symm z1)) (y1.extBut s1.extBut n1.1) hx fun g2 u2 s2 => wpAny_pure ?_)))
  refine wpAny_bind (wpAny_bind (wpAny_holding (orEnd_item (s := { s with heap := g2 }) ((t2.extBut s1.extBut (Ne.symm z2)).extBut s2.extBut (Ne.symm i12)) ((y2.extBut s1.extBut n2.1).extBut s2.extBut n2.2.2.2.1) hy fun g3 u3 s3 => wpAny_pure ?_)))
  refine wpAny_bind (wpAny_bind (wpAny_holding (orEnd_item (s := { s with heap := g3 }) (((t3.extBut s1.extBut (Ne.symm z3)).extBut s2.extBut (Ne.symm i13)).extBut s3.extBut (Ne.symm i23)) (((y3.extBut s1.extBut n3.1).extBut s2.extBut n3.2.2.2.1).extBut s3.extBut n3.2.2.2.2.1) hu fun g4 u4 s4 => wpAny_pure (wpAny_pure ?_))))
  refine wpAny_bind (m := newTuple [x, y, u]) (wpAny_newTuple ?_)
  have sz : g4.objs.size = s.heap.objs.size := by rw [s4.1, s3.1, s2.1, s1.1]
  have w4 : IsZ3 g4 z TI TO (rawInt T) true := s4.extBut _ _ z3 (s3.extBut _ _ z2 (s2.extBut _ _ z1 w1))
  have a4 : g4.IsListIter i1 l1 (k1 + 1) := (u2.extBut s3.extBut i12).extBut s4.extBut i13
  have b4 : g4.IsListIter i2 l2 (k2 + 1) := u3.extBut s4.extBut i23
  refine wpAny_pure ⟨_, rfl, ?_⟩
  have p4 : IsTri (g4.push { cls := .type "tuple", data := .seq #[x, y, u] }) g4.objs.size x y u := Heap.get?_push_size _ rfl
  show Q (.ref g4.objs.size) _
  rw [sz] at p4 ⊢
  refine hQ _ (Heap.get?_push_of_some _ w4) (a4.at fun o e => Heap.get?_push_of_some _ e) (b4.at fun o e => Heap.get?_push_of_some _ e) (u4.at fun o e => Heap.get?_push_of_some _ e) p4 fun d o hd e => ?_
  simp only [List.mem_cons, List.not_mem_nil, or_false, not_or] at hd
  exact Heap.get?_push_of_some _ (s4.extBut _ _ hd.2.2.2 (s3.extBut _ _ hd.2.2.1 (s2.extBut _ _ hd.2.1 (s1.extBut _ _ hd.1 e))))
theorem zip3_end {Q : Fin → Shared → Prop} (hh : A.handled = none) (D : Apart3 z TI TO i1 i2 i3 l1 l2 l3) (hz : IsZ3 s.heap z TI TO v0 f0) (fr : ∀ R : Bool → Shared → Prop, R true s → wpAny (model prog w) A (ownedTupleIsFree (.ref z)) R E s)
    (pI : IsTri s.heap TI (.ref i1) (.ref i2) (.ref i3)) (pO : IsTri s.heap TO a b c) (t1 : s.heap.IsListIter i1 l1 k1) (t2 : s.heap.IsListIter i2 l2 k2) (t3 : s.heap.IsListIter i3 l3 k3)
    (y1 : s.heap.IsList l1 xs) (y2 : s.heap.IsList l2 ys) (y3 : s.heap.IsList l3 us) (hx : xs[k1]? = none) (hy : ys[k2]? = none) (hu : us[k3]? = none)
    (hE : ∀ g e, (∀ d o, d ∉ [z, i1, i2, i3] → s.heap.get? d = some o → g.get? d = some o) → (∃ o, g.get? e = some o ∧ o.cls = .type "StopIteration") → E (.ref e) { s with heap := g }) :
    wpAny (model prog w) A (Builtin.«zip.__next__» ⟨[.ref z], []⟩) Q E s := by
  have nd := D.nd
  have n1 := D.n1
  have n2 := D.n2
  have n3 := D.n3
  simp only [List.nodup_cons, List.mem_cons, List.not_mem_nil, or_false, not_or, List.nodup_nil, and_true, not_false_eq_true] at nd n1 n2 n3
  obtain ⟨⟨zTI, zTO, z1, z2, z3⟩, ⟨TITO, TI1, TI2, TI3⟩, ⟨TO1, TO2, TO3⟩, ⟨i12, i13⟩, i23⟩ := nd
  refine wpAny_bind (m := field (.ref z) 2) (wpAny_field hz rfl (x := .bool true) rfl ?_)
  refine wpAny_bind (m := field (.ref z) 3) (wpAny_field hz rfl (x := .ref TI) rfl (wpAny_bind (wpAny_seqItems pI rfl ?_)))
  refine wpAny_bind (m := ownedTupleIsFree (.ref z)) (fr _ ?_)
  simp only [if_true]
  refine wpAny_bind (wpAny_rule (wpAny_bind (wpAny_field hz rfl (x := .ref TO) rfl (wpAny_bind (wpAny_setField_rec hz (by simp) fun g1 w1 s1 => wpAny_bind ?_)))))
  replace w1 : IsZ3 g1 z TI TO .ellipsis f0 := w1
  simp only [List.zipIdx_cons, List.zipIdx_nil, List.forIn_cons, List.forIn_nil]
  refine wpAny_bind (wpAny_bind (wpAny_onRaise (orEnd_end hh (t1.extBut s1.extBut (Ne.symm z1)) (y1.extBut s1.extBut n1.1) hx fun g2 s2 => ?_)))
  have w2 : IsZ3 g2 z TI TO .ellipsis f0 := s2 _ _ z1 w1
  refine wpAny_bind (wpAny_setField_rec w2 (by simp) fun g3 w3 s3 => ?_)
  refine wpAny_bind ?_
  refine wpAny_bind (m := forIn ([(Value.ref i2, 1), (Value.ref i3, 2)] : List (Value × Nat)) PUnit.unit _) ?_
  simp only [List.forIn_cons, List.forIn_nil]
  have up3 : ∀ d o, d ≠ z → d ≠ i1 → s.heap.get? d = some o → g3.get? d = some o := fun d o d1 d2 e => s3.extBut _ _ d1 (s2 _ _ d2 (s1.extBut _ _ d1 e))
  have y2' : g3.IsList l2 ys := ((y2.extBut s1.extBut n2.1).extBut s2 n2.2.2.2.1).extBut s3.extBut n2.1
  have y3' : g3.IsList l3 us := ((y3.extBut s1.extBut n3.1).extBut s2 n3.2.2.2.1).extBut s3.extBut n3.1
  refine wpAny_bind (wpAny_bind (orEnd_end hh (t2.at fun o e => up3 _ o (Ne.symm z2) (Ne.symm i12) e) y2' hy fun g4 s4 => ?_))
  simp only [Option.isSome_none, Bool.false_eq_true, if_false]
  refine wpAny_pure (wpAny_bind (wpAny_bind (orEnd_end hh ((t3.at fun o e => up3 _ o (Ne.symm z3) (Ne.symm i13) e).extBut s4 (Ne.symm i23)) (y3'.extBut s4 n3.2.2.2.2.1) hu fun g5 s5 => ?_)))
  simp only [Option.isSome_none, Bool.false_eq_true, if_false]
  refine wpAny_pure (wpAny_pure (wpAny_bind (wpAny_rule ?_)))
  have keep : ∀ d o, d ∉ [z, i1, i2, i3] → s.heap.get? d = some o → g5.get? d = some o := fun d o hd e => by
    simp only [List.mem_cons, List.not_mem_nil, or_false, not_or] at hd
    exact s5 _ _ hd.2.2.2 (s4 _ _ hd.2.2.1 (up3 d o hd.1 hd.2.1 e))
  exact stop_now hh fun g e k he => hE g e (fun d o hd q => k d o (keep d o hd q)) he
theorem zip3_endH {T : Addr} {oT : Obj} {Q : Fin → Shared → Prop} (hh : A.handled = none) (D : Apart3 z TI TO i1 i2 i3 l1 l2 l3) (hz : IsZ3 s.heap z TI TO (rawInt T) f0) (hT : s.heap.get? T = some oT)
    (pI : IsTri s.heap TI (.ref i1) (.ref i2) (.ref i3)) (t1 : s.heap.IsListIter i1 l1 k1) (t2 : s.heap.IsListIter i2 l2 k2) (t3 : s.heap.IsListIter i3 l3 k3)
    (y1 : s.heap.IsList l1 xs) (y2 : s.heap.IsList l2 ys) (y3 : s.heap.IsList l3 us) (hx : xs[k1]? = none) (hy : ys[k2]? = none) (hu : us[k3]? = none)
    (hE : ∀ g e, (∀ d o, d ∉ [z, i1, i2, i3] → s.heap.get? d = some o → g.get? d = some o) → (∃ o, g.get? e = some o ∧ o.cls = .type "StopIteration") → E (.ref e) { s with heap := g }) :
    wpAny (model prog w) A (Builtin.«zip.__next__» ⟨[.ref z], []⟩) Q E s := by
  have nd := D.nd
  have n1 := D.n1
  have n2 := D.n2
  have n3 := D.n3
  simp only [List.nodup_cons, List.mem_cons, List.not_mem_nil, or_false, not_or, List.nodup_nil, and_true, not_false_eq_true] at nd n1 n2 n3
  obtain ⟨⟨zTI, zTO, z1, z2, z3⟩, ⟨TITO, TI1, TI2, TI3⟩, ⟨TO1, TO2, TO3⟩, ⟨i12, i13⟩, i23⟩ := nd
  refine wpAny_bind (m := field (.ref z) 2) (wpAny_field hz rfl (x := .bool true) rfl ?_)
  refine wpAny_bind (m := field (.ref z) 3) (wpAny_field hz rfl (x := .ref TI) rfl (wpAny_bind (wpAny_seqItems pI rfl ?_)))
  refine wpAny_bind (m := ownedTupleIsFree (.ref z)) (held3 hz hT fun g1 w1 s1 => ?_)
  simp only [Bool.false_eq_true, if_false]
  refine wpAny_bind ?_
  rw [← Array.forIn_toList]
  simp only [List.forIn_cons, List.forIn_nil]
  refine wpAny_bind (wpAny_bind (wpAny_holding (orEnd_end (s := { s with heap := g1 }) hh (t1.extBut s1.extBut (Ne.symm z1)) (y1.extBut s1.extBut n1.1) hx fun g3 s3 => ?_)))
  refine wpAny_bind ?_
  refine wpAny_bind (m := forIn ([(Value.ref i2, 1), (Value.ref i3, 2)] : List (Value × Nat)) PUnit.unit _) ?_
  simp only [List.forIn_cons, List.forIn_nil]
  have up3 : ∀ d o, d ≠ z → d ≠ i1 → s.heap.get? d = some o → g3.get? d = some o := fun d o d1 d2 e => s3 _ _ d2 (s1.extBut _ _ d1 e)
  have y2' : g3.IsList l2 ys := (y2.extBut s1.extBut n2.1).extBut s3 n2.2.2.2.1
  have y3' : g3.IsList l3 us := (y3.extBut s1.extBut n3.1).extBut s3 n3.2.2.2.1
  refine wpAny_bind (wpAny_bind (orEnd_end hh (t2.at fun o e => up3 _ o (Ne.symm z2) (Ne.symm i12) e) y2' hy fun g4 s4 => ?_))
  simp only [Option.isSome_none, Bool.false_eq_true, if_false]
  refine wpAny_pure (wpAny_bind (wpAny_bind (orEnd_end hh ((t3.at fun o e => up3 _ o (Ne.symm z3) (Ne.symm i13) e).extBut s4 (Ne.symm i23)) (y3'.extBut s4 n3.2.2.2.2.1) hu fun g5 s5 => ?_)))
  simp only [Option.isSome_none, Bool.false_eq_true, if_false]
  refine wpAny_pure (wpAny_pure (wpAny_bind (wpAny_rule ?_)))
  have keep : ∀ d o, d ∉ [z, i1, i2, i3] → s.heap.get? d = some o → g5.get? d = some o := fun d o hd e => by
    simp only [List.mem_cons, List.not_mem_nil, or_false, not_or] at hd
    exact s5 _ _ hd.2.2.2 (s4 _ _ hd.2.2.1 (up3 d o hd.1 hd.2.1 e))
  exact stop_now hh fun g e k he => hE g e (fun d o hd q => k d o (keep d o hd q)) he
end
end DL

set_option Elab.async false
set_option linter.all false
set_option maxRecDepth 100000
set_option maxHeartbeats 4000000
namespace DL
open PySem PySem.Spec PySem.Builtin.SmallTypes
section
variable {prog : Program} {w : World} {A : Around} {E : Value → Shared → Prop} {s : Shared} {z TI TO i1 i2 i3 l1 l2 l3 : Addr} {i : Nat} {xs ys us : Array Value} {x y u : Value}
/-- a strict zip of three, between two turns -/
structure Z3St (h : Heap) (z TI TO i1 i2 i3 l1 l2 l3 : Addr) (i : Nat) : Prop where
  z : ∃ v f, IsZ3 h z TI TO v f ∧ (v = .none ∨ ∃ T : Addr, v = rawInt T)
  pI : IsTri h TI (.ref i1) (.ref i2) (.ref i3)
  pO : ∃ a b c, IsTri h TO a b c
  t1 : h.IsListIter i1 l1 i
  t2 : h.IsListIter i2 l2 i
  t3 : h.IsListIter i3 l3 i
theorem free3_none {v : Value} {f : Bool} {R : Bool → Shared → Prop} (hz : IsZ3 s.heap z TI TO .none f) (h : R true s) : wpAny (model prog w) A (ownedTupleIsFree (.ref z)) R E s := by
  unfold ownedTupleIsFree
  exact wpAny_bind (wpAny_field hz rfl (x := .none) rfl (wpAny_pure h))
theorem free3_gone {T : Addr} {f : Bool} {R : Bool → Shared → Prop} (hz : IsZ3 s.heap z TI TO (rawInt T) f) (g : s.heap.get? T = none) (h : R true s) : wpAny (model prog w) A (ownedTupleIsFree (.ref z)) R E s := by
  unfold ownedTupleIsFree
  refine wpAny_bind (wpAny_field hz rfl (x := rawInt T) rfl ?_)
  show wpAny _ _ (loadIfAlive ((T : Int).toNat) >>= _) _ _ _
  rw [Int.toNat_natCast]
  have q : ∀ R : Option Obj → Shared → Prop, R none s → wpAny (model prog w) A (loadIfAlive T) R E s := fun R hr => by
    have hr2 : R (s.heap.get? T) s := by rw [g]; exact hr
    exact fun _ _ _ => hr2
  exact wpAny_bind (q _ (wpAny_pure h))
theorem next3_item {Q : Option Value → Shared → Prop} (D : Apart3 z TI TO i1 i2 i3 l1 l2 l3) (S : Z3St s.heap z TI TO i1 i2 i3 l1 l2 l3 i) (y1 : s.heap.IsList l1 xs) (y2 : s.heap.IsList l2 ys) (y3 : s.heap.IsList l3 us) (hx : xs[i]? = some x) (hy : ys[i]? = some y) (hu : us[i]? = some u)
    (hQ : ∀ g, Z3St g z TI TO i1 i2 i3 l1 l2 l3 (i + 1) → IsTri g s.heap.objs.size x y u → (∀ d o, d ∉ [z, TO, i1, i2, i3] → s.heap.get? d = some o → g.get? d = some o) → Q (some (.ref s.heap.objs.size)) { s with heap := g }) : wpAny (model prog w) A (pyNext (.ref z)) Q E s := by
  obtain ⟨⟨v, f, hz, hv⟩, pI, ⟨a, b, c, pO⟩, t1, t2, t3⟩ := S
  have hT : s.TypeIs (.ref z) "zip" := ⟨_, hz, rfl⟩
  have nd := D.nd
  simp only [List.nodup_cons, List.mem_cons, List.not_mem_nil, or_false, not_or, List.nodup_nil, and_true, not_false_eq_true] at nd
  obtain ⟨⟨zTI, zTO, z1, z2, z3⟩, ⟨TITO, TI1, TI2, TI3⟩, ⟨TO1, TO2, TO3⟩, ⟨i12, i13⟩, i23⟩ := nd
  have kI : TI ∉ [z, TO, i1, i2, i3] := by simp only [List.mem_cons, List.not_mem_nil, or_false, not_or]; exact ⟨Ne.symm zTI, TITO, TI1, TI2, TI3⟩
  have fin : (∀ (A : Around) (E : Value → Shared → Prop) (R : Bool → Shared → Prop), R true s → wpAny (model prog w) A (ownedTupleIsFree (.ref z)) R E s) → wpAny (model prog w) A (pyNext (.ref z)) Q E s := fun fr => by
    unfold pyNext
    refine wpAny_bind (wpAny_attempt (wpAny_callSpecial?_slot (name := Str.ofString "__next__") hT F.slot_zip_next (wpAny_call_entry F.slot_zip_next hT F.entry_zip_next ?_ (F.args_zip_next_1 _))))
    exact zip3_item D hz (fr _ _) pI pO t1 t2 t3 y1 y2 y3 hx hy hu fun g a1 a2 a3 a4 a5 a6 a7 => wpAny_pure (hQ g ⟨⟨_, _, a1, .inr ⟨_, rfl⟩⟩, a7 _ _ kI pI, ⟨_, _, _, a2⟩, a3, a4, a5⟩ a6 a7)
  rcases hv with rfl | ⟨T, rfl⟩
  · exact fin fun _ _ _ h => free3_none (v := .none) hz h
  · cases e : s.heap.get? T with
    | none => exact fin fun _ _ _ h => free3_gone hz e h
    | some oT =>
      unfold pyNext
      refine wpAny_bind (wpAny_attempt (wpAny_callSpecial?_slot (name := Str.ofString "__next__") hT F.slot_zip_next (wpAny_call_entry F.slot_zip_next hT F.entry_zip_next ?_ (F.args_zip_next_1 _))))
      have less : ∀ d, d ∉ [z, TO, i1, i2, i3] → d ∉ [z, i1, i2, i3] := fun d hd => by
        simp only [List.mem_cons, List.not_mem_nil, or_false, not_or] at hd ⊢
        exact ⟨hd.1, hd.2.2.1, hd.2.2.2.1, hd.2.2.2.2⟩
      have kO : TO ∉ [z, i1, i2, i3] := by simp only [List.mem_cons, List.not_mem_nil, or_false, not_or]; exact ⟨Ne.symm zTO, TO1, TO2, TO3⟩
      exact zip3_held D hz e pI t1 t2 t3 y1 y2 y3 hx hy hu fun g a1 a3 a4 a5 a6 a7 => wpAny_pure (hQ g ⟨⟨_, _, a1, .inr ⟨_, rfl⟩⟩, a7 _ _ (less _ kI) pI, ⟨a, b, c, a7 _ _ kO pO⟩, a3, a4, a5⟩ a6 fun d o hd q => a7 d o (less d hd) q)
theorem next3_end {Q : Option Value → Shared → Prop} (hh : A.handled = none) (D : Apart3 z TI TO i1 i2 i3 l1 l2 l3) (S : Z3St s.heap z TI TO i1 i2 i3 l1 l2 l3 i) (y1 : s.heap.IsList l1 xs) (y2 : s.heap.IsList l2 ys) (y3 : s.heap.IsList l3 us) (hx : xs[i]? = none) (hy : ys[i]? = none) (hu : us[i]? = none)
    (hQ : ∀ g, (∀ d o, d ∉ [z, TO, i1, i2, i3] → s.heap.get? d = some o → g.get? d = some o) → Q none { s with heap := g }) : wpAny (model prog w) A (pyNext (.ref z)) Q E s := by
  obtain ⟨⟨v, f, hz, hv⟩, pI, ⟨a, b, c, pO⟩, t1, t2, t3⟩ := S
  have hT : s.TypeIs (.ref z) "zip" := ⟨_, hz, rfl⟩
  have less : ∀ d, d ∉ [z, TO, i1, i2, i3] → d ∉ [z, i1, i2, i3] := fun d hd => by
    simp only [List.mem_cons, List.not_mem_nil, or_false, not_or] at hd ⊢
    exact ⟨hd.1, hd.2.2.1, hd.2.2.2.1, hd.2.2.2.2⟩
  have fin : (∀ (A : Around) (E : Value → Shared → Prop) (R : Bool → Shared → Prop), R true s → wpAny (model prog w) A (ownedTupleIsFree (.ref z)) R E s) → wpAny (model prog w) A (pyNext (.ref z)) Q E s := fun fr => by
    unfold pyNext
    refine wpAny_bind (wpAny_attempt (wpAny_callSpecial?_slot (name := Str.ofString "__next__") hT F.slot_zip_next (wpAny_call_entry F.slot_zip_next hT F.entry_zip_next ?_ (F.args_zip_next_1 _))))
    refine zip3_end hh D hz (fr _ _) pI pO t1 t2 t3 y1 y2 y3 hx hy hu fun g e k ⟨o, ho, hc⟩ => ?_
    exact wpAny_bind (wpAny_isInstance (T := "StopIteration") (b := true) ⟨o, ho, hc⟩ isSubtype_stop (wpAny_pure (hQ g fun d o hd q => k d o (less d hd) q)))
  rcases hv with rfl | ⟨T, rfl⟩
  · exact fin fun _ _ _ h => free3_none (v := .none) hz h
  · cases e : s.heap.get? T with
    | none => exact fin fun _ _ _ h => free3_gone hz e h
    | some oT =>
      unfold pyNext
      refine wpAny_bind (wpAny_attempt (wpAny_callSpecial?_slot (name := Str.ofString "__next__") hT F.slot_zip_next (wpAny_call_entry F.slot_zip_next hT F.entry_zip_next ?_ (F.args_zip_next_1 _))))
      refine zip3_endH hh D hz e pI t1 t2 t3 y1 y2 y3 hx hy hu fun g e2 k ⟨o, ho, hc⟩ => ?_
      exact wpAny_bind (wpAny_isInstance (T := "StopIteration") (b := true) ⟨o, ho, hc⟩ isSubtype_stop (wpAny_pure (hQ g fun d o hd q => k d o (less d hd) q)))
end
end DL

set_option Elab.async false
set_option linter.all false
set_option maxRecDepth 100000
set_option maxHeartbeats 4000000
namespace DL
open PySem PySem.Spec PySem.Builtin.SmallTypes
abbrev kwS : List (Str × Value) := [(Str.ofString "strict", .bool true)]
theorem tc_zip3 (a b c : Value) : checkTypeCall "zip" ⟨[a, b, c], kwS⟩ = pure () := by kernel_rfl
theorem nc_zip3 (a b c : Value) : checkBuiltinCall "zip.__new__" ⟨[.type "zip", a, b, c], kwS⟩ = pure () := by kernel_rfl
abbrev zA (h : Heap) (l : Addr) : Heap := h.push { cls := .type "list_iterator", data := .fields #[.ref l, .int 0 0] }
abbrev z3C (h : Heap) (l1 l2 l3 : Addr) : Heap := zA (zA (zA h l1) l2) l3
abbrev z3D (h : Heap) (l1 l2 l3 : Addr) : Heap := (z3C h l1 l2 l3).push { cls := .type "tuple", data := .seq #[.ref h.objs.size, .ref (zA h l1).objs.size, .ref (zA (zA h l1) l2).objs.size] }
abbrev z3E (h : Heap) (l1 l2 l3 : Addr) : Heap := (z3D h l1 l2 l3).push { cls := .type "tuple", data := .seq #[.none, .none, .none] }
abbrev z3F (h : Heap) (l1 l2 l3 : Addr) : Heap := (z3E h l1 l2 l3).push { cls := .type "zip", data := .fields #[.none, .bool false, .bool true, .ref (z3C h l1 l2 l3).objs.size, .ref (z3D h l1 l2 l3).objs.size] }
theorem meets_zip3 (l1 l2 l3 : Addr) (xs ys us : Array Value) :
    Meets (Builtin.«zip.__new__» ⟨[.type "zip", .ref l1, .ref l2, .ref l3], kwS⟩) (fun _ R s => s.heap.IsList l1 xs ∧ s.heap.IsList l2 ys ∧ s.heap.IsList l3 us ∧ R (.ok (.ret (.ref (z3E s.heap l1 l2 l3).objs.size))) { s with heap := z3F s.heap l1 l2 l3 }) :=
  .of_wp fun prog w A R s h => by
    obtain ⟨hp, g, d, tk, os⟩ := s
    obtain ⟨a1, a2, a3, h⟩ := h
    have hsub := sub_zip
    have b1 : Heap.IsList (Shared.heap ⟨hp, g, d, tk, os⟩) l1 xs := a1
    have b2 : Heap.IsList (Shared.heap ⟨zA hp l1, g, d, tk, os⟩) l2 ys := Heap.IsList.push a2 _
    have b3 : Heap.IsList (Shared.heap ⟨zA (zA hp l1) l2, g, d, tk, os⟩) l3 us := Heap.IsList.push (Heap.IsList.push a3 _) _
    wp_walk using wpAny_pyIter_list b1, wpAny_pyIter_list b2, wpAny_pyIter_list b3
    exact ⟨_, rfl, h⟩
end DL

set_option Elab.async false
set_option linter.all false
set_option maxRecDepth 100000
set_option maxHeartbeats 4000000
namespace DL
open PySem PySem.Spec PySem.Builtin.SmallTypes PyProof.Rows
theorem ao_zip3 (o a b c : Value) : argsOk "object.__init__" ⟨[o, a, b, c], kwS⟩ := by
  unfold argsOk
  rw [signature?_of (id := "object.__init__") (n := ['_', '_', 't', 'i', 'n', 'i', '_', '_']) (o := ['t', 'c', 'e', 'j', 'b', 'o']) (by kernel_rfl) PySem.F.owner_object]
  kernel_rfl
theorem six_no {n l : Nat} (h : l < n) : l ∉ ([n + 5, n + 3, n + 4, n, n + 1, n + 2] : List Nat) := by simp; omega
theorem six_ge {n d : Nat} (h : d ∈ ([n + 5, n + 3, n + 4, n, n + 1, n + 2] : List Nat)) : n ≤ d := by simp at h; omega
section
variable {prog : Program} {w : World} {A : Around} {E : Value → Shared → Prop} {s : Shared} {l1 l2 l3 : Addr} {xs ys us : Array Value}
theorem call_zip3 {Q : Value → Shared → Prop} (y1 : s.heap.IsList l1 xs) (y2 : s.heap.IsList l2 ys) (y3 : s.heap.IsList l3 us)
    (h : ∀ g z TI TO i1 i2 i3, Apart3 z TI TO i1 i2 i3 l1 l2 l3 → Z3St g z TI TO i1 i2 i3 l1 l2 l3 0 → (∀ d ∈ [z, TI, TO, i1, i2, i3], s.heap.objs.size ≤ d) → (∀ d o, s.heap.get? d = some o → g.get? d = some o) → Q (.ref z) { s with heap := g }) :
    wpAny (model prog w) A (call (.type "zip") [.ref l1, .ref l2, .ref l3] kwS) Q E s := by
  refine callType_newKw PySem.F.called_zip (by decide) (tc_zip3 _ _ _) (nc_zip3 _ _ _) (fun obj => ao_zip3 obj _ _ _) PySem.F.entry_zip_new (meets_zip3 l1 l2 l3 xs ys us) ⟨y1, y2, y3, ?_⟩
  have e1 : (zA s.heap l1).objs.size = s.heap.objs.size + 1 := Heap.size_push ..
  have e2 : (zA (zA s.heap l1) l2).objs.size = s.heap.objs.size + 2 := by rw [Heap.size_push, e1]
  have e3 : (z3C s.heap l1 l2 l3).objs.size = s.heap.objs.size + 3 := by rw [Heap.size_push, e2]
  have e4 : (z3D s.heap l1 l2 l3).objs.size = s.heap.objs.size + 4 := by rw [Heap.size_push, e3]
  have e5 : (z3E s.heap l1 l2 l3).objs.size = s.heap.objs.size + 5 := by rw [Heap.size_push, e4]
  have old : ∀ d o, s.heap.get? d = some o → (z3F s.heap l1 l2 l3).get? d = some o := fun d o q => Heap.get?_push_of_some _ (Heap.get?_push_of_some _ (Heap.get?_push_of_some _ (Heap.get?_push_of_some _ (Heap.get?_push_of_some _ (Heap.get?_push_of_some _ q)))))
  have g6 : (z3F s.heap l1 l2 l3).get? (z3E s.heap l1 l2 l3).objs.size = some _ := Heap.get?_push_size _ rfl
  have g5 : (z3F s.heap l1 l2 l3).get? (z3D s.heap l1 l2 l3).objs.size = some _ := Heap.get?_push_of_some _ (Heap.get?_push_size _ rfl)
  have g4 : (z3F s.heap l1 l2 l3).get? (z3C s.heap l1 l2 l3).objs.size = some _ := Heap.get?_push_of_some _ (Heap.get?_push_of_some _ (Heap.get?_push_size _ rfl))
  have g3 : (z3F s.heap l1 l2 l3).get? (zA (zA s.heap l1) l2).objs.size = some _ := Heap.get?_push_of_some _ (Heap.get?_push_of_some _ (Heap.get?_push_of_some _ (Heap.get?_push_size _ rfl)))
  have g2 : (z3F s.heap l1 l2 l3).get? (zA s.heap l1).objs.size = some _ := Heap.get?_push_of_some _ (Heap.get?_push_of_some _ (Heap.get?_push_of_some _ (Heap.get?_push_of_some _ (Heap.get?_push_size _ rfl))))
  have g1 : (z3F s.heap l1 l2 l3).get? s.heap.objs.size = some _ := Heap.get?_push_of_some _ (Heap.get?_push_of_some _ (Heap.get?_push_of_some _ (Heap.get?_push_of_some _ (Heap.get?_push_of_some _ (Heap.get?_push_size _ rfl)))))
  have b1 : l1 < s.heap.objs.size := let ⟨_, q, _⟩ := y1; Heap.lt_size q
  have b2 : l2 < s.heap.objs.size := let ⟨_, q, _⟩ := y2; Heap.lt_size q
  have b3 : l3 < s.heap.objs.size := let ⟨_, q, _⟩ := y3; Heap.lt_size q
  show _ ∧ _
  refine ⟨⟨_, g6, rfl⟩, h (z3F s.heap l1 l2 l3) _ (z3C s.heap l1 l2 l3).objs.size (z3D s.heap l1 l2 l3).objs.size s.heap.objs.size (zA s.heap l1).objs.size (zA (zA s.heap l1) l2).objs.size ⟨?_, ?_, ?_, ?_⟩ ⟨⟨_, _, g6, .inl rfl⟩, g4, ⟨_, _, _, g5⟩, ⟨_, g1, rfl, rfl⟩, ⟨_, g2, rfl, rfl⟩, ⟨_, g3, rfl, rfl⟩⟩ ?_ old⟩
  · rw [e1, e2, e3, e4, e5]; simp
  · rw [e1, e2, e3, e4, e5]; exact six_no b1
  · rw [e1, e2, e3, e4, e5]; exact six_no b2
  · rw [e1, e2, e3, e4, e5]; exact six_no b3
  · rw [e1, e2, e3, e4, e5]; exact fun d hd => six_ge hd
end
end DL

set_option Elab.async false
set_option linter.all false
set_option maxRecDepth 100000
set_option maxHeartbeats 4000000
namespace DL
open PySem PySem.Spec PySem.Builtin.SmallTypes PyProof.Rows
/-- the tuples that were collected -/
structure Tris (h : Heap) (S : Addr) (bad : List Addr) (acc : Array Value) (xs ys us : Array Value) (i : Nat) : Prop where
  size : acc.size = i
  at' : ∀ j, j < i → ∃ (T : Addr) (x y u : Value), acc[j]? = some (.ref T) ∧ xs[j]? = some x ∧ ys[j]? = some y ∧ us[j]? = some u ∧ IsTri h T x y u ∧ T ∉ bad
  lo : ∀ (j : Nat) (T : Addr), acc[j]? = some (.ref T) → S < T
  rise : ∀ (j k : Nat) (T U : Addr), j < k → acc[j]? = some (.ref T) → acc[k]? = some (.ref U) → T < U
section
variable {prog : Program} {w : World} {A : Around} {R : Result → Shared → Prop} {z TI TO i1 i2 i3 l1 l2 l3 S : Addr} {xs ys us : Array Value} {n : Nat}
theorem loop3 (hh : A.in1.handled = none) (D : Apart3 z TI TO i1 i2 i3 l1 l2 l3) (hn : n ≤ sizeLine) (n1 : xs.size = n) (n2 : ys.size = n) (n3 : us.size = n) (hS : S ∉ [z, TI, TO, i1, i2, i3, l1, l2, l3]) (res : Value) :
    ∀ (k i : Nat) (s : Shared) (acc : Array Value) (c : Nat), i + k = n → Z3St s.heap z TI TO i1 i2 i3 l1 l2 l3 i → s.heap.IsList l1 xs → s.heap.IsList l2 ys → s.heap.IsList l3 us →
    s.heap.get? S = some { cls := .type "list", dict := none, data := .seq acc c, slots := #[] } → Tris s.heap S [z, TO, i1, i2, i3, S] acc xs ys us i →
    (∀ g acc' c', (∀ d o, d ∉ [z, TO, i1, i2, i3, S] → s.heap.get? d = some o → g.get? d = some o) → g.get? S = some { cls := .type "list", dict := none, data := .seq acc' c', slots := #[] } → Tris g S [z, TO, i1, i2, i3, S] acc' xs ys us n → R (.ok (.ret res)) { s with heap := g }) →
    codeAny (model prog w) A (.builtin "list.extend.loop" ⟨[.ref S, .ref z, res], []⟩) R s := by
  have hS0 := hS
  simp only [List.mem_cons, List.not_mem_nil, or_false, not_or] at hS0
  obtain ⟨sz0, sTI, sTO, s1, s2, s3, m1, m2, m3⟩ := hS0
  have nd := D.nd
  have q1 := D.n1
  have q2 := D.n2
  have q3 := D.n3
  simp only [List.nodup_cons, List.mem_cons, List.not_mem_nil, or_false, not_or, List.nodup_nil, and_true, not_false_eq_true] at nd q1 q2 q3
  intro k
  induction k with
  | zero =>
    intro i s acc c hk st y1 y2 y3 hs tr hR
    refine codeAny_builtin F.entry_extend_loop ?_
    rw [Around.under_plainId F.plain_extend_loop _]
    show wpAny _ A.in1 (pyNext (.ref z) >>= _) _ _ s
    have no : ∀ {a : Array Value}, a.size = n → a[i]? = none := fun h => Array.getElem?_eq_none (by omega)
    refine wpAny_bind (next3_end hh D st y1 y2 y3 (no n1) (no n2) (no n3) fun g k => wpAny_pure ?_)
    have hin : i = n := by omega
    subst hin
    refine hR g acc c (fun d o hd q => k d o (fun z => hd (by simp only [List.mem_cons, List.not_mem_nil, or_false] at z ⊢; rcases z with z | z | z | z | z <;> simp [z])) q) (k S _ (by simp only [List.mem_cons, List.not_mem_nil, or_false, not_or]; exact ⟨sz0, sTO, s1, s2, s3⟩) hs) ⟨tr.size, fun j hj => ?_, tr.lo, tr.rise⟩
    obtain ⟨T, x, y, u, e1, e2, e3, e4, e5, e6⟩ := tr.at' j hj
    refine ⟨T, x, y, u, e1, e2, e3, e4, k T _ (fun z => e6 ?_) e5, e6⟩
    simp only [List.mem_cons, List.not_mem_nil, or_false] at z ⊢
    rcases z with z | z | z | z | z <;> simp [z]
  | succ k ih =>
    intro i s acc c hk st y1 y2 y3 hs tr hR
    refine codeAny_builtin F.entry_extend_loop ?_
    rw [Around.under_plainId F.plain_extend_loop _]
    show wpAny _ A.in1 (pyNext (.ref z) >>= _) _ _ s
    have hi : i < n := by omega
    obtain ⟨x, hx⟩ : ∃ x, xs[i]? = some x := ⟨_, Array.getElem?_eq_getElem (by omega)⟩
    obtain ⟨y, hy⟩ : ∃ y, ys[i]? = some y := ⟨_, Array.getElem?_eq_getElem (by omega)⟩
    obtain ⟨u, hu⟩ : ∃ u, us[i]? = some u := ⟨_, Array.getElem?_eq_getElem (by omega)⟩
    refine wpAny_bind (next3_item D st y1 y2 y3 hx hy hu fun g st' tri kp => ?_)
    obtain ⟨⟨zTI, zTO, z1, z2, z3⟩, ⟨TITO, TI1, TI2, TI3⟩, ⟨TO1, TO2, TO3⟩, ⟨i12, i13⟩, i23⟩ := nd
    have hS' := kp S _ (by simp only [List.mem_cons, List.not_mem_nil, or_false, not_or]; exact ⟨sz0, sTO, s1, s2, s3⟩) hs
    show wpAny _ A.in1 (updateSeq S (·.push (.ref s.heap.objs.size)) >>= _) _ _ _
    have sa : acc.size = i := tr.size
    refine wpAny_bind (wpAny_updateSeq hS' rfl (wpAny_pure ⟨plainId_quiet F.plain_extend_loop _, ?_⟩) (by rw [sa]; omega) (by show (acc.push _).size ≤ sizeLine + 1; rw [Array.size_push, sa]; omega))
    have up : ∀ d o, d ≠ S → g.get? d = some o → (g.update S (Obj.mapSeq (·.push (.ref s.heap.objs.size)))).get? d = some o := fun d o hd e => (Heap.get?_update_other _ _ (Ne.symm hd)).trans e
    have five : ∀ d, d ∉ [z, TO, i1, i2, i3, S] → d ∉ [z, TO, i1, i2, i3] ∧ d ≠ S := fun d hd => by
      simp only [List.mem_cons, List.not_mem_nil, or_false, not_or] at hd ⊢
      exact ⟨⟨hd.1, hd.2.1, hd.2.2.1, hd.2.2.2.1, hd.2.2.2.2.1⟩, hd.2.2.2.2.2⟩
    have ls : ∀ {l : Addr} {a : Array Value}, s.heap.IsList l a → l ∉ [z, TO, i1, i2, i3] → l ≠ S → (g.update S (Obj.mapSeq (·.push (.ref s.heap.objs.size)))).IsList l a := fun {l a} h h1 h2 => by
      obtain ⟨o, e, r⟩ := h
      exact ⟨o, up _ _ h2 (kp _ _ h1 e), r⟩
    have l1n : l1 ∉ [z, TO, i1, i2, i3] := by simp only [List.mem_cons, List.not_mem_nil, or_false, not_or]; exact ⟨q1.1, q1.2.2.1, q1.2.2.2.1, q1.2.2.2.2.1, q1.2.2.2.2.2⟩
    have l2n : l2 ∉ [z, TO, i1, i2, i3] := by simp only [List.mem_cons, List.not_mem_nil, or_false, not_or]; exact ⟨q2.1, q2.2.2.1, q2.2.2.2.1, q2.2.2.2.2.1, q2.2.2.2.2.2⟩
    have l3n : l3 ∉ [z, TO, i1, i2, i3] := by simp only [List.mem_cons, List.not_mem_nil, or_false, not_or]; exact ⟨q3.1, q3.2.2.1, q3.2.2.2.1, q3.2.2.2.2.1, q3.2.2.2.2.2⟩
    have new : s.heap.objs.size ∉ [z, TO, i1, i2, i3, S] := by
      obtain ⟨⟨v, f, hz, _⟩, _, ⟨_, _, _, pO⟩, ⟨_, e1, _⟩, ⟨_, e2, _⟩, ⟨_, e3, _⟩⟩ := st
      simp only [List.mem_cons, List.not_mem_nil, or_false, not_or]
      exact ⟨Nat.ne_of_gt (Heap.lt_size hz), Nat.ne_of_gt (Heap.lt_size pO), Nat.ne_of_gt (Heap.lt_size e1), Nat.ne_of_gt (Heap.lt_size e2), Nat.ne_of_gt (Heap.lt_size e3), Nat.ne_of_gt (Heap.lt_size hs)⟩
    refine ih (i + 1) _ (acc.push (.ref s.heap.objs.size)) _ (by omega) ?_ (ls y1 l1n (Ne.symm m1)) (ls y2 l2n (Ne.symm m2)) (ls y3 l3n (Ne.symm m3)) (Heap.get?_update_self _ hS' rfl) ⟨by rw [Array.size_push, sa], fun j hj => ?_, fun j T e => ?_, fun j k T U hjk e e' => ?_⟩ fun g' acc' c' k' hS'' tr' => ?_
    · obtain ⟨⟨v, f, hz, hv⟩, pI, ⟨a, b, c, pO⟩, t1, t2, t3⟩ := st'
      exact ⟨⟨v, f, up _ _ (Ne.symm sz0) hz, hv⟩, up _ _ (Ne.symm sTI) pI, ⟨a, b, c, up _ _ (Ne.symm sTO) pO⟩, t1.at fun o e => up _ o (Ne.symm s1) e, t2.at fun o e => up _ o (Ne.symm s2) e, t3.at fun o e => up _ o (Ne.symm s3) e⟩
    · by_cases hji : j < i
      · obtain ⟨T, x, y, u, e1, e2, e3, e4, e5, e6⟩ := tr.at' j hji
        refine ⟨T, x, y, u, ?_, e2, e3, e4, up _ _ (five T e6).2 (kp T _ (five T e6).1 e5), e6⟩
        rw [Array.getElem?_push, if_neg (by omega)]; exact e1
      · have : j = i := by omega
        subst this
        exact ⟨_, x, y, u, by rw [Array.getElem?_push, if_pos sa.symm], hx, hy, hu, up _ _ (five _ new).2 tri, new⟩
    · rw [Array.getElem?_push] at e
      split at e
      · cases e; exact Heap.lt_size hs
      · exact tr.lo j T e
    · rw [Array.getElem?_push] at e e'
      have oldT : ∀ (j : Nat) (T : Addr), acc[j]? = some (Value.ref T) → T < s.heap.objs.size := fun j T e => by
        have hj : j < acc.size := (Array.getElem?_eq_some_iff.mp e).1
        obtain ⟨T', x, y, u, e1, _, _, _, e5, _⟩ := tr.at' j (by omega)
        rw [e] at e1; cases e1
        exact Heap.lt_size e5
      split at e
      · split at e'
        · omega
        · have := (Array.getElem?_eq_some_iff.mp e').1; omega
      · split at e'
        · cases e'; exact oldT j T e
        · exact tr.rise j k T U hjk e e'
    · exact hR g' acc' c' (fun d o hd q => k' d o hd (up d o (five d hd).2 (kp d o (five d hd).1 q))) hS'' tr'
end
end DL

set_option Elab.async false
set_option linter.all false
set_option maxRecDepth 100000
set_option maxHeartbeats 4000000
namespace DL
open PySem PySem.Spec PySem.Builtin.SmallTypes PyProof.Rows
theorem zip_no_len : typeLookup (.type "zip") "__len__" = pure none := am_miss_of_fast (by first | decide +kernel | rfl)
theorem zip_no_hint : typeLookup (.type "zip") "__length_hint__" = pure none := am_miss_of_fast (by first | decide +kernel | rfl)
section
variable {prog : Program} {w : World} {A : Around} {E : Value → Shared → Prop} {s : Shared} {R : Result → Shared → Prop} {z TI TO i1 i2 i3 l1 l2 l3 S : Addr} {xs ys us : Array Value} {n : Nat}
theorem iter3 {v : Value} {f : Bool} {Q : Value → Shared → Prop} (hz : IsZ3 s.heap z TI TO v f) (h : Q (.ref z) s) : wpAny (model prog w) A (pyIter (.ref z)) Q E s := by
  have hT : s.TypeIs (.ref z) "zip" := ⟨_, hz, rfl⟩
  refine wpAny_pyIter_slot hT F.slot_zip_iter (wpAny_call_entry F.slot_zip_iter hT F.entry_zip_iter ?_ (F.args_zip_iter_1 _))
  show wpAny _ _ (ret (.ref z)) _ _ s
  exact wpAny_pure ⟨_, rfl, "zip", _, hT, F.slot_zip_next.lookup, h⟩
theorem extend3 (hh : A.in1.handled = none) (D : Apart3 z TI TO i1 i2 i3 l1 l2 l3) (hn : n ≤ sizeLine) (n1 : xs.size = n) (n2 : ys.size = n) (n3 : us.size = n) (hS : S ∉ [z, TI, TO, i1, i2, i3, l1, l2, l3]) (res : Value)
    (st : Z3St s.heap z TI TO i1 i2 i3 l1 l2 l3 0) (y1 : s.heap.IsList l1 xs) (y2 : s.heap.IsList l2 ys) (y3 : s.heap.IsList l3 us) (c₀ : Nat) (hs : s.heap.get? S = some { cls := .type "list", data := .seq #[] c₀ })
    (hR : ∀ g acc' c', (∀ d o, d ∉ [z, TO, i1, i2, i3, S] → s.heap.get? d = some o → g.get? d = some o) → g.get? S = some { cls := .type "list", dict := none, data := .seq acc' c', slots := #[] } → Tris g S [z, TO, i1, i2, i3, S] acc' xs ys us n → R (.ok (.ret res)) { s with heap := g }) :
    wpAny (model prog w) A.in1 (Builtin.List.listExtendWith (.ref S) (.ref z) res)
      (fun fin s' => match fin with | .done f => R (.ok f) s' | .again c' => c'.quiet = true ∧ codeAny (model prog w) A c' R s') (fun e s' => R (.error e) s') s := by
  obtain ⟨v, f, hz, hv⟩ := st.z
  have hT : s.TypeIs (.ref z) "zip" := ⟨_, hz, rfl⟩
  have hS0 := hS
  simp only [List.mem_cons, List.not_mem_nil, or_false, not_or] at hS0
  obtain ⟨sz0, sTI, sTO, s1, s2, s3, m1, m2, m3⟩ := hS0
  unfold Builtin.List.listExtendWith
  refine wpAny_bind (wpAny_typeOf hT ?_)
  have h1 : Builtin.List.listSameRef (.ref S) (.ref z) = false := by simp [Builtin.List.listSameRef, sz0]
  have h2 : (Value.type "zip" == Value.type "list") = false := by decide
  have h3 : (Value.type "zip" == Value.type "tuple") = false := by decide
  simp only [h1, h2, h3, Bool.or_false, Bool.false_eq_true, if_false]
  refine wpAny_bind (iter3 hz ?_)
  refine wpAny_bind (wpAny_holding ?_)
  unfold Builtin.List.listLengthHint
  refine wpAny_bind (wpAny_specialOf hT zip_no_len ?_)
  show wpAny _ A.in1 (specialOf (Value.ref z) (Str.ofString "__length_hint__") >>= _) _ _ _
  refine wpAny_bind (wpAny_specialOf hT zip_no_hint ?_)
  refine wpAny_pure ?_
  show wpAny _ A.in1 (rule "list.extend.makes-room" >>= fun _ => Builtin.List.listTouch (.ref S) >>= fun _ => again (.builtin "list.extend.loop" ⟨[.ref S, .ref z, res], []⟩)) _ _ _
  refine wpAny_bind (wpAny_rule (wpAny_bind ?_))
  show wpAny _ A.in1 (updateSeq S (·.push .none) >>= fun _ => updateSeq S (·.pop)) _ _ _
  refine wpAny_bind (wpAny_updateSeq hs rfl ?_)
  have hs2 := Heap.get?_update_self (Obj.mapSeq (·.push Value.none)) hs rfl
  refine wpAny_updateSeq hs2 rfl ?_
  have hs3 := Heap.get?_update_self (Obj.mapSeq (·.pop)) hs2 rfl
  have up : ∀ d o, d ≠ S → s.heap.get? d = some o → ((s.heap.update S (Obj.mapSeq (·.push Value.none))).update S (Obj.mapSeq (·.pop))).get? d = some o := fun d o hd e => (Heap.get?_update_other _ _ (Ne.symm hd)).trans ((Heap.get?_update_other _ _ (Ne.symm hd)).trans e)
  have ls : ∀ {l : Addr} {a : Array Value}, s.heap.IsList l a → l ≠ S → ((s.heap.update S (Obj.mapSeq (·.push Value.none))).update S (Obj.mapSeq (·.pop))).IsList l a := fun {l a} h h2 => by
    obtain ⟨o, e, r⟩ := h
    exact ⟨o, up _ _ h2 e, r⟩
  refine wpAny_pure ⟨plainId_quiet F.plain_extend_loop _, loop3 hh D hn n1 n2 n3 hS res n 0 _ _ _ (Nat.zero_add n) ?_ (ls y1 (Ne.symm m1)) (ls y2 (Ne.symm m2)) (ls y3 (Ne.symm m3)) hs3 ⟨rfl, fun j hj => absurd hj (Nat.not_lt_zero j), fun j T e => by simp at e, fun j k T U _ e => by simp at e⟩ fun g acc' c' k e tr => ?_⟩
  · obtain ⟨⟨v, f, hz, hv⟩, pI, ⟨a, b, c, pO⟩, t1, t2, t3⟩ := st
    exact ⟨⟨v, f, up _ _ (Ne.symm sz0) hz, hv⟩, up _ _ (Ne.symm sTI) pI, ⟨a, b, c, up _ _ (Ne.symm sTO) pO⟩, t1.at fun o e => up _ o (Ne.symm s1) e, t2.at fun o e => up _ o (Ne.symm s2) e, t3.at fun o e => up _ o (Ne.symm s3) e⟩
  · refine hR g acc' c' (fun d o hd q => k d o hd (up d o (fun z => hd (by simp [z])) q)) e tr
end
end DL

set_option Elab.async false
set_option linter.all false
set_option maxRecDepth 100000
set_option maxHeartbeats 4000000
namespace DL
open PySem PySem.Spec PySem.Builtin.SmallTypes PyProof.Rows
section
variable {prog : Program} {w : World} {A : Around} {E : Value → Shared → Prop} {s : Shared} {z TI TO i1 i2 i3 l1 l2 l3 : Addr} {xs ys us : Array Value} {n : Nat}
/-- list(z), z a strict zip of three lists of one length -/
theorem call_list3 {Q : Value → Shared → Prop} (hh : A.handled = none) (D : Apart3 z TI TO i1 i2 i3 l1 l2 l3) (hn : n ≤ sizeLine) (n1 : xs.size = n) (n2 : ys.size = n) (n3 : us.size = n)
    (st : Z3St s.heap z TI TO i1 i2 i3 l1 l2 l3 0) (y1 : s.heap.IsList l1 xs) (y2 : s.heap.IsList l2 ys) (y3 : s.heap.IsList l3 us)
    (hQ : ∀ g acc' c', (∀ d o, d ∉ [z, TO, i1, i2, i3] → s.heap.get? d = some o → g.get? d = some o) → g.get? s.heap.objs.size = some { cls := .type "list", dict := none, data := .seq acc' c', slots := #[] } → Tris g s.heap.objs.size [z, TO, i1, i2, i3, s.heap.objs.size] acc' xs ys us n → Q (.ref s.heap.objs.size) { s with heap := g }) :
    wpAny (model prog w) A (call (.type "list") [.ref z]) Q E s := by
  refine callType_codes (Q₁ := fun obj s₁ => obj = .ref s.heap.objs.size ∧ s₁ = { s with heap := s.heap.push { cls := .type "list", data := .seq #[] } }) F.called_list (F.typeCall_list_1 _) F.entry_list_init
    (code_list_new _ ⟨rfl, rfl⟩) fun obj s₁ h₁ => ?_
  obtain ⟨rfl, rfl⟩ := h₁
  have hS : (s.heap.push { cls := .type "list", data := .seq #[] }).get? s.heap.objs.size = some { cls := .type "list", data := .seq #[] } := Heap.get?_push_size _ rfl
  refine ⟨⟨_, hS, rfl⟩, F.args_list_init_2 _ _, ?_⟩
  show wpAny _ _ (do let old ← Builtin.List.listItems (.ref s.heap.objs.size); Builtin.List.listUpdate (.ref s.heap.objs.size) (fun _ => #[]); letGo old.toList.reverse; Builtin.List.listExtendWith (.ref s.heap.objs.size) (.ref z) .none) _ _ _
  refine wpAny_bind ?_
  unfold Builtin.List.listItems
  refine wpAny_bind (wpAny_seqItems hS rfl (wpAny_pure ?_))
  show wpAny _ _ (updateSeq s.heap.objs.size (fun _ => #[]) >>= fun _ => letGo (#[] : Array Value).toList.reverse >>= fun _ => Builtin.List.listExtendWith (.ref s.heap.objs.size) (.ref z) .none) _ _ _
  refine wpAny_bind (wpAny_updateSeq hS rfl ?_)
  have hS2 := Heap.get?_update_self (Obj.mapSeq (fun _ => (#[] : Array Value))) hS rfl
  have up : ∀ d o, s.heap.get? d = some o → ((s.heap.push { cls := .type "list", data := .seq #[] }).update s.heap.objs.size (Obj.mapSeq (fun _ => (#[] : Array Value)))).get? d = some o :=
    fun d o e => (Heap.get?_update_other _ _ (Nat.ne_of_gt (Heap.lt_size e))).trans (Heap.get?_push_of_some _ e)
  refine wpAny_bind (wpAny_letGo ?_)
  obtain ⟨⟨v, f, hz, hv⟩, pI, ⟨a, b, c, pO⟩, t1, t2, t3⟩ := st
  obtain ⟨_, e1, _⟩ := id t1
  obtain ⟨_, e2, _⟩ := id t2
  obtain ⟨_, e3, _⟩ := id t3
  obtain ⟨_, f1, _⟩ := id y1
  obtain ⟨_, f2, _⟩ := id y2
  obtain ⟨_, f3, _⟩ := id y3
  have hSn : s.heap.objs.size ∉ [z, TI, TO, i1, i2, i3, l1, l2, l3] := by
    simp only [List.mem_cons, List.not_mem_nil, or_false, not_or]
    exact ⟨Nat.ne_of_gt (Heap.lt_size hz), Nat.ne_of_gt (Heap.lt_size pI), Nat.ne_of_gt (Heap.lt_size pO), Nat.ne_of_gt (Heap.lt_size e1), Nat.ne_of_gt (Heap.lt_size e2), Nat.ne_of_gt (Heap.lt_size e3), Nat.ne_of_gt (Heap.lt_size f1), Nat.ne_of_gt (Heap.lt_size f2), Nat.ne_of_gt (Heap.lt_size f3)⟩
  have ls : ∀ {l : Addr} {a : Array Value}, s.heap.IsList l a → ((s.heap.push { cls := .type "list", data := .seq #[] }).update s.heap.objs.size (Obj.mapSeq (fun _ => (#[] : Array Value)))).IsList l a := fun {l a} h => by
    obtain ⟨o, e, r⟩ := h
    exact ⟨o, up _ _ e, r⟩
  refine extend3 (A := A.in1) hh D hn n1 n2 n3 hSn .none ⟨⟨v, f, up _ _ hz, hv⟩, up _ _ pI, ⟨a, b, c, up _ _ pO⟩, t1.at fun o e => up _ o e, t2.at fun o e => up _ o e, t3.at fun o e => up _ o e⟩ (ls y1) (ls y2) (ls y3) _ hS2 fun g acc' c' k e tr => ?_
  refine ⟨rfl, hQ g acc' c' (fun d o hd q => k d o (fun m => ?_) (up d o q)) e tr⟩
  simp only [List.mem_cons, List.not_mem_nil, or_false, not_or] at m hd
  rcases m with m | m | m | m | m | m
  · exact hd.1 m
  · exact hd.2.1 m
  · exact hd.2.2.1 m
  · exact hd.2.2.2.1 m
  · exact hd.2.2.2.2 m
  · exact Nat.ne_of_lt (Heap.lt_size q) m
end
end DL

set_option Elab.async false
set_option linter.all false
set_option maxRecDepth 100000
set_option maxHeartbeats 4000000
namespace DL
open PySem PySem.Spec PySem.Builtin.SmallTypes PyProof.Rows
/-! ### a call of a built-in class with keywords -/
section
variable {M : Model} {A : Around} {E : Value → Shared → Prop} {s : Shared} {env : Env}
theorem callWith_typeKw {pos : Pos} {T : String} {e : Expr} {rest : List Expr} {kws : List Keyword} {Q : Value → Shared → Prop}
    (h : wpAny M A (spliced (backTo pos (starEach (e :: rest) env))) (fun vs s₁ => wpAny M A (evalAll ((backToKw pos (keywordEach kws env)).map (·.2)))
      (fun kvs s₂ => wpAny M A (call (.type T) vs (((backToKw pos (keywordEach kws env)).filterMap (·.1)).zip kvs)) Q E s₂) E s₁) E s)
    (he : backTo pos (starEach (e :: rest) env) = (false, eval e env) :: backTo pos (starEach rest env) := by rfl)
    (hplain : (backTo pos (starEach (e :: rest) env)).any (·.1) = false := by rfl)
    (hall : (backToKw pos (keywordEach kws env)).all (·.1.isSome) = true := by rfl)
    (hkw : (backToKw pos (keywordEach kws env)).any (·.1.isNone) = false := by rfl) :
    wpAny M A (callWith pos (.type T) [] (backTo pos (starEach (e :: rest) env)) (backToKw pos (keywordEach kws env))) Q E s := by
  have h2 : wpAny M A (evalArgs (.type T) true (backTo pos (starEach (e :: rest) env)) (backToKw pos (keywordEach kws env))) (fun a s₁ => wpAny M A (call (.type T) ([] ++ a.pos) a.kw) Q E s₁) E s := by
    rw [he] at h ⊢
    exact evalArgs_kwB hall h
  unfold callWith
  refine wpAny_bind (wpAny_holding (wpAny_mono h2 (fun a s₁ h₁ => wpAny_bind (wpAny_standAt ?_)) fun _ _ x => x))
  simp only [hplain, hkw, Bool.or_false]
  refine wpAny_bind (wpAny_pure ?_)
  exact wpAny_bind (wpAny_mono h₁ (fun r s₂ hr => wpAny_bind (wpAny_holding (wpAny_point (wpAny_pure hr)))) fun _ _ x => x)
end
end DL
namespace DL
open PySem PySem.Spec L2
open Evl (Ex)
/-! ### many new things at once -/
def putF (H : Hp) : List (Addr × HO) → Hp
  | [] => H
  | (a, o) :: r => upd (putF H r) a o
theorem putF_off {H : Hp} {b : Addr} : ∀ {l : List (Addr × HO)}, b ∉ l.map (·.1) → putF H l b = H b
  | [], _ => rfl
  | (a, o) :: r, h => by
    rw [List.map_cons, List.mem_cons, not_or] at h
    unfold putF
    rw [upd_ne h.1]; exact putF_off h.2
theorem putF_at {H : Hp} {a : Addr} {o : HO} : ∀ {l : List (Addr × HO)}, (l.map (·.1)).Nodup → (a, o) ∈ l → putF H l a = some o
  | (b, u) :: r, nd, h => by
    rw [List.map_cons, List.nodup_cons] at nd
    unfold putF
    rcases List.mem_cons.mp h with e | e
    · cases e; exact upd_same
    · rw [upd_ne fun z => nd.1 (by rw [← z]; exact List.mem_map_of_mem (f := (·.1)) e)]
      exact putF_at nd.2 e
theorem Go.many {K : PySem.W.Frag} {F H : Hp} {M : Mem} (at0 : At K F M H) : ∀ {l : List (Addr × HO)}, (l.map (·.1)).Nodup → (∀ p ∈ l, H p.1 = none) → Go K F M H (putF F l) M (putF H l)
  | [], _, _ => Go.refl at0
  | (a, o) :: r, nd, h => by
    rw [List.map_cons, List.nodup_cons] at nd
    have g := Go.many at0 nd.2 fun p hp => h p (List.mem_cons_of_mem _ hp)
    exact g.trans (Go.laid g.at' (by rw [putF_off nd.1]; exact h _ List.mem_cons_self))
theorem inv_many {X : Cx} {pins : List (Addr × Obj)} {σ : L2.St} {H : Hp} {s : Shared} {h' : Heap} {tk : Nat} (I : Inv X pins σ H s) (hk : ∀ b o, s.heap.get? b = some o → h'.get? b = some o) {l : List (Addr × HO)} (nd : (l.map (·.1)).Nodup)
    (hn : ∀ p ∈ l, s.heap.objs.size ≤ p.1 ∧ ∀ H' : Hp, ObjOk X.prog X.w H' h' p.1 p.2) : Inv X pins σ (putF H l) { s with heap := h', toks := tk } := by
  have fr : ∀ b, b ∈ l.map (·.1) → s.heap.objs.size ≤ b := fun b hb => by
    obtain ⟨p, hp, rfl⟩ := List.mem_map.mp hb
    exact (hn p hp).1
  have low : ∀ b o, s.heap.get? b = some o → b ∉ l.map (·.1) := fun b o e z => absurd (Heap.lt_size e) (Nat.not_lt.mpr (fr b z))
  have kp : ∀ b u, H b = some u → putF H l b = some u := fun b u e => by
    rw [putF_off fun z => ?_]
    · exact e
    · rw [I.hok.fresh (fr b z)] at e; cases e
  refine I.call' (s' := { s with heap := h', toks := tk }) (ch := []) rfl ⟨fun b o q _ _ _ => hk b o q, fun b o q _ _ _ => ⟨o.slots, hk b o q⟩, fun b o q n _ => by rw [putF_off (low b o q)]; exact n, fun b o q _ => ⟨o, hk b o q⟩, fun b xs q => kp b _ q, fun b o u q => kp b _ q, fun b ps q => ⟨#[], by rw [kp b _ q]; simp⟩⟩ (fun b u q => ?_) I.bare fun b z => by simp at z
  by_cases hb : b ∈ l.map (·.1)
  · obtain ⟨p, hp, rfl⟩ := List.mem_map.mp hb
    rw [putF_at nd (show (p.1, p.2) ∈ l from hp)] at q
    cases q
    exact (hn p hp).2 _
  · rw [putF_off hb] at q
    exact (I.hok b u q).stay (fun c v _ e => hk c v e) (fun c e => kp c _ e) fun c xs e => kp c _ e
end DL

set_option Elab.async false
set_option linter.all false
set_option maxRecDepth 100000
set_option maxHeartbeats 4000000
namespace DL
open PySem PySem.Spec L2
open Evl (Ex)
/-! ### list(zip(a, b, c, strict=True)) -/
def triD : List PyData → List PyData → List PyData → List PyData
  | x :: xs, y :: ys, z :: zs => .tuple [x, y, z] :: triD xs ys zs
  | _, _, _ => []
/-- what is new: the tuples -/
def triO : List Addr → List V → List V → List V → List (Value × Value × Value) → List (Addr × HO)
  | t :: ts, x :: xs, y :: ys, z :: zs, o :: os => (t, .frz { cls := .type "tuple", data := .seq #[o.1, o.2.1, o.2.2] } (.tup [x, y, z])) :: triO ts xs ys zs os
  | _, _, _, _, _ => []
theorem triO_fst : ∀ {ts : List Addr} {xs ys zs : List V} {os : List (Value × Value × Value)}, xs.length = ts.length → ys.length = ts.length → zs.length = ts.length → os.length = ts.length → (triO ts xs ys zs os).map (·.1) = ts
  | [], _, _, _, _, _, _, _, _ => by unfold triO; rfl
  | t :: ts, x :: xs, y :: ys, z :: zs, o :: os, a, b, c, d => by
    unfold triO
    rw [List.map_cons, triO_fst (by simpa using a) (by simpa using b) (by simpa using c) (by simpa using d)]
theorem triO_ok {P : Program} {w : World} {h : Heap} : ∀ {ts : List Addr} {xs ys zs : List V} {os : List (Value × Value × Value)}, Vals xs (os.map (·.1)) → Vals ys (os.map (·.2.1)) → Vals zs (os.map (·.2.2)) →
    (∀ p ∈ ts.zip os, IsTri h p.1 p.2.1 p.2.2.1 p.2.2.2) → ∀ p ∈ triO ts xs ys zs os, ∀ H' : Hp, ObjOk P w H' h p.1 p.2
  | t :: ts, x :: xs, y :: ys, z :: zs, o :: os, a, b, c, d, p, hp, H' => by
    unfold triO at hp
    cases a with | cons a1 a2 =>
    cases b with | cons b1 b2 =>
    cases c with | cons c1 c2 =>
    rcases List.mem_cons.mp hp with e | e
    · subst e
      have q := d (t, o) (by rw [List.zip_cons_cons]; exact List.mem_cons_self)
      refine ⟨q, show 3 ≤ sizeLine by decide, [o.1, o.2.1, o.2.2], .cons a1 (.cons b1 (.cons c1 .nil)), _, q, rfl, _, rfl⟩
    · exact triO_ok a2 b2 c2 (fun p hp => d p (by rw [List.zip_cons_cons]; exact List.mem_cons_of_mem _ hp)) p e H'
  | [], _, _, _, _, _, _, _, _, p, hp, _ => by unfold triO at hp; cases hp
  | _ :: _, [], _, _, _, _, _, _, _, p, hp, _ => by unfold triO at hp; cases hp
  | _ :: _, _ :: _, [], _, _, _, _, _, _, p, hp, _ => by unfold triO at hp; cases hp
  | _ :: _, _ :: _, _ :: _, [], _, _, _, _, _, p, hp, _ => by unfold triO at hp; cases hp
  | _ :: _, _ :: _, _ :: _, _ :: _, [], _, _, _, _, p, hp, _ => by unfold triO at hp; cases hp
theorem triO_dq {K : PySem.W.Frag} {F : Hp} : ∀ {ts : List Addr} {xs ys zs : List V} {os : List (Value × Value × Value)} {dx dy dz : List PyData}, DqAll K F xs dx → DqAll K F ys dy → DqAll K F zs dz → xs.length = ts.length → ys.length = ts.length → zs.length = ts.length → os.length = ts.length →
    (∀ p ∈ triO ts xs ys zs os, F p.1 = some p.2) → DqAll K F (ts.map V.ref) (triD dx dy dz)
  | [], [], [], [], _, _, _, _, .nil, .nil, .nil, _, _, _, _, _ => .nil
  | t :: ts, x :: xs, y :: ys, z :: zs, o :: os, _, _, _, .cons a1 a2, .cons b1 b2, .cons c1 c2, l1, l2, l3, l4, h => by
    unfold triO at h
    unfold triD
    refine .cons (.tup (.inl ⟨_, h _ List.mem_cons_self, rfl⟩) (.cons a1 (.cons b1 (.cons c1 .nil)))) (triO_dq a2 b2 c2 (by simpa using l1) (by simpa using l2) (by simpa using l3) (by simpa using l4) fun p hp => h p (List.mem_cons_of_mem _ hp))
def adOf : Value → Addr
  | .ref a => a
  | _ => 0
section
variable {X : Cx} {a b c : Expr} {wa : WA} {p p2 q pos kp kpos : Pos} {j : Nat}
abbrev wLZip3 (wa : WA) : WE := fun dl M R => wa dl M fun rs M1 => match rs with
  | [.d (.list xs), .d (.list ys), .d (.list zs)] => xs.length = ys.length ∧ xs.length = zs.length ∧ R (.d (.list (triD xs ys zs))) M1
  | _ => False
theorem pd_listZip3 (hc : X.calm = true) (hg : Gl X "list") (hm : X.mg "list" = none) (hg2 : Gl X "zip") (hm2 : X.mg "zip" = none) (ha : PDA X [a, b, c] wa)
    (he : backTo q (starEach [a, b, c] X.env) = (false, eval a X.env) :: backTo q (starEach [b, c] X.env) := by rfl) (hpl : (backTo q (starEach [a, b, c] X.env)).any (·.1) = false := by rfl) :
    PD X (.Call (.Name "list" p) [.Call (.Name "zip" p2) [a, b, c] [⟨some "strict", .Constant (.bool true) j kp, kpos⟩] q] [] pos) (wLZip3 wa) := by
  refine ⟨fun pins s st H Q I h => ?_⟩
  obtain ⟨F, dl, M, R, so, at0, hw, po⟩ := h
  refine PyProof.Rows.Call_ (ld_blt I hg hm (u := .type "list") (by decide +kernel) ?_)
  refine PyProof.Rows.callWith_type1 (PyProof.Rows.args_cons ?_ rfl) rfl rfl
  refine wpAny_Call_Name_kw (ld_blt I hg2 hm2 (u := .type "zip") (by decide +kernel) ?_)
  refine callWith_typeKw ?_ he hpl rfl rfl
  refine thn (PA.run ha q pins s st H (fun vs H1 => ∃ a b c xs ys zs, vs = [.ref a, .ref b, .ref c] ∧ SqL X.K H1 a xs ∧ SqL X.K H1 b ys ∧ SqL X.K H1 c zs ∧ xs.length = ys.length ∧ xs.length = zs.length ∧
    ∀ (S : Addr) (ts : List Addr) (os : List (Value × Value × Value)), H1 S = none → (∀ t ∈ ts, H1 t = none) → (S :: ts).Nodup → ts.length = xs.length → os.length = xs.length → Q (.ref S) (putF H1 ((S, .lst (ts.map V.ref)) :: triO ts xs ys zs os))) I ?_) fun us s1 ⟨vs, H1, I1, r1, q1⟩ => ?_
  · refine tDA_to so at0 hw fun vs F1 H1 rs M1 h1 g1 so1 at1 i1 => ?_
    split at h1
    · rename_i dx dy dz
      obtain ⟨l1, l2, hR⟩ := h1
      obtain ⟨v, u, w, rfl, i2, i3, i4⟩ := isAll3 i1
      cases i2 with | @lst a xs _ q1 d1 =>
      cases i3 with | @lst b ys _ q2 d2 =>
      cases i4 with | @lst c zs _ q3 d3 =>
      have e1 := dqAll_len d1
      have e2 := dqAll_len d2
      have e3 := dqAll_len d3
      refine ⟨a, b, c, xs, ys, zs, rfl, SqL.of (at1.ex _ _ q1), SqL.of (at1.ex _ _ q2), SqL.of (at1.ex _ _ q3), by omega, by omega, fun S ts os hS ht nd z1 z2 => ?_⟩
      have f1 := triO_fst (ts := ts) (xs := xs) (ys := ys) (zs := zs) (os := os) (by omega) (by omega) (by omega) (by omega)
      have nd2 : (((S, HO.lst (ts.map V.ref)) :: triO ts xs ys zs os).map (·.1)).Nodup := by rw [List.map_cons, f1]; exact nd
      have g := Go.many at1 nd2 fun p hp => by
        rcases List.mem_cons.mp hp with e | e
        · subst e; exact hS
        · exact ht _ (by rw [← f1]; exact List.mem_map_of_mem (f := (·.1)) e)
      refine po _ _ _ _ M1 hR (g1.trans g) (.lst (vs := ts.map V.ref) (putF_at nd2 List.mem_cons_self) ?_)
      exact triO_dq (os := os) (dqAll_mono g.ex d1) (dqAll_mono g.ex d2) (dqAll_mono g.ex d3) (by omega) (by omega) (by omega) (by omega) fun p hp => putF_at nd2 (List.mem_cons_of_mem _ hp)
    · exact h1.elim
  · obtain ⟨l1, l2, l3, xs, ys, zs, rfl, hx, hy, hz, n1, n2, hQ⟩ := q1
    obtain ⟨its, rx, px, zx⟩ := I1.list hx
    obtain ⟨jts, ry, py, zy⟩ := I1.list hy
    obtain ⟨kts, rz, pz, zz⟩ := I1.list hz
    cases r1 with | cons r1 r2 =>
    cases r1
    cases r2 with | cons r2 r3 =>
    cases r2
    cases r3 with | cons r3 r4 =>
    cases r3
    cases r4
    refine PyProof.Rows.kws_cons ?_
    refine PyProof.Rows.Constant_bool ?_
    refine PyProof.Rows.kws_nil ?_
    show wpAny (model X.prog X.w) X.A (call (.type "zip") [.ref l1, .ref l2, .ref l3] kwS) _ _ _
    refine call_zip3 px.isList py.isList pz.isList fun g z TI TO i1 i2 i3 D st nw kp => ?_
    refine PyProof.Rows.args_nil ?_
    have ls : ∀ {l : Addr} {a : Array Value}, s1.heap.IsList l a → g.IsList l a := fun {l a} h => by
      obtain ⟨o, e, r⟩ := h
      exact ⟨o, kp _ _ e, r⟩
    have lx := rx.length
    have ly := ry.length
    have lz := rz.length
    refine call_list3 (n := xs.length) (s := { s1 with heap := g }) (I1.ok.hd hc) D zx (by rw [List.size_toArray]; omega) (by rw [List.size_toArray]; omega) (by rw [List.size_toArray]; omega) st (ls px.isList) (ls py.isList) (ls pz.isList) fun g2 acc c k2 hS tr => ?_
    obtain ⟨zv, zf, hzz, _⟩ := st.z
    have hsz : s1.heap.objs.size ≤ g.objs.size := Nat.le_of_lt (Nat.lt_of_le_of_lt (nw z (by simp)) (Heap.lt_size hzz))
    have hlen : acc.toList.length = xs.length := by rw [Array.length_toList]; exact tr.size
    have acce : acc.toList = (acc.toList.map adOf).map Value.ref := by
      apply List.ext_getElem?
      intro j
      rw [List.map_map, List.getElem?_map]
      by_cases hj : j < xs.length
      · obtain ⟨T, x, y, u, e1, _⟩ := tr.at' j hj
        rw [Array.getElem?_toList, e1]; rfl
      · rw [List.getElem?_eq_none (by omega)]; rfl
    have atT : ∀ (j : Nat) (T : Addr), (acc.toList.map adOf)[j]? = some T → acc[j]? = some (.ref T) := fun j T e => by
      have : acc.toList[j]? = some (.ref T) := by rw [acce, List.getElem?_map, e]; rfl
      rwa [Array.getElem?_toList] at this
    have above : ∀ t ∈ acc.toList.map adOf, g.objs.size < t := fun t ht => by
      obtain ⟨j, hj⟩ := List.mem_iff_getElem?.mp ht
      exact tr.lo j t (atT j t hj)
    have nd : (acc.toList.map adOf).Nodup := by
      refine List.Pairwise.imp (R := fun a b : Addr => a < b) (fun {a b} h => Nat.ne_of_lt h) (List.pairwise_iff_getElem.mpr fun i j hi hj hij => ?_)
      exact tr.rise i j _ _ hij (atT i _ (List.getElem?_eq_getElem hi)) (atT j _ (List.getElem?_eq_getElem hj))
    have m1 : (its.zip (jts.zip kts)).map (·.1) = its := by rw [List.map_fst_zip]; rw [List.length_zip]; omega
    have m0 : (its.zip (jts.zip kts)).map (·.2) = jts.zip kts := by rw [List.map_snd_zip]; rw [List.length_zip]; omega
    have m2 : (its.zip (jts.zip kts)).map (·.2.1) = jts := by
      have : (its.zip (jts.zip kts)).map (·.2.1) = ((its.zip (jts.zip kts)).map (·.2)).map (·.1) := by rw [List.map_map]; rfl
      rw [this, m0, List.map_fst_zip]; omega
    have m3 : (its.zip (jts.zip kts)).map (·.2.2) = kts := by
      have : (its.zip (jts.zip kts)).map (·.2.2) = ((its.zip (jts.zip kts)).map (·.2)).map (·.2) := by rw [List.map_map]; rfl
      rw [this, m0, List.map_snd_zip]; omega
    have lo : (its.zip (jts.zip kts)).length = xs.length := by rw [List.length_zip, List.length_zip]; omega
    have lt : (acc.toList.map adOf).length = xs.length := by rw [List.length_map]; exact hlen
    have nd2 : (g.objs.size :: acc.toList.map adOf).Nodup := List.nodup_cons.mpr ⟨fun z => Nat.lt_irrefl _ (above _ z), nd⟩
    have f1 := triO_fst (ts := acc.toList.map adOf) (xs := xs) (ys := ys) (zs := zs) (os := its.zip (jts.zip kts)) (by omega) (by omega) (by omega) (by omega)
    refine ⟨.ref g.objs.size, _, inv_many (tk := s1.toks) I1 (h' := g2) (fun b o e => k2 b o (fun zz => ?_) (kp b o e)) (l := (g.objs.size, .lst ((acc.toList.map adOf).map V.ref)) :: triO (acc.toList.map adOf) xs ys zs (its.zip (jts.zip kts))) (by rw [List.map_cons, f1]; exact nd2) (fun p hp => ?_), rfl, hQ g.objs.size (acc.toList.map adOf) (its.zip (jts.zip kts)) (I1.hok.fresh hsz) (fun t ht => I1.hok.fresh (Nat.le_of_lt (Nat.lt_of_le_of_lt hsz (above t ht)))) nd2 lt lo⟩
    · have hb := Heap.lt_size e
      have : b ∈ [z, TI, TO, i1, i2, i3] := by
        simp only [List.mem_cons, List.not_mem_nil, or_false] at zz ⊢
        rcases zz with h | h | h | h | h <;> simp [h]
      exact absurd hb (Nat.not_lt.mpr (nw b this))
    · rcases List.mem_cons.mp hp with e | e
      · subst e
        refine ⟨hsz, fun H' => ⟨by rw [List.length_map, lt]; exact zx, acc.toList, c, ?_, hS⟩⟩
        have : ∀ l : List Addr, Vals (l.map V.ref) (l.map Value.ref) := fun l => by
          induction l with
          | nil => exact .nil
          | cons t r ih => exact .cons rfl ih
        have h9 := this (acc.toList.map adOf)
        rwa [← acce] at h9
      · refine ⟨Nat.le_of_lt (Nat.lt_of_le_of_lt hsz (above _ (by rw [← f1]; exact List.mem_map_of_mem (f := (·.1)) e))), triO_ok (by rw [m1]; exact rx) (by rw [m2]; exact ry) (by rw [m3]; exact rz) (fun p hp => ?_) p e⟩
        obtain ⟨j, hj⟩ := List.mem_iff_getElem?.mp hp
        rw [List.getElem?_zip_eq_some] at hj
        obtain ⟨h1, h2⟩ := hj
        rw [List.getElem?_zip_eq_some, List.getElem?_zip_eq_some] at h2
        obtain ⟨h2, h3, h4⟩ := h2
        have hjl : j < xs.length := by have := (List.getElem?_eq_some_iff.mp h1).1; omega
        obtain ⟨T, x, y, u, e1, e2, e3, e4, e5, _⟩ := tr.at' j hjl
        have e6 := atT j _ h1
        rw [e1] at e6
        have a1 : its[j]? = some x := by simpa using e2
        have a2 : jts[j]? = some y := by simpa using e3
        have a3 : kts[j]? = some u := by simpa using e4
        rw [a1] at h2; rw [a2] at h3; rw [a3] at h4
        cases e6; cases h2; cases h3; cases h4
        exact e5
end
end DL

set_option Elab.async false
set_option linter.all false
set_option maxRecDepth 100000
set_option maxHeartbeats 4000000
namespace DL
open PySem PySem.Spec L2
open Evl (Ex)
/-! ### d[k], the dict walked or not; max(a, b) -/
def dcOf (M : Mem) (a : Addr) : Option KS := match M a with
  | some (.dic ks) => some ks
  | some (.lok _ _ ks) => some ks
  | _ => none
theorem dcOf_d {M : Mem} {a : Addr} {ks : KS} (h : M a = some (.dic ks)) : dcOf M a = some ks := by simp only [dcOf, h]
theorem dcOf_l {M : Mem} {a : Addr} {od : Obj} {kvs : List (Key × V)} {ks : KS} (h : M a = some (.lok od kvs ks)) : dcOf M a = some ks := by simp only [dcOf, h]
abbrev gDGetL : W2 := fun p q M R => match p with
  | .v (.ref a) => ∃ ks k r, dcOf M a = some ks ∧ keyS q = some k ∧ valS ks k = some r ∧ R r M
  | _ => False
theorem dcOf_at {K : PySem.W.Frag} {F H : Hp} {M : Mem} {a : Addr} {ks : KS} (at0 : At K F M H) (h : dcOf M a = some ks) : ∃ kvs, Rd H a (.dK kvs) ∧ All2 (KIs K F) ks kvs := by
  unfold dcOf at h
  split at h
  · rename_i m
    cases h
    obtain ⟨_, kvs, q1, q2⟩ := at0.mem a _ m
    exact ⟨kvs, .inl q1, q2⟩
  · rename_i m
    cases h
    obtain ⟨_, q1, q2⟩ := at0.mem a _ m
    exact ⟨_, .inr ⟨_, q1⟩, q2⟩
  · cases h
section
variable {X : Cx} {a b c o i : Expr} {wa wb wc wo wi we : WE} {pos : Pos}
theorem pd_dgetL (hu : X.A.units + 1 < cLine) (ha : PD X a wa) (hb : PD X b wb) (hs : NoSl b := by exact fun _ _ => rfl) : PD X (.Subscript a b pos) (wOp gDGetL wa wb) := by
  refine pe_imp (pe_dget hu ha hb hs) fun st H Q ⟨F, dl, M, R, so, at0, hw, po⟩ => ?_
  refine tD_to so at0 hw fun x F1 H1 p M1 h1 e1 so1 at1 i1 => ?_
  refine tD_to so1 at1 h1 fun y F2 H2 q M2 h2 e2 so2 at2 i2 => ?_
  unfold gDGetL at h2
  split at h2
  · rename_i ad
    obtain ⟨ks, k, r, m, hk, hv, hR⟩ := h2
    have e : x = .ref ad := i1
    subst e
    obtain ⟨kvs, q1, q2⟩ := dcOf_at at2 m
    obtain ⟨v, z1, z2⟩ := (valS_at (k := k) q2).1 r hv
    refine ⟨ad, v, rfl, ?_, po _ F2 H2 _ M2 hR (e1.trans e2) z2⟩
    rw [keyS_at i2 hk, ← z1]
    rcases q1 with q1 | ⟨o, q1⟩
    · exact DGet.k q1
    · exact .inl ⟨kvs, _, .inr ⟨o, q1⟩, rfl, rfl⟩
  · exact h2.elim
abbrev gMax2 : WCl := fun rs M R => match rs with
  | [.d (.int i), .d (.int j)] => R (.i (if j > i then j else i)) M
  | _ => False
theorem c_max2 (hc : X.calm = true) : CaD X (.builtin "max") gMax2 := caD_of fun F H M vs rs R Q at0 i1 h1 po => by
  unfold gMax2 at h1
  split at h1
  · obtain ⟨v, u, rfl, i2, i3⟩ := isAll2 i1
    exact ⟨_, call_max2 hc, _, _, by rw [dq_int i2, dq_int i3], po _ F H _ M h1 (Go.refl at0) (.int _)⟩
  · exact h1.elim
end
/-- a comprehension with a test: nothing changes -/
theorem lc_fl {g : WG} {wt : WT} {we : WE} {C : Mem → Prop} {dl : Env'} {R : List Sl → Mem → Prop} {M : Mem} {A : Type} (l : List A) (φ : A → Sl) (p : A → Bool) (f : A → PyData) (hC : C M) (hz : l.length ≤ sizeLine)
    (h : ∀ a ∈ l, ∀ (k1 : Sl → Mem → Prop) (k0 : Mem → Prop), (p a = true → k1 (.d (f a)) M) → (p a = false → k0 M) → g (φ a) dl M fun dl2 M2 => wt dl2 M2 fun k M3 => if k = true then we dl2 M3 k1 else k0 M3)
    (hR : R (((l.filter p).map f).map Sl.d) M) : lcGo g wt we C dl R (l.map φ) [] M := by
  refine lc_fm l φ (fun a => if p a = true then some (.d (f a)) else none) hC hz (fun a ha k1 k0 h1 h0 => h a ha k1 k0 (fun hp => h1 _ (by rw [if_pos hp])) fun hp => h0 (by rw [if_neg (by rw [hp]; exact Bool.false_ne_true)])) ?_
  have e : ∀ l : List A, l.filterMap (fun a => if p a = true then some (Sl.d (f a)) else none) = ((l.filter p).map f).map Sl.d := fun l => by
    induction l with
    | nil => rfl
    | cons a r ih =>
      by_cases hp : p a = true
      · rw [List.filterMap_cons_some (b := .d (f a)) (by rw [if_pos hp]), List.filter_cons_of_pos hp, ih]; rfl
      · rw [List.filterMap_cons_none (by rw [if_neg hp]), List.filter_cons_of_neg hp, ih]
  rw [e]; exact hR
theorem merge_new : ∀ (more acc : KS), ((acc ++ more).map (·.1)).Nodup → mergeS acc more = acc ++ more
  | [], acc, _ => by simp [mergeS]
  | a :: r, acc, h => by
    show mergeS (putS acc a.1 a.2) r = _
    have hn : a.1 ∉ acc.map (·.1) := fun z => by
      rw [List.map_append, List.map_cons] at h
      exact (List.nodup_append.mp h).2.2 a.1 z a.1 List.mem_cons_self rfl
    rw [putS_new hn, merge_new r (acc ++ [(a.1, a.2)]) (by simpa using h)]
    simp
end DL

set_option Elab.async false
set_option linter.all false
set_option maxRecDepth 100000
set_option maxHeartbeats 4000000
namespace DL
open PySem PySem.Spec L2
/-! ### a dict comprehension over a typed list: nothing changes -/
theorem putS_len (ks : KS) (k : Key) (v : Sl) : (putS ks k v).length ≤ ks.length + 1 := by
  unfold putS
  split
  · rw [List.length_map]; omega
  · rw [List.length_append]; simp
theorem dc_m {g : WG} {wt : WT} {wk wv : WE} {C : Mem → Prop} {dl : Env'} {R : KS → Mem → Prop} {M : Mem} {A : Type} (l : List A) (φ : A → Sl) (kf : A → Key) (vf : A → Sl) (hC : C M) (hz : l.length ≤ sizeLine)
    (h : ∀ a ∈ l, ∀ (k1 : Sl → Sl → Mem → Prop) (k0 : Mem → Prop), (∀ y, keyS y = some (kf a) → k1 y (vf a) M) → g (φ a) dl M fun dl2 M2 => wt dl2 M2 fun k M3 => if k = true then wk dl2 M3 fun y M4 => wv dl2 M4 fun z M5 => k1 y z M5 else k0 M3)
    (hR : R (mergeS [] (l.map fun a => (kf a, vf a))) M) : dcGo g wt wk wv C dl R (l.map φ) [] M := by
  suffices hs : ∀ (l' : List A) (acc : KS), (∀ a ∈ l', a ∈ l) → acc.length + l'.length ≤ sizeLine → R (mergeS acc (l'.map fun a => (kf a, vf a))) M → dcGo g wt wk wv C dl R (l'.map φ) acc M from hs l [] (fun _ h => h) (by simpa using hz) hR
  intro l'
  induction l' with
  | nil => intro acc _ _ hR; exact ⟨hC, hR⟩
  | cons a r ih =>
    intro acc hm hl hR
    rw [List.length_cons] at hl
    refine ⟨hC, h a (hm a List.mem_cons_self) (fun y z M5 => ∃ kk, keyS y = some kk ∧ acc.length < sizeLine ∧ dcGo g wt wk wv C dl R (r.map φ) (putS acc kk z) M5) _ fun y hy => ⟨kf a, hy, by omega, ?_⟩⟩
    exact ih _ (fun b hb => hm b (List.mem_cons_of_mem _ hb)) (by have := putS_len acc (kf a) (vf a); omega) hR
/-! ### numbers, each once, as they come; a dict of them -/
abbrev trueS (ns : List Int) : KS := ns.map fun n => (Sum.inl n, Sl.b true)
def uniq (acc : List Int) : List Int → List Int
  | [] => acc
  | n :: r => uniq (if n ∈ acc then acc else acc ++ [n]) r
theorem trueS_put (ns : List Int) (n : Int) : putS (trueS ns) (.inl n) (.b true) = trueS (if n ∈ ns then ns else ns ++ [n]) := by
  have hm : ((trueS ns).any fun kv => decide (kv.1 = .inl n)) = true ↔ n ∈ ns := by
    rw [List.any_map, List.any_eq_true]
    constructor
    · rintro ⟨x, hx, h⟩
      have : (Sum.inl x : Key) = .inl n := of_decide_eq_true h
      cases this; exact hx
    · intro h; exact ⟨n, h, decide_eq_true rfl⟩
  unfold putS
  by_cases h : n ∈ ns
  · rw [if_pos (hm.mpr h), if_pos h, List.map_map]
    refine List.map_congr_left fun x _ => ?_
    show (if (Sum.inl x : Key) = .inl n then _ else _) = _
    split <;> rfl
  · rw [if_neg (fun z => h (hm.mp z)), if_neg h]
    show _ = List.map _ (ns ++ [n])
    rw [List.map_append]; rfl
theorem trueS_merge : ∀ (ms ns : List Int), mergeS (trueS ns) (trueS ms) = trueS (uniq ns ms)
  | [], ns => rfl
  | m :: r, ns => by
    show mergeS (putS (trueS ns) (.inl m) (.b true)) (trueS r) = _
    rw [trueS_put, trueS_merge r]; rfl
theorem uniq_mem {x : Int} : ∀ {ms acc : List Int}, x ∈ uniq acc ms ↔ x ∈ acc ∨ x ∈ ms
  | [], acc => by simp [uniq]
  | m :: r, acc => by
    rw [uniq, uniq_mem]
    split
    · rename_i h
      constructor
      · rintro (a | a)
        · exact .inl a
        · exact .inr (List.mem_cons_of_mem _ a)
      · rintro (a | a)
        · exact .inl a
        · rcases List.mem_cons.mp a with rfl | a
          · exact .inl h
          · exact .inr a
    · simp [or_assoc]
theorem uniq_nd : ∀ {ms acc : List Int}, acc.Nodup → (uniq acc ms).Nodup
  | [], acc, h => h
  | m :: r, acc, h => by
    rw [uniq]
    split
    · exact uniq_nd h
    · rename_i hm
      exact uniq_nd (List.nodup_append.mpr ⟨h, by simp, fun a ha c hc e => by simp at hc; subst hc; subst e; exact hm ha⟩)
theorem uniq_len : ∀ {ms acc : List Int}, (uniq acc ms).length ≤ acc.length + ms.length
  | [], acc => by simp [uniq]
  | m :: r, acc => by
    rw [uniq, List.length_cons]
    split
    · have := uniq_len (ms := r) (acc := acc); omega
    · have := uniq_len (ms := r) (acc := acc ++ [m])
      rw [List.length_append, List.length_singleton] at this; omega
theorem uniq_uniq : ∀ {ms acc : List Int} (rs : List Int), uniq (uniq acc ms) rs = uniq acc (ms ++ rs)
  | [], acc, rs => rfl
  | m :: r, acc, rs => by rw [uniq, uniq_uniq, List.cons_append, uniq]
theorem uniq_uniq0 : ∀ (ms acc : List Int), uniq acc (uniq [] ms) = uniq acc ms := by
  suffices h : ∀ (ms acc : List Int) (b : List Int), uniq acc (uniq b ms) = uniq (uniq acc b) ms from fun ms acc => h ms acc []
  intro ms
  induction ms with
  | nil => intro acc b; rfl
  | cons m r ih =>
    intro acc b
    rw [uniq, ih, uniq]
    congr 1
    by_cases h : m ∈ b
    · rw [if_pos h, if_pos (uniq_mem.mpr (.inr h))]
    · rw [if_neg h, ← uniq_uniq]; rfl
theorem keysI_true : ∀ ns : List Int, keysI (trueS ns) = some ns
  | [] => rfl
  | n :: r => by show (keysI (trueS r)).map (n :: ·) = _; rw [keysI_true r]; rfl
theorem uniq_id : ∀ {ms acc : List Int}, (acc ++ ms).Nodup → uniq acc ms = acc ++ ms
  | [], acc, _ => by simp [uniq]
  | m :: r, acc, h => by
    have hm : m ∉ acc := fun z => (List.nodup_append.mp h).2.2 m z m List.mem_cons_self rfl
    rw [uniq, if_neg hm, uniq_id (by simpa using h)]; simp
end DL

set_option Elab.async false
set_option linter.all false
namespace DL
open PySem PySem.Spec L2
theorem lk1 {o : Option MO} {od : Obj} {kvs : List (Key × V)} {ks : KS} {k : Obj → List (Key × V) → KS → Prop} (h : o = some (.lok od kvs ks)) (hk : k od kvs ks) : ∃ a b c, o = some (.lok a b c) ∧ k a b c := ⟨od, kvs, ks, h, hk⟩
end DL
namespace DL
open PySem PySem.Spec L2
open Evl (Ex)
/-! ### a, b, .. = x, y, .. by way of a tuple (a name is a cell) -/
section
variable {X : Cx} {pos pt pt2 : Pos} {es ts : List Expr} {kt k2 n : Nat} {wa : WA} {ws : WGs}
abbrev wParT (n : Nat) (wa : WA) (ws : WGs) : WS := fun P dl M => wa dl M fun rs M1 => rs.length = n ∧ ws rs dl M1 P.nx
theorem pds_parT (hc : X.calm = true) (ha : PDA X es wa) (hg : PDGs X ts ws) (hn : (assignEach ts X.env).length = n := by rfl) (hst : (assignEach ts X.env).findIdx? (·.1) = none := by rfl) (hz : n ≤ sizeLine := by decide)
    (hs : swapsWithSole [.Tuple ts kt pt] (.Tuple es k2 pt2) pos.line X.env = pure false := by rfl) (hw : swappedStores [.Tuple ts kt pt] (.Tuple es k2 pt2) X.env = pure none := by rfl)
    (h1 : (assignEach [.Tuple ts kt pt] X.env).map (·.2) = [assign (.Tuple ts kt pt) X.env] := by rfl) : PDS X (.Assign [.Tuple ts kt pt] (.Tuple es k2 pt2) pos) (wParT n wa ws) :=
  ps_imp (ps_asg (pe_tupF ha) (pg_tup hc hg hn hst) hs hw h1) fun D st H ⟨F, dl, M, P, so, at0, hw, po⟩ =>
    tDA_to so at0 hw fun vs F1 H1 rs M1 h1 g1 so1 at1 i1 => by
      obtain ⟨hl, h1⟩ := h1
      have e := i1.length
      refine ⟨by omega, fun p o ho hp => ⟨p, vs, rfl, .inl (.inr ⟨o, upd_same⟩), by omega, ?_⟩⟩
      have at2 : At X.K F1 M1 (upd H1 p (.frz o (.tup vs))) := at1.hid (at1.freeF hp) (at1.freeM hp)
      have g2 : Go X.K F1 M1 H1 F1 M1 (upd H1 p (.frz o (.tup vs))) := ⟨Ex.refl _, at2, fun a o z1 z2 z3 => ⟨by rw [upd_ne (ne_of_none z1 hp)]; exact z1, z2, z3⟩⟩
      exact ⟨F1, dl, M1, rs, _, so1, at2, i1, h1, po.nx.mono (g1.trans g2)⟩
end
end DL

set_option Elab.async false
set_option linter.all false
set_option maxRecDepth 100000
set_option maxHeartbeats 4000000
/-! ED: d.pop(k, x), xs.index(y), xs.insert(i, y), stars in displays, raise (never met), for over d.items(). -/
namespace DL
open PySem PySem.Spec L2
open Evl (Ex)
def dropS (ks : KS) (k : Key) : KS := ks.filter fun kv => decide (kv.1 ≠ k)
theorem dropS_at {K : PySem.W.Frag} {F : Hp} {k : Key} : ∀ {ks : KS} {kvs : List (Key × V)}, All2 (KIs K F) ks kvs → All2 (KIs K F) (dropS ks k) (dropK kvs k)
  | _, _, .nil => .nil
  | a :: as, b :: bs, .cons h t => by
    have ih := dropS_at (k := k) t
    have e : a.1 = b.1 := h.1
    unfold dropS dropK at ih ⊢
    rw [List.filter_cons, List.filter_cons, e]
    split
    · exact .cons h ih
    · exact ih
section
variable {X : Cx} {a b c o e f : Expr} {wa wb wc wo we wx : WE} {pos apos cpos : Pos}
/-! ### d.pop(k, x) -/
abbrev wDPop2 (wo we wx : WE) : WE := fun dl M R => wo dl M fun p M1 => match p with
  | .v (.ref a) => (∃ ks, M1 a = some (.dic ks)) ∧ we dl M1 fun q M2 => wx dl M2 fun z M3 => ∃ ks k r, M3 a = some (.dic ks) ∧ keyS q = some k ∧ some ((valS ks k).getD z) = some r ∧ R r (upM M3 a (.dic (dropS ks k)))
  | _ => False
theorem dropS_none {ks : KS} {k : Key} (h : valS ks k = none) : dropS ks k = ks := by
  unfold dropS
  refine List.filter_eq_self.mpr fun kv hm => ?_
  refine decide_eq_true fun e => ?_
  unfold valS at h
  rw [Option.map_eq_none_iff, List.find?_eq_none] at h
  exact h kv hm (decide_eq_true e)
theorem pd_dpop2 (ho : PD X o wo) (he : PD X e we) (hf : PD X f wx) (hbase : attributeBase o "pop" X.env (eval o X.env) = eval o X.env := by rfl)
    (few : ((backTo cpos (starEach [e, f] X.env)).all (fun x => !x.1) && (backToKw cpos (keywordEach [] X.env)).all (fun x => x.1.isSome) && decide (([e, f] : List Expr).length + ([] : List Keyword).length + (if ([] : List Keyword).isEmpty then 0 else 1) < 30)) = true := by rfl)
    (line : (apos.endLine == cpos.line) = true := by rfl) (trees : backTo cpos (starEach [e, f] X.env) = [(false, eval e X.env), (false, eval f X.env)] := by rfl) : PD X (.Call (.Attribute o "pop" apos) [e, f] [] cpos) (wDPop2 wo we wx) := by
  refine pe_imp (pe_dpop2 ho he hf ⟨hbase, few, line, trees⟩) fun st H Q ⟨F, dl, M, R, so, at0, hw, po⟩ => ?_
  refine tD_to so at0 hw fun x F1 H1 p M1 h1 g1 so1 at1 i1 => ?_
  split at h1
  · rename_i ad
    obtain ⟨⟨ks, m⟩, h1⟩ := h1
    have ex : x = .ref ad := i1
    subst ex
    obtain ⟨_, kvs, q1, _⟩ := at1.mem ad _ m
    refine ⟨ad, rfl, .inl ⟨kvs, .inl q1⟩, ?_⟩
    refine tD_to so1 at1 h1 fun y F2 H2 q M2 h2 g2 so2 at2 i2 => ?_
    refine tD_to so2 at2 h2 fun z F3 H3 r M3 h3 g3 so3 at3 i3 => ?_
    obtain ⟨ks, k, r, m, hk, hv, hR⟩ := h3
    obtain ⟨_, kvs, q1, q2⟩ := at3.mem ad _ m
    obtain ⟨z1, z2⟩ := valS_at (k := k) q2
    refine ⟨kvs, k, q1, keyS_at (is_mono g3.ex i2) hk, fun v hvv => ?_, fun hvn => ?_⟩
    · cases hv
      cases ev : valS ks k with
      | none => rw [z2 ev] at hvv; cases hvv
      | some r =>
        rw [ev] at hR
        obtain ⟨v', e1, e2⟩ := z1 r ev
        rw [e1] at hvv
        cases hvv
        exact po _ F3 _ _ _ hR (((g1.trans g2).trans g3).trans (Go.put at3 m ⟨_, upd_same, dropS_at q2⟩)) e2
    · cases hv
      cases ev : valS ks k with
      | none =>
        rw [ev, dropS_none ev, upM_self m] at hR
        exact po _ F3 _ _ _ hR ((g1.trans g2).trans g3) i3
      | some r => obtain ⟨v', e1, e2⟩ := z1 r ev; rw [e1] at hvn; cases hvn
  · exact h1.elim
/-! ### xs.index(y), numbers; xs.insert(i, y) -/
def ixOf (ns : List Int) (n : Int) : Option Nat := ns.findIdx? fun m => decide (m = n)
abbrev gIndex : Sl → List Sl → Mem → RK → Prop := fun r rs M R => match rs with
  | [.d (.int n)] => ∃ ss ns j, lsOf M r = some ss ∧ intsOf ss = some ns ∧ ixOf ns n = some j ∧ R (.i (j : Int)) M
  | _ => False
theorem pd_index (ho : PD X o wo) {wa : WA} (ha : PDA X [e] wa) (hbase : attributeBase o "index" X.env (eval o X.env) = eval o X.env := by rfl)
    (hfew : ((backTo cpos (starEach [e] X.env)).all (fun x => !x.1) && (backToKw cpos (keywordEach [] X.env)).all (fun x => x.1.isSome) && decide ([e].length + ([] : List Keyword).length + (if ([] : List Keyword).isEmpty then 0 else 1) < 30)) = true := by rfl)
    (hline : (apos.endLine == cpos.line) = true := by rfl) (hs : starEach [e] X.env = (false, eval e X.env) :: starEach [] X.env := by rfl) : PD X (.Call (.Attribute o "index" apos) [e] [] cpos) (wLMeth gIndex wo wa) := by
  refine pe_imp (pe_bm PySem.F.plainAttrs_list PySem.F.slot_list_index PySem.F.type_list_index mt_index ho ha hbase hfew hline hs rfl) fun st H Q h => tBM_of (fun F H M v vs x rs R Q at0 i1 i2 hg po => ?_) h
  unfold gIndex at hg
  split at hg
  · rename_i n
    obtain ⟨ss, ns, j, e1, e2, e3, hR⟩ := hg
    obtain ⟨u, rfl, i3⟩ := isAll1 i2
    obtain ⟨a, us, rfl, q1, q2⟩ := lsOf_at at0 i1 e1
    have e4 := intsOf_at e2 q2
    subst e4
    rw [dq_int i3]
    obtain ⟨hj, h1, h2⟩ := List.findIdx?_eq_some_iff_getElem.mp e3
    refine ⟨a, _, _, j, .int ns[j], rfl, rfl, SqL.of q1, rfl, ?_, ?_, ?_, fun m z hm hz => ?_, po _ F H _ M hR (Go.refl at0) (.int _)⟩
    · rw [List.all_map]; exact List.all_eq_true.mpr fun _ _ => rfl
    · rw [List.getElem?_map, List.getElem?_eq_getElem hj]; rfl
    · show (ns[j] == n) = true
      have := of_decide_eq_true h1
      simp [this]
    · rw [List.getElem?_map] at hz
      obtain ⟨y, hy, rfl⟩ := Option.map_eq_some_iff.mp hz
      obtain ⟨hl, rfl⟩ := List.getElem?_eq_some_iff.mp hy
      have := h2 m hm
      show (ns[m] == n) = false
      simpa using this
  · exact hg.elim
abbrev gInsert : Sl → List Sl → Mem → RK → Prop := fun r rs M R => match r, rs with
  | .v (.ref p), [.d (.int i), x] => ∃ ss, M p = some (.lst ss) ∧ ss.length < sizeLine ∧ 0 ≤ i ∧ i < 1073741824 ∧ R .n (upM M p (.lst (ss.take i.toNat ++ [x] ++ ss.drop i.toNat)))
  | _, _ => False
theorem pd_insert (ho : PD X o wo) {wa : WA} (ha : PDA X [e, f] wa) (hbase : attributeBase o "insert" X.env (eval o X.env) = eval o X.env := by rfl)
    (hfew : ((backTo cpos (starEach [e, f] X.env)).all (fun x => !x.1) && (backToKw cpos (keywordEach [] X.env)).all (fun x => x.1.isSome) && decide ([e, f].length + ([] : List Keyword).length + (if ([] : List Keyword).isEmpty then 0 else 1) < 30)) = true := by rfl)
    (hline : (apos.endLine == cpos.line) = true := by rfl) (hs : starEach [e, f] X.env = (false, eval e X.env) :: starEach [f] X.env := by rfl) (hp : (backTo cpos (starEach [f] X.env)).any (·.1) = false := by rfl) : PD X (.Call (.Attribute o "insert" apos) [e, f] [] cpos) (wLMeth gInsert wo wa) := by
  refine pe_imp (pe_bm PySem.F.plainAttrs_list PySem.F.slot_list_insert PySem.F.type_list_insert mt_insert ho ha hbase hfew hline hs hp) fun st H Q h => tBM_of (fun F H M v vs x rs R Q at0 i1 i2 hg po => ?_) h
  unfold gInsert at hg
  split at hg
  · rename_i p i y
    obtain ⟨ss, m, hz, h0, h1, hR⟩ := hg
    obtain ⟨u, w, rfl, i3, i4⟩ := isAll2 i2
    have i5 : v = .ref p := i1
    subst i5
    obtain ⟨f, us, q1, q2⟩ := at0.mem p _ m
    rw [dq_int i3]
    exact ⟨p, us, i, w, rfl, rfl, q1, by rw [← q2.length]; exact hz, h0, by omega, po _ F _ _ _ hR (Go.put at0 m ⟨_, upd_same, ((q2.take _).append (.cons i4 .nil)).append (q2.drop _)⟩) .non⟩
  · exact hg.elim
/-! ### *e in a display -/
abbrev wStar (wa : WE) (wr : WA) : WA := fun dl M R => wa dl M fun r M1 => ∃ ss ds, sqOf M1 r = some ss ∧ datOf ss = some ds ∧ wr dl M1 fun rs M2 => R (ds.map Sl.d ++ rs) M2
theorem pda_star {es : List Expr} {wr : WA} {p : Pos} (ha : PD X e we) (hr : PDA X es wr) (hs : starEach (.Starred e p :: es) X.env = (true, eval e X.env) :: starEach es X.env := by rfl) : PDA X (.Starred e p :: es) (wStar we wr) := by
  refine pa_imp (StX.pa_star ha hr hs) fun st H Q ⟨F, dl, M, R, so, at0, hw, po⟩ => ?_
  refine tD_to so at0 hw fun x F1 H1 r M1 h1 g1 so1 at1 i1 => ?_
  obtain ⟨ss, ds, e1, e2, h1⟩ := h1
  obtain ⟨a, vs, rfl, q1, q2⟩ := sqOf_at at1 i1 e1
  refine ⟨a, vs, rfl, q1.symm, ?_⟩
  refine tDA_to so1 at1 h1 fun us F2 H2 rs M2 h2 g2 so2 at2 i2 => ?_
  refine po _ F2 H2 _ M2 h2 (g1.trans g2) ?_
  rw [datOf_eq e2] at q2
  exact (isAll_mono g2.ex q2).append i2
/-! ### raise: not met -/
theorem pds_raise {ex ca : Option Expr} : PDS X (.Raise ex ca pos) (fun _ _ _ => False) := ⟨fun pins s σ H D I ⟨F, dl, M, P, so, at0, hw, po⟩ => hw.elim⟩
end
/-! ### x += n, x -= n, numbers -/
section
variable {X : Cx} {e : Expr} {we : WE} {pos pos' : Pos}
abbrev wAug (i : Nat) (f : Int → Int → Int) (we : WE) : WS := fun P dl M => ∃ r, dl[i]? = some (some r) ∧ match r with
  | .d (.int a) => we dl M fun q M1 => match q with
    | .d (.int b) => P.nx (dl.set i (some (.i (f a b)))) M1
    | _ => False
  | _ => False
theorem pds_augI (i : Nat) {x : Str} {op : Operator} {ti : TIp} {f : Int → Int → Int} (hN : X.N.Nodup) (he : PD X e we) (ho : PIp X op ti) (hti : ∀ a b H (Q : VK), Q (.int (f a b)) H → ti (.int a) (.int b) H Q) (hi : X.N[i]? = some x := by rfl) (hx : Loc X.env.scope x := by first | exact .inl rfl | exact .inr rfl)
    (hf : X.fn x = true ∨ X.env.scope.names.lookup x = some .local := by first | exact .inl rfl | exact .inr rfl | assumption) : PDS X (.AugAssign (.Name x pos') op e pos) (wAug i f we) :=
  ps_imp (ps_aug hN hi hx he ho hf) fun D st H ⟨F, dl, M, P, so, at0, hw, po⟩ => by
    obtain ⟨r, e1, hw⟩ := hw
    obtain ⟨u, e2, i2⟩ := sok_get so e1
    split at hw
    · rename_i a
      rw [dq_int i2] at e2
      refine ⟨_, e2, ?_⟩
      refine tD_to so at0 hw fun v F1 H1 q M1 h1 g1 so1 at1 i1 => ?_
      split at h1
      · rename_i b
        rw [dq_int i1]
        exact hti _ _ _ _ (po.nx _ F1 H1 _ M1 h1 g1 (sok_set so1 (.int _)))
      · exact h1.elim
    · exact hw.elim
end
/-! ### a, b, .. = a list -/
section
variable {X : Cx} {pos : Pos}
abbrev gLst' (n : Nat) (ws : WGs) : WG := fun r dl M R => ∃ ss, lsOf M r = some ss ∧ ss.length = n ∧ ws ss dl M R
theorem pdg_lst {es : List Expr} {k n : Nat} {ws : WGs} (hc : X.calm = true) (h : PDGs X es ws) (hn : (assignEach es X.env).length = n := by rfl) (hst : (assignEach es X.env).findIdx? (·.1) = none := by rfl) : PDG X (.Tuple es k pos) (gLst' n ws) :=
  pg_imp (pg_lst hc h hn hst) fun v st H Q ⟨F, dl, M, r, R, so, at0, i1, hw, po⟩ => by
    obtain ⟨ss, e, hl, hw⟩ := hw
    obtain ⟨a, vs, rfl, h1, h2⟩ := lsOf_at at0 i1 e
    exact ⟨a, vs, rfl, SqL.of h1, by rw [← h2.length]; exact hl, F, dl, M, ss, _, so, at0, h2, hw, po⟩
end
/-! ### over the items -/
section
variable {X : Cx} {e : Expr} {we : WE} {apos cpos tpos : Pos} {elts : List Expr} {kk : Nat}
def kDat : Key → PyData
  | .inl i => .int i
  | .inr s => .str s
theorem kDat_is {K : PySem.W.Frag} {F : Hp} : ∀ k : Key, Dq K F (kV k) (kDat k)
  | .inl i => .int i
  | .inr s => .str s
def itmS (ks : KS) (ds : List PyData) : List Sl := (ks.zip ds).map fun p => Sl.w [kDat p.1.1, p.2]
abbrev wiItems (we : WE) : WI := fun dl M T => we dl M fun r M1 => match r with
  | .v (.ref p) => ∃ od kvs ks ds, M1 p = some (.lok od kvs ks) ∧ datOf (ks.map (·.2)) = some ds ∧ T (itmS ks ds) (fun M => M p = some (.lok od kvs ks)) M1
  | _ => False
theorem wk_items {K : PySem.W.Frag} {F0 : Hp} {p : Addr} {od : Obj} {kvs : List (Key × V)} {ks : KS} {ds : List PyData} (hd : datOf (ks.map (·.2)) = some ds) : Wk K F0 (fun M => M p = some (.lok od kvs ks)) (Iti p od kvs) (itmS ks ds) := by
  have e0 := datOf_eq hd
  have hl : ds.length = ks.length := by have := congrArg List.length e0; simpa using this.symm
  have hn : (itmS ks ds).length = ks.length := by unfold itmS; rw [List.length_map, List.length_zip, hl, Nat.min_self]
  refine ⟨fun F M H i e at0 c hi => ?_, fun F M H i x H' r e at0 c y hr => ?_, fun F M H e at0 c => ?_⟩
  · obtain ⟨_, h1, h2⟩ := at0.mem p _ c
    rw [hn] at hi
    exact ⟨h1, by rw [← h2.length]; exact hi⟩
  · obtain ⟨_, h1, h2⟩ := at0.mem p _ c
    obtain ⟨Tp, k, v, hk, rfl, hT, rfl⟩ := y
    unfold itmS at hr
    rw [List.getElem?_map] at hr
    obtain ⟨q, hq, rfl⟩ := Option.map_eq_some_iff.mp hr
    rw [List.getElem?_zip_eq_some] at hq
    obtain ⟨kv, h3, h4⟩ := h2.get hq.1
    rw [hk] at h3
    cases h3
    have g := Go.laid at0 (o := .tup [kV k, v]) hT
    refine ⟨_, g, _, _, rfl, .inl (.inl upd_same), ?_⟩
    have e9 : q.1.1 = k := h4.1
    have h5 : q.1.2 = Sl.d q.2 := by
      have := congrArg (·[i]?) e0
      simp only [List.getElem?_map, hq.1, hq.2, Option.map_some] at this
      exact Option.some.inj this
    have h6 := h4.2
    rw [h5] at h6
    rw [e9]
    exact .cons (kDat_is _) (.cons (dq_mono g.ex h6) .nil)
  · obtain ⟨_, h1, h2⟩ := at0.mem p _ c
    exact ⟨h1, by rw [hn, h2.length]; exact Nat.le_refl _⟩
theorem pdi_items (he : PD X e we) (hbase : attributeBase e "items" X.env (eval e X.env) = eval e X.env := by rfl) (hline : (apos.endLine == cpos.line) = true := by rfl) : PDI X (.Tuple elts kk tpos) (.Call (.Attribute e "items" apos) [] [] cpos) (wiItems we) :=
  pi_imp (pi_items he hbase hline) fun st H Q ⟨F, dl, M, T, so, at0, hw, po⟩ => tD_to so at0 hw fun x F1 H1 r M1 h1 g1 so1 at1 i1 => by
    split at h1
    · rename_i p
      obtain ⟨od, kvs, ks, ds, m, hd, hT⟩ := h1
      have ex : x = .ref p := i1
      obtain ⟨_, h2, h3⟩ := at1.mem p _ m
      exact ⟨p, od, kvs, ex, h2, po F1 M1 H1 _ _ _ hT g1 (wk_items hd)⟩
    · exact h1.elim
end
end DL

set_option Elab.async false
set_option linter.all false
set_option maxRecDepth 100000
set_option maxHeartbeats 4000000
/-! EE: for a, b in zip(a text, a tuple). -/
namespace DL
open PySem PySem.Spec PyProof.Rows L2
/-- the text's signs and the tuple's items, in new pairs -/
def ItzS (K : PySem.W.Frag) (x : Str) (b : Addr) : It :=
  ⟨fun i H => i < x.cps.size ∧ ∃ (ys : List V) (y : V), SqT K H b ys ∧ ys[i]? = some y,
    fun i H v H' => ∃ T c y, v = .ref T ∧ H T = none ∧ x.cps[i]? = some c ∧ H' = upd H T (.tup [.str ⟨#[c]⟩, y]) ∧ ∀ ys, SqT K H b ys → ys[i]? = some y,
    fun i H => ∃ ys : List V, SqT K H b ys ∧ i = min x.cps.size ys.length⟩
theorem turn_zipS {P : Program} {w : World} {K : PySem.W.Frag} {elts : List Expr} {kk : Nat} {tpos : Pos} {x : Str} {t : Tok} {b z TI TO i1 i2 : Addr} (hne : b ≠ i2) (D : ZipSep2 z TI TO i1 i2 [i1] [i2, b]) :
    Turn P w K (.Tuple elts kk tpos) (ItzS K x b) [z, TI, TO, i1, i2] z (fun i h => IsZip h z TI TO .none ∧ IsTupOf2 h TI (.ref i1) (.ref i2) ∧ (∃ x y, IsTupOf2 h TO x y) ∧ h.IsStrIter i1 (strIterType x) x t i ∧ h.IsTupleIter i2 b i) where
  mem := by simp
  obj := fun i h st c hc => by
    obtain ⟨hz, hTI, ⟨x, y, hTO⟩, ⟨o1, e1, _, d1⟩, ⟨o2, e2, _, d2⟩⟩ := st
    have e' : c = z ∨ c = TI ∨ c = TO ∨ c = i1 ∨ c = i2 := by simpa using hc
    rcases e' with q | q | q | q | q
    · rw [q]; exact ⟨_, hz, fun v q => nomatch q⟩
    · rw [q]; exact ⟨_, hTI, fun v q => nomatch q⟩
    · rw [q]; exact ⟨_, hTO, fun v q => nomatch q⟩
    · rw [q]; exact ⟨o1, e1, fun v q => by rw [d1] at q; cases q⟩
    · rw [q]; exact ⟨o2, e2, fun v q => by rw [d2] at q; cases q⟩
  keep := fun i h h' st k => by
    obtain ⟨hz, hTI, ⟨x, y, hTO⟩, ⟨o1, e1, r1⟩, h2⟩ := st
    exact ⟨k z (by simp) _ hz, k TI (by simp) _ hTI, ⟨x, y, k TO (by simp) _ hTO⟩, ⟨o1, k i1 (by simp) _ e1, r1⟩, h2.at fun o q => k i2 (by simp) o q⟩
  item := by
    intro X hP hw hK hc i pins s σ H E I hf st hg
    subst hP hw hK
    obtain ⟨hz, hTI, ⟨x0, y0, hTO⟩, h1, h2⟩ := st
    obtain ⟨hi, ys, y, hqy, hy⟩ := hg
    obtain ⟨its2, rv2, p2, _⟩ := I.tuple hqy
    obtain ⟨u2, hu2, ru2⟩ := rv2.get hy
    have hzl : z < s.heap.objs.size := Heap.lt_size hz
    have hh : X.A.in1.handled = none := by have := I.ok.hd hc; simp [this]
    have D1 := Draws.text (prog := X.prog) (w := X.w) hh i1 x t
    have D2 := Draws.tuple (prog := X.prog) (w := X.w) hh i2 b hne its2.toArray
    have lt2 : i < its2.toArray.size := by
      rw [List.size_toArray]
      exact (List.getElem?_eq_some_iff.mp hu2).1
    refine wpAny_pyNext_zipD2_item D D1 D2 hz hTI hTO h1 ⟨h2, p2⟩ hi lt2 fun v1 v2 h' tk y1 y2 z' TO' j1 j2 hT hsz hk => ?_
    obtain ⟨c, u, hc1, rfl⟩ := y1
    have e2 : v2 = u2 := by
      have q : its2[i]? = some v2 := by simpa using y2
      rw [hu2] at q
      exact (Option.some.inj q).symm
    subst e2
    refine ⟨_, rfl, wpAny_letOwnedTupleGo_zip (s := { s with heap := h', toks := tk }) z' fun h'' z'' sb => ?_⟩
    have hT2 : h''.get? s.heap.objs.size = some { cls := .type "tuple", data := .seq #[.str ⟨#[c]⟩ u, v2] } := (sb.2 _ (Nat.ne_of_gt hzl)).trans hT
    have new : ObjOk X.prog X.w (upd H s.heap.objs.size (.tup [.str ⟨#[c]⟩, y])) h'' s.heap.objs.size (.tup [.str ⟨#[c]⟩, y]) :=
      ⟨by show 2 ≤ sizeLine; decide, [.str ⟨#[c]⟩ u, v2], .cons ⟨u, rfl⟩ (.cons ru2 .nil), ⟨_, hT2, rfl, _, rfl⟩⟩
    have I1 : Inv X pins σ (upd H s.heap.objs.size (.tup [.str ⟨#[c]⟩, y])) { s with heap := h'', toks := tk } :=
      I.turnedNew (t' := tk) (ch := [z, TI, TO, i1, i2]) (fun c o hb q => (sb.2 c (fun q' => hb (by simp [q']))).trans (hk c o (fun q' => hb (by simp [q'])) (fun q' => hb (by simp [q'])) (fun q' => hb (by simp [q'])) (fun q' => hb (by simp [q'])) q)) hf (Nat.le_refl _) new
    obtain ⟨o1, e1, r1⟩ := j1
    refine ⟨.ref s.heap.objs.size, _, I1, rfl, ⟨_, c, y, rfl, I.hok.fresh (Nat.le_refl _), hc1, rfl, fun l hl => by rw [I.tuple_inj hl hqy]; exact hy⟩, ⟨z'', ?_, ⟨.str ⟨#[c]⟩ u, v2, ?_⟩, ⟨o1, ?_, r1⟩, ?_⟩, fun c hcm => ?_⟩
    · exact (sb.2 _ D.TIz).trans (hk _ _ D.TIz D.TITO D.TIi1 D.TIi2 hTI)
    · exact (sb.2 _ D.TOz).trans TO'
    · exact (sb.2 _ D.zi1.symm).trans e1
    · exact j2.1.at fun o q => (sb.2 _ D.zi2.symm).trans q
    · have hlt : c < s.heap.objs.size := by
        have e' : c = z ∨ c = TI ∨ c = TO ∨ c = i1 ∨ c = i2 := by simpa using hcm
        rcases e' with q | q | q | q | q
        · rw [q]; exact hzl
        · rw [q]; exact Heap.lt_size hTI
        · rw [q]; exact Heap.lt_size hTO
        · rw [q]; obtain ⟨_, e1, _⟩ := h1; exact Heap.lt_size e1
        · rw [q]; obtain ⟨_, e2, _⟩ := h2; exact Heap.lt_size e2
      rw [upd_ne (Nat.ne_of_lt hlt)]
      exact (hf c hcm).1
  done := by
    intro X hP hw hK hc i pins s σ H E I hf st hg
    subst hP hw hK
    obtain ⟨hz, hTI, ⟨x0, y0, hTO⟩, h1, h2⟩ := st
    obtain ⟨ys, hqy, hend⟩ := hg
    obtain ⟨its2, rv2, p2, _⟩ := I.tuple hqy
    have l2 := rv2.length
    have hh : X.A.in1.handled = none := by have := I.ok.hd hc; simp [this]
    have D1 := Draws.text (prog := X.prog) (w := X.w) hh i1 x t
    have D2 := Draws.tuple (prog := X.prog) (w := X.w) hh i2 b hne its2.toArray
    have a1 : i ≤ x.cps.size := by omega
    have a0 : its2.toArray.size = its2.length := List.size_toArray ..
    have a2 : i ≤ its2.toArray.size := by omega
    have a3 : i = x.cps.size ∨ i = its2.toArray.size := by omega
    exact wpAny_pyNext_zipD2_end D D1 D2 hz hTI hTO h1 ⟨h2, p2⟩ a1 a2 a3 fun h' tk hk => ⟨rfl, I.turnedL (t' := tk) (ch := [z, TI, TO, i1, i2]) (fun c o hb q =>
      hk c o (fun q' => hb (by simp [q'])) (fun q' => hb (by simp [q'])) (fun q' => hb (by simp [q'])) (fun q' => hb (by simp [q'])) q) hf⟩
  self := fun A i s Q E st h => wpAny_pyIter_zip st.1 h
abbrev zS1 (h : Heap) (x : Str) (t : Tok) : Heap := h.push { cls := .type (strIterType x), data := .fields #[.str x t, .int 0 0] }
abbrev zS2 (h : Heap) (x : Str) (t : Tok) (l2 : Addr) : Heap := (zS1 h x t).push { cls := .type "tuple_iterator", data := .fields #[.ref l2, .int 0 0] }
abbrev zS3 (h : Heap) (x : Str) (t : Tok) (l2 : Addr) : Heap := (zS2 h x t l2).push { cls := .type "tuple", data := .seq #[.ref h.objs.size, .ref (zS1 h x t).objs.size] }
abbrev zS4 (h : Heap) (x : Str) (t : Tok) (l2 : Addr) : Heap := (zS3 h x t l2).push { cls := .type "tuple", data := .seq #[.none, .none] }
abbrev zS5 (h : Heap) (x : Str) (t : Tok) (l2 : Addr) : Heap := (zS4 h x t l2).push { cls := .type "zip", data := .fields #[.none, .bool false, .bool false, .ref (zS2 h x t l2).objs.size, .ref (zS3 h x t l2).objs.size] }
theorem meets_zipS (x : Str) (t : Tok) (l2 : Addr) (ys : Array Value) :
    Meets (Builtin.«zip.__new__» ⟨[.type "zip", .str x t, .ref l2], []⟩) (fun _ R s => s.heap.IsTuple l2 ys ∧
      R (.ok (.ret (.ref (zS4 s.heap x t l2).objs.size))) { s with heap := zS5 s.heap x t l2 }) :=
  .of_wp fun prog w A R s h => by
    obtain ⟨hp, g, d, tk, os⟩ := s; obtain ⟨hl2, h⟩ := h
    have hsub := sub_zip
    have hL2 : Heap.IsTuple (Shared.heap ⟨hp.push { cls := .type (strIterType x), data := .fields #[.str x t, .int 0 0] }, g, d, tk, os⟩) l2 ys := Heap.IsTuple.push hl2 _
    wp_walk using wpAny_pyIter_strU, wpAny_pyIter_tuple hL2
    exact ⟨_, rfl, h⟩
section
variable {prog : Program} {w : World} {A : Around} {E : Value → Shared → Prop} {s : Shared}
theorem call_zipS {x : Str} {t : Tok} {l2 : Addr} {ys : Array Value} {Q : Value → Shared → Prop} (hl2 : s.heap.IsTuple l2 ys)
    (h : ∀ h', IsZip h' (s.heap.objs.size + 4) (s.heap.objs.size + 2) (s.heap.objs.size + 3) .none → IsTupOf2 h' (s.heap.objs.size + 2) (.ref s.heap.objs.size) (.ref (s.heap.objs.size + 1)) →
      IsTupOf2 h' (s.heap.objs.size + 3) .none .none → h'.IsStrIter s.heap.objs.size (strIterType x) x t 0 → h'.IsTupleIter (s.heap.objs.size + 1) l2 0 → h'.objs.size = s.heap.objs.size + 5 →
      (∀ c o, s.heap.get? c = some o → h'.get? c = some o) → Q (.ref (s.heap.objs.size + 4)) { s with heap := h' }) :
    wpAny (model prog w) A (call (.type "zip") [.str x t, .ref l2]) Q E s := by
  refine callType_new F.called_zip (by decide) (F.typeCall_zip_2 _ _) (F.newCall_zip_2 _ _) (fun obj => F.args_object_init_3 obj _ _) F.entry_zip_new
    (meets_zipS x t l2 ys) ⟨hl2, ?_⟩
  have z1 : (zS1 s.heap x t).objs.size = s.heap.objs.size + 1 := Heap.size_push ..
  have z2 : (zS2 s.heap x t l2).objs.size = s.heap.objs.size + 2 := by rw [Heap.size_push, z1]
  have z3 : (zS3 s.heap x t l2).objs.size = s.heap.objs.size + 3 := by rw [Heap.size_push, z2]
  have z4 : (zS4 s.heap x t l2).objs.size = s.heap.objs.size + 4 := by rw [Heap.size_push, z3]
  have z5 : (zS5 s.heap x t l2).objs.size = s.heap.objs.size + 5 := by rw [Heap.size_push, z4]
  have g5 : (zS5 s.heap x t l2).get? (zS4 s.heap x t l2).objs.size = some _ := Heap.get?_push_size _ rfl
  have g4 : (zS5 s.heap x t l2).get? (zS3 s.heap x t l2).objs.size = some _ := Heap.get?_push_of_some _ (Heap.get?_push_size _ rfl)
  have g3 : (zS5 s.heap x t l2).get? (zS2 s.heap x t l2).objs.size = some _ := Heap.get?_push_of_some _ (Heap.get?_push_of_some _ (Heap.get?_push_size _ rfl))
  have g2 : (zS5 s.heap x t l2).get? (zS1 s.heap x t).objs.size = some _ := Heap.get?_push_of_some _ (Heap.get?_push_of_some _ (Heap.get?_push_of_some _ (Heap.get?_push_size _ rfl)))
  have g1 : (zS5 s.heap x t l2).get? s.heap.objs.size = some _ := Heap.get?_push_of_some _ (Heap.get?_push_of_some _ (Heap.get?_push_of_some _ (Heap.get?_push_of_some _ (Heap.get?_push_size _ rfl))))
  show _ ∧ _
  rw [z2, z3, z4] at g5
  rw [z1, z2] at g3
  rw [z3] at g4
  rw [z1] at g2
  rw [z4]
  exact ⟨⟨_, g5, rfl⟩, h _ g5 g3 g4 ⟨_, g1, rfl, rfl⟩ ⟨_, g2, rfl, rfl⟩ z5 fun c o x =>
    Heap.get?_push_of_some _ (Heap.get?_push_of_some _ (Heap.get?_push_of_some _ (Heap.get?_push_of_some _ (Heap.get?_push_of_some _ x))))⟩
end
theorem nl1 {n k b : Nat} (h : b < n) (e : n + k = b) : False := by omega
theorem nl2 {n k b : Nat} (h : b < n) (e : b = n + k) : False := by omega
section
variable {X : Cx} {e e2 : Expr} {wa : WA} {p pos tpos : Pos} {elts : List Expr} {kk : Nat}
/-- one sign -/
def sgn (x : Str) : List PyData := x.cps.toList.map fun c => .str ⟨#[c]⟩
theorem sgn_get {x : Str} {i : Nat} {d : PyData} (h : (sgn x)[i]? = some d) : ∃ c, x.cps[i]? = some c ∧ d = .str ⟨#[c]⟩ := by
  unfold sgn at h
  rw [List.getElem?_map] at h
  obtain ⟨c, h1, rfl⟩ := Option.map_eq_some_iff.mp h
  exact ⟨c, by rw [← Array.getElem?_toList]; exact h1, rfl⟩
theorem sgn_len (x : Str) : (sgn x).length = x.cps.size := by unfold sgn; rw [List.length_map, Array.length_toList]
abbrev wiZipS (wa : WA) : WI := fun dl M T => wa dl M fun rs M1 => match rs with
  | [.d (.str x), .d (.tuple ys)] => T (zipS (sgn x) ys) C0 M1
  | _ => False
theorem pdi_zipS (hg : Gl X "zip") (hm : X.mg "zip" = none) (ha : PDA X [e, e2] wa) (hs : starEach [e, e2] X.env = (false, eval e X.env) :: starEach [e2] X.env := by rfl) (hpl : (backTo pos (starEach [e2] X.env)).any (·.1) = false := by rfl) :
    PDI X (.Tuple elts kk tpos) (.Call (.Name "zip" p) [e, e2] [] pos) (wiZipS wa) := by
  refine ⟨fun pins s st H R I h => ?_⟩
  obtain ⟨F, dl, M, T, so, at0, hw, po⟩ := h
  refine Call_ (ld_blt I hg hm PyProof.Rows.boot_zip (PyProof.Rows.callWith_type1 (thn (PA.run ha pos pins s st H (fun vs H1 => ∃ x b ys, vs = [.str x, .ref b] ∧ SqT X.K H1 b ys ∧ R (ItzS X.K x b) H1) I (tDA_to so at0 hw fun vs F1 H1 rs M1 h1 g1 so1 at1 i1 => ?_)) fun us s1 ⟨vs, H1, I1, r1, q1⟩ => ?_) hs hpl))
  · split at h1
    · rename_i x ys
      obtain ⟨v, u, rfl, i2, i3⟩ := isAll2 i1
      cases dq_str i2
      obtain ⟨b, ws, rfl, q3, q4⟩ := sqT_at at1 i3
      have lb : ∀ F M H, Evl.Ex F1 F → At X.K F M H → ∃ us, SqT X.K H b us ∧ DqAll X.K F us ys := fun F M H e at' => by
        obtain ⟨c, zs, e2, z1, z2⟩ := sqT_at at' (dq_mono e i3)
        cases e2
        exact ⟨zs, z1, z2⟩
      refine ⟨x, b, ws, rfl, q3, po F1 M1 H1 _ _ _ h1 g1 ⟨fun F M H i e at0 c hi => ?_, fun F M H i v H' r e at0 c y hr => ?_, fun F M H e at0 c => ?_⟩⟩
      · rw [zipS_len, sgn_len] at hi
        obtain ⟨ws, s2, q4⟩ := lb F M H e at0
        obtain ⟨v2, z2, _⟩ := dqAll_get (i := i) q4 (List.getElem?_eq_getElem (by omega))
        exact ⟨by omega, ws, v2, s2, z2⟩
      · obtain ⟨ws, s2, q4⟩ := lb F M H e at0
        obtain ⟨Tp, c1, x2, rfl, hT, hc, rfl, hy⟩ := y
        obtain ⟨d1, d2, e1, e2, rfl⟩ := zipS_get hr
        obtain ⟨c2, hc2, rfl⟩ := sgn_get e1
        obtain ⟨v2, z2, w2⟩ := dqAll_get (i := i) q4 e2
        have hx2 := hy ws s2
        rw [z2] at hx2
        obtain rfl : v2 = x2 := Option.some.inj hx2
        rw [hc] at hc2
        obtain rfl : c1 = c2 := Option.some.inj hc2
        have g := Go.laid at0 (o := .tup [.str ⟨#[c1]⟩, v2]) hT
        exact ⟨_, g, _, _, rfl, .inl (.inl upd_same), .cons (.str _) (.cons (dq_mono g.ex w2) .nil)⟩
      · obtain ⟨ws, s2, q4⟩ := lb F M H e at0
        rw [zipS_len, sgn_len]
        exact ⟨ws, s2, by rw [dqAll_len q4]⟩
    · exact h1.elim
  · obtain ⟨x, b, ys, ex, hqy, q⟩ := q1
    subst ex
    cases r1 with
    | cons r rr =>
      cases rr with
      | cons r' rr =>
        cases rr
        obtain ⟨t, rfl⟩ := r
        cases r'
        have fresh5 : ∀ c, c ∈ [s1.heap.objs.size + 4, s1.heap.objs.size + 2, s1.heap.objs.size + 3, s1.heap.objs.size, s1.heap.objs.size + 1] → FpOk X pins H1 c := fun c hcm => by
          have e' : c = s1.heap.objs.size + 4 ∨ c = s1.heap.objs.size + 2 ∨ c = s1.heap.objs.size + 3 ∨ c = s1.heap.objs.size ∨ c = s1.heap.objs.size + 1 := by simpa using hcm
          have hle : s1.heap.objs.size ≤ c := by omega
          exact I1.fpOk hle (I1.hok.fresh hle)
        obtain ⟨its2, rv2, p2, _⟩ := I1.tuple hqy
        obtain ⟨o2, ho2, _⟩ := id p2
        have lb : (b : Nat) < s1.heap.objs.size := Heap.lt_size ho2
        refine call_zipS (show s1.heap.IsTuple b its2.toArray from p2) fun h' hz hTI hTO h1 h2 hsz hk => wpAny_pyIter_zip hz ?_
        have I2 : Inv X pins st H1 { s1 with heap := h' } := I1.kept (t' := s1.toks) hk
        refine ⟨s1.heap.objs.size + 4, [s1.heap.objs.size + 4, s1.heap.objs.size + 2, s1.heap.objs.size + 3, s1.heap.objs.size, s1.heap.objs.size + 1], _, _, H1, rfl, I2, turn_zipS (t := t) (fun ev => ?_) ⟨fun ev => ?_, fun ev => ?_, fun ev => ?_, fun ev => ?_, List.mem_cons_self, fun ev => ?_, fun ev => ?_, fun ev => ?_, List.mem_cons_self, fun ev => ?_, fun ev => ?_, fun ev => ?_, fun ev => ?_⟩, ⟨hz, hTI, ⟨_, _, hTO⟩, h1, h2⟩, fresh5, q⟩
        · exact nl2 (k := 1) lb ev
        all_goals try simp only [List.mem_cons, List.not_mem_nil, or_false] at ev
        all_goals first
          | (have e' : (_ : Nat) = _ := ev; omega)
          | (rcases ev with ev | ev <;> first
             | (have e' : (_ : Nat) = _ := ev; omega)
             | exact nl1 (k := 4) lb ev
             | exact nl1 (k := 3) lb ev
             | exact nl1 (k := 0) lb ev)
end
end DL

set_option Elab.async false
set_option linter.all false
set_option maxRecDepth 100000
set_option maxHeartbeats 4000000
/-! EF: texts: slices, upper, str(n), over a text; in a tuple of texts or of numbers; a written dict of texts; is True; f(); sorted(d) of texts. -/
namespace DL
open PySem PySem.Spec PyProof.Rows L2
open Evl (Ex)
section
variable {X : Cx} {a b e : Expr} {wa wb we : WE} {pos p p2 : Pos}
/-! ### x in (a, b, ..) -/
def strsD : List PyData → Option (List Str)
  | [] => some []
  | .str s :: r => (strsD r).map (s :: ·)
  | _ => none
def intsD : List PyData → Option (List Int)
  | [] => some []
  | .int s :: r => (intsD r).map (s :: ·)
  | _ => none
theorem strsD_at {K : PySem.W.Frag} {F : Hp} : ∀ {ds : List PyData} {ss : List Str} {vs : List V}, strsD ds = some ss → DqAll K F vs ds → vs = ss.map V.str
  | [], _, _, h, i => by cases h; cases i; rfl
  | .str b :: r, bs, vs, h, i => by
    simp only [strsD, Option.map_eq_some_iff] at h
    obtain ⟨rs, h1, rfl⟩ := h
    cases i with
    | cons i1 i2 => rw [dq_str i1, strsD_at h1 i2]; rfl
theorem intsD_at {K : PySem.W.Frag} {F : Hp} : ∀ {ds : List PyData} {ss : List Int} {vs : List V}, intsD ds = some ss → DqAll K F vs ds → vs = ss.map V.int
  | [], _, _, h, i => by cases h; cases i; rfl
  | .int b :: r, bs, vs, h, i => by
    simp only [intsD, Option.map_eq_some_iff] at h
    obtain ⟨rs, h1, rfl⟩ := h
    cases i with
    | cons i1 i2 => rw [dq_int i1, intsD_at h1 i2]; rfl
theorem flat_strs : ∀ ss : List Str, (ss.map V.str).all flatV = true
  | [] => rfl
  | _ :: r => by rw [List.map_cons, List.all_cons, flat_strs r]; rfl
theorem flat_ints : ∀ ss : List Int, (ss.map V.int).all flatV = true
  | [] => rfl
  | _ :: r => by rw [List.map_cons, List.all_cons, flat_ints r]; rfl
theorem inV_strs (x : Str) : ∀ ss : List Str, inV (.str x) (ss.map V.str) = decide (x ∈ ss)
  | [] => rfl
  | y :: r => by
    have ih := inV_strs x r
    unfold inV at ih ⊢
    rw [List.map_cons, List.any_cons, ih]
    have e : eqV (.str y) (.str x) = decide (x = y) := by
      show (y == x) = _
      by_cases h : x = y
      · subst h; simp
      · rw [decide_eq_false h]; exact beq_eq_false_iff_ne.mpr (Ne.symm h)
    rw [e, Bool.eq_iff_iff]; simp
theorem inV_ints (x : Int) : ∀ ss : List Int, inV (.int x) (ss.map V.int) = decide (x ∈ ss)
  | [] => rfl
  | y :: r => by
    have ih := inV_ints x r
    unfold inV at ih ⊢
    rw [List.map_cons, List.any_cons, ih]
    have e : eqV (.int y) (.int x) = decide (x = y) := by
      show (y == x) = _
      by_cases h : x = y
      · subst h; simp
      · rw [decide_eq_false h]; exact beq_eq_false_iff_ne.mpr (Ne.symm h)
    rw [e, Bool.eq_iff_iff]; simp
abbrev gIn : W2 := fun p q M R => match p, q with
  | .d (.str a), .d (.tuple ds) => ∃ ss, strsD ds = some ss ∧ R (.b (decide (a ∈ ss))) M
  | .d (.int a), .d (.tuple ds) => ∃ ss, intsD ds = some ss ∧ R (.b (decide (a ∈ ss))) M
  | _, _ => False
theorem o_in : OpD X (compareOp .In) gIn := opD_of fun F H M x y p q R Q at0 h1 h2 h3 po => by
  unfold gIn at h3
  split at h3
  · obtain ⟨ss, e, hR⟩ := h3
    cases dq_str h1
    obtain ⟨c, vs, rfl, q1, q2⟩ := sqT_at at0 h2
    have e2 := strsD_at e q2
    subst e2
    exact ⟨_, op_in_seq, c, _, rfl, .inr q1, rfl, flat_strs ss, by simp only [Bool.false_eq_true, if_false]; rw [inV_strs]; exact po _ F H _ M hR (Go.refl at0) (.bl _)⟩
  · obtain ⟨ss, e, hR⟩ := h3
    cases dq_int h1
    obtain ⟨c, vs, rfl, q1, q2⟩ := sqT_at at0 h2
    have e2 := intsD_at e q2
    subst e2
    exact ⟨_, op_in_seq, c, _, rfl, .inr q1, rfl, flat_ints ss, by simp only [Bool.false_eq_true, if_false]; rw [inV_ints]; exact po _ F H _ M hR (Go.refl at0) (.bl _)⟩
  · exact h3.elim
/-! ### is True -/
abbrev gIsB : W2 := fun p q M R => match p, q with
  | .d (.bool a), .d (.bool b) => R (.b (decide (a = b))) M
  | _, _ => False
theorem o_isB : OpD X (compareOp .Is) gIsB := opD_of fun F H M x y p q R Q at0 h1 h2 h3 po => by
  unfold gIsB at h3
  split at h3
  · exact ⟨_, op_isBl, _, _, dq_bl h1, dq_bl h2, po _ F H _ M h3 (Go.refl at0) (.bl _)⟩
  · exact h3.elim
/-! ### slices of texts, upper, str(n) -/
abbrev gSlS : Sl → Option Int → Option Int → Mem → RK → Prop := fun r lo hi M R => match r with
  | .d (.str z) => z.length ≤ sizeLine ∧ R (.s (cutS z lo hi)) M
  | _ => False
theorem pd_sliceS {lo hi : Option Expr} {wl wh : WO} (ha : PD X a wa) (hl : PDO X lo wl) (hh : PDO X hi wh) : PD X (.Subscript a (.Slice lo hi none p2) pos) (wSl gSlS wa wl wh) := by
  refine pe_imp (pe_slice sl_str ha hl hh) fun st H Q ⟨F, dl, M, R, so, at0, hw, po⟩ => ?_
  refine tD_to so at0 hw fun x F1 H1 r M1 h1 e1 so1 at1 i1 => ?_
  refine ⟨F1, dl, M1, _, so1, at1, h1, fun l F2 H2 M2 h2 e2 => ?_⟩
  refine ⟨F2, dl, M2, _, sok_mono e2.ex so1, e2.at', h2, fun h F3 H3 M3 h3 e3 => ?_⟩
  have i3 := is_mono (e2.trans e3).ex i1
  unfold gSlS at h3
  split at h3
  · exact ⟨_, dq_str i3, h3.1, po _ F3 H3 _ M3 h3.2 ((e1.trans e2).trans e3) (.str _)⟩
  · exact h3.elim
abbrev wUpper (wa : WE) : WE := fun dl M R => wa dl M fun r M1 => match r with
  | .d (.str z) => z.length ≤ 5592405 ∧ R (.s (Txt.upper z)) M1
  | _ => False
theorem pd_upper {apos : Pos} (ha : PD X a wa) (hbase : attributeBase a "upper" X.env (eval a X.env) = eval a X.env := by rfl) (hline : (apos.endLine == pos.line) = true := by rfl) : PD X (.Call (.Attribute a "upper" apos) [] [] pos) (wUpper wa) := by
  refine pe_imp (pe_upper ha hbase hline) fun st H Q ⟨F, dl, M, R, so, at0, hw, po⟩ => ?_
  refine tD_to so at0 hw fun x F1 H1 r M1 h1 e1 so1 at1 i1 => ?_
  split at h1
  · have e := dq_str i1
    exact ⟨⟨_, e⟩, _, e, rfl, h1.1, po _ F1 H1 _ M1 h1.2 e1 (.str _)⟩
  · exact h1.elim
abbrev gStr : Sl → Mem → RK → Prop := fun r M R => match r with
  | .d (.int i) => i.natAbs.log2 < 1920 ∧ R (.s (toString i)) M
  | _ => False
theorem c_str : CaD X (.type "str") (g1 gStr) := ca1 fun F H M v r R Q at0 i1 h1 po => by
  unfold gStr at h1
  split at h1
  · exact ⟨_, call_str_int, _, by rw [dq_int i1], h1.1, po _ F H _ M h1.2 (Go.refl at0) (.str _)⟩
  · exact h1.elim
/-! ### over a text -/
abbrev wiStr (we : WE) : WI := fun dl M T => we dl M fun r M1 => match r with
  | .d (.str x) => T ((sgn x).map Sl.d) C0 M1
  | _ => False
theorem pdi_str {tg : Expr} (he : PD X e we) : PDI X tg e (wiStr we) :=
  pi_imp (pi_str he) fun st H Q ⟨F, dl, M, T, so, at0, hw, po⟩ =>
    tD_to so at0 hw fun v F1 H1 r M1 h1 g1 so1 at1 i1 => by
      split at h1
      · rename_i x
        refine ⟨x, dq_str i1, po F1 M1 H1 _ _ _ h1 g1 ⟨fun F M H i e at0 c hi => ?_, fun F M H i v H' r e at0 c y hr => ?_, fun F M H e at0 c => ?_⟩⟩
        · rw [List.length_map, sgn_len] at hi; exact hi
        · obtain ⟨rfl, c, hc, rfl⟩ := y
          rw [List.getElem?_map] at hr
          obtain ⟨d, hd, rfl⟩ := Option.map_eq_some_iff.mp hr
          obtain ⟨c2, hc2, rfl⟩ := sgn_get hd
          rw [hc] at hc2
          obtain rfl : c = c2 := Option.some.inj hc2
          exact ⟨F, Go.refl at0, .str _⟩
        · show x.cps.size ≤ _
          rw [List.length_map, sgn_len]; exact Nat.le_refl _
      · exact h1.elim
/-! ### a written dict of texts -/
def GT (K : PySem.W.Frag) (w : World) (mg : Str → Option Value) (x : Str) (kvs : List (Str × Str)) : Prop := ∃ a es n, mg x = some (.ref a) ∧ KDict K w a es n ∧
  ∀ z, (kvs.lookup z = none ∧ PySem.W.nsIn K a z = some none) ∨ ∃ v t, kvs.lookup z = some v ∧ PySem.W.nsIn K a z = some (some (.str v t))
abbrev wNotInK (kvs : List (Str × Str)) (wa : WE) : WE := fun dl M R => wa dl M fun r M1 => match r with
  | .d (.str z) => R (.b (!(kvs.lookup z).isSome)) M1
  | _ => False
theorem pdt_notInK {x : Str} {kvs : List (Str × Str)} (h : GT X.K X.w X.mg x kvs) (hg : Gl X x) (ha : PD X a wa) (hm : behindInMarks .NotIn (.Name x p) = false := by rfl) (hd : (x == ("__debug__" : Str)) = false := by decide) : PDT X (.Compare a [.NotIn] [.Name x p] pos) (wBl (wNotInK kvs wa)) := by
  obtain ⟨d, es, n, hx, D, hz⟩ := h
  refine pt_imp (pt_cmpR (op_notIn_kd D) ha (pe_glob (v := .ref d) hg hx rfl hd) hm) fun st H Q ⟨F, dl, M, R, so, at0, hw, po⟩ => ?_
  refine tD_to so at0 hw fun v F1 H1 r M1 h1 g1 so1 at1 i1 => ?_
  split at h1
  · rename_i z
    rcases hz z with ⟨e1, e2⟩ | ⟨u, t, e1, e2⟩
    · rw [e1] at h1
      exact ⟨z, none, dq_str i1, rfl, e2, true, rfl, po _ F1 H1 M1 h1 g1⟩
    · rw [e1] at h1
      exact ⟨z, _, dq_str i1, rfl, e2, false, rfl, po _ F1 H1 M1 h1 g1⟩
  · exact h1.elim
abbrev wGetK (kvs : List (Str × Str)) (wb : WE) : WE := fun dl M R => wb dl M fun r M1 => match r with
  | .d (.str z) => ∃ v, kvs.lookup z = some v ∧ R (.s v) M1
  | _ => False
theorem pd_getK {x : Str} {kvs : List (Str × Str)} (h : GT X.K X.w X.mg x kvs) (hg : Gl X x) (hb : PD X b wb) (hs : PlainIx b := by exact fun _ _ => rfl) (hd : (x == ("__debug__" : Str)) = false := by decide) : PD X (.Subscript (.Name x p) b pos) (wGetK kvs wb) := by
  obtain ⟨d, es, n, hx, D, hz⟩ := h
  refine pe_imp (pe_ix ix_kdict (pe_glob (v := .ref d) hg hx rfl hd) hb hs) fun st H Q ⟨F, dl, M, R, so, at0, hw, po⟩ => ?_
  refine tD_to so at0 hw fun v F1 H1 r M1 h1 g1 so1 at1 i1 => ?_
  split at h1
  · rename_i z
    obtain ⟨u, e, hR⟩ := h1
    rcases hz z with ⟨e1, e2⟩ | ⟨u', t, e1, e2⟩
    · rw [e] at e1; cases e1
    · rw [e] at e1
      cases e1
      exact ⟨d, z, .str u, rfl, dq_str i1, ⟨es, n, _, D.at_, D.lit, e2, t, rfl⟩, po _ F1 H1 _ M1 hR g1 (.str _)⟩
  · exact h1.elim
theorem gt_of {K : PySem.W.Frag} {w : World} {mg : Str → Option Value} {x : Str} {kvs : List (Str × Str)} {a : Addr} {es : Array DictEntry} {n : Nat} (hx : mg x = some (.ref a)) (hl : K.lookup a = some ⟨.type "dict", none, .dict es n, #[]⟩) (hk : PySem.W.KeysLit w.params es.toList)
    (low : (a == sysModules) = false) (h : All2 (fun (e : DictEntry) (kv : Str × Str) => ∃ t u, e.key = .str kv.1 t ∧ e.val = .str kv.2 u) es.toList kvs) : GT K w mg x kvs := by
  refine ⟨a, es, n, hx, ⟨hl, hk, low⟩, fun z => ?_⟩
  unfold PySem.W.nsIn
  rw [hl]
  dsimp only
  have hf : ∀ {l : List DictEntry} {kvs : List (Str × Str)}, All2 (fun (e : DictEntry) (kv : Str × Str) => ∃ t u, e.key = .str kv.1 t ∧ e.val = .str kv.2 u) l kvs →
      (kvs.lookup z = none ∧ l.find? (·.key.isStr z) = none) ∨ ∃ v t e, kvs.lookup z = some v ∧ l.find? (·.key.isStr z) = some e ∧ e.val = .str v t := by
    intro l kvs h
    induction h with
    | nil => exact .inl ⟨rfl, rfl⟩
    | @cons e kv l kvs h1 _ ih =>
      obtain ⟨t, u, h1, h2⟩ := h1
      obtain ⟨k, v⟩ := kv
      have q : e.key.isStr z = (k == z) := by rw [h1]; rfl
      by_cases hz : z = k
      · subst hz
        exact .inr ⟨v, u, e, by simp [List.lookup], by rw [List.find?_cons, q]; simp, h2⟩
      · have q2 : (k == z) = false := by simp [Ne.symm hz]
        have q3 : (z == k) = false := by simp [hz]
        rw [List.find?_cons, q, q2]
        simp only [List.lookup, q3]
        exact ih
  have hr : ∀ {l : List DictEntry} {kvs : List (Str × Str)}, All2 (fun (e : DictEntry) (kv : Str × Str) => ∃ t u, e.key = .str kv.1 t ∧ e.val = .str kv.2 u) l kvs → l.any (·.refKey) = false := by
    intro l kvs h
    induction h with
    | nil => rfl
    | @cons e kv l kvs h1 _ ih =>
      obtain ⟨t, u, h1, h2⟩ := h1
      rw [List.any_cons, ih, Bool.or_false]
      unfold DictEntry.refKey
      rw [h1]
  rcases hf h with ⟨e1, e2⟩ | ⟨v, t, e, e1, e2, e3⟩
  · refine .inl ⟨e1, ?_⟩
    rw [e2, hr h]; rfl
  · refine .inr ⟨v, t, e1, ?_⟩
    rw [e2]
    show some (some e.val) = _
    rw [e3]
/-! ### k not in d -/
abbrev gDNotIn : W2 := fun q p M R => match p with
  | .v (.ref a) => ∃ ks k, M a = some (.dic ks) ∧ keyS q = some k ∧ R (.b (!(valS ks k).isSome)) M
  | _ => False
theorem pdt_dnotin (hu : X.A.units + 1 < cLine) (ha : PD X a wa) (hb : PD X b wb) (hm : behindInMarks .NotIn b = false := by rfl) : PDT X (.Compare a [.NotIn] [b] pos) (wBl (wOp gDNotIn wa wb)) := by
  refine pt_imp (pt_cmp (pc_dnotin hu ha hb) hm) fun st H Q ⟨F, dl, M, R, so, at0, hw, po⟩ => ?_
  refine tD_to so at0 hw fun x F1 H1 p M1 h1 e1 so1 at1 i1 => ?_
  refine tD_to so1 at1 h1 fun y F2 H2 q M2 h2 e2 so2 at2 i2 => ?_
  unfold gDNotIn at h2
  split at h2
  · rename_i ad
    obtain ⟨ks, k, m, hk, hR⟩ := h2
    have e : y = .ref ad := i2
    subst e
    obtain ⟨_, kvs, q1, q2⟩ := at2.mem ad _ m
    refine ⟨ad, _, rfl, by rw [keyS_at (is_mono e2.ex i1) hk]; exact DGet.k q1, _, rfl, ?_⟩
    rw [← valS_isSome q2]
    exact po _ F2 H2 M2 hR (e1.trans e2)
  · exact h2.elim
/-! ### sorted(d), texts -/
def keysT : KS → Option (List Str)
  | [] => some []
  | (.inr k, _) :: r => (keysT r).map (k :: ·)
  | _ => none
theorem keysT_at {K : PySem.W.Frag} {F : Hp} : ∀ {ks : KS} {kvs : List (Key × V)} {ns : List Str}, All2 (KIs K F) ks kvs → keysT ks = some ns → kvs.map (·.1) = ns.map Sum.inr
  | [], _, _, h, e => by cases h; cases e; rfl
  | (.inr k, s) :: r, _, ns, h, e => by
    simp only [keysT, Option.map_eq_some_iff] at e
    obtain ⟨rs, h1, rfl⟩ := e
    cases h with
    | cons h t => rw [List.map_cons, List.map_cons, keysT_at t h1, ← h.1]
  | (.inl _, _) :: _, _, _, _, e => by simp [keysT] at e
theorem dqAll_strs {K : PySem.W.Frag} {F : Hp} : ∀ ns : List Str, DqAll K F (ns.map V.str) (ns.map PyData.str)
  | [] => .nil
  | n :: r => .cons (.str n) (dqAll_strs r)
abbrev gSortedDS : Sl → Mem → RK → Prop := fun r M R => match r with
  | .v (.ref a) => ∃ ks ns, M a = some (.dic ks) ∧ keysT ks = some ns ∧ ns.length < 64 ∧ ∀ ys : List Str, ys.Perm ns → R (.d (.list (ys.map PyData.str))) M
  | _ => False
theorem c_sortedDS (hc : X.calm = true) : CaD X (.builtin "sorted") (g1 gSortedDS) := ca1 fun F H M v r R Q at0 i1 h1 po => by
  unfold gSortedDS at h1
  split at h1
  · rename_i ad
    obtain ⟨ks, ns, m, hk, hl, hR⟩ := h1
    have e : v = .ref ad := i1
    subst e
    obtain ⟨_, kvs, q1, q2⟩ := at0.mem ad _ m
    exact ⟨_, call_sortedD hc, ad, kvs, ns, rfl, .inl q1, keysT_at q2 hk, hl, fun ys p hp _ hn => po_dat at0 po hn (hR ys hp) fun F' e h => .lst h (dqAll_strs _)⟩
  · exact h1.elim
/-! ### + by shapes, texts too -/
abbrev gPlusE : W2 := fun p q M R => match p, q with
  | .d (.str a), .d (.str b) => a.length + b.length ≤ sizeLine ∧ R (.s (a ++ b)) M
  | p, q => gPlusD p q M R
theorem o_plusE : OpD X (binaryOp .Add) gPlusE := opD_of fun F H M x y p q R Q at0 h1 h2 h3 po => by
  unfold gPlusE at h3
  split at h3
  · exact ⟨_, op_add_str, _, _, dq_str h1, dq_str h2, h3.1, po _ F H _ M h3.2 (Go.refl at0) (.str _)⟩
  · obtain ⟨r, ho, hr⟩ := o_plusD (X := X)
    exact ⟨r, ho, hr F H M x y _ _ R Q at0 h1 h2 h3 po⟩
/-! ### f() -/
theorem pd_fn0 {k : Nat} {x : Str} {st : Stmt} {cn : Cn} (h : Has X.prog X.w X.K X.mg X.base k x st [] cn) (hgd : X.A.guards = some []) (hr : Room k X.A) (hg : Gl X x)
    (hdb : (x == ("__debug__" : Str)) = false := by decide) : PD X (.Call (.Name x p) [] [] pos) (wCall cn wNil) := by
  obtain ⟨f, fd, hm, Fu, hb, G⟩ := h.ex
  refine ⟨fun pins s st H Q I h => ?_⟩
  obtain ⟨F, dl, M, R, so, at0, hw, po⟩ := h
  refine wpAny_Call_Name_kw (ld_glob I hg hm ?_ hdb)
  refine PySem.W.callWith_K0 I.kIn Fu.kp ?_
  have q1 : spD X.K cn [] H Q := spD_of at0 .nil hw po
  have hb1 := hb s [] I.kIn rfl
  exact run_fnD G hgd hr hb1 I .nil q1
end
end DL

set_option Elab.async false
set_option linter.all false
set_option maxRecDepth 100000
set_option maxHeartbeats 4000000
/-! EG: a comprehension within another one. -/
namespace DL
open PySem PySem.Spec PyProof.Rows L2
theorem look_relabel {env : Env} {x : Str} : ∀ {names : List (Str × NameKind)}, (names.lookup x = some .cell ∨ names.lookup x = some .free) →
    ((names.map fun (n, k) => if (k == NameKind.free && env.scope.kind == .function && env.kindOf n == some .cell) then (n, NameKind.cell) else (n, k)).lookup x = some .cell ∨
     (names.map fun (n, k) => if (k == NameKind.free && env.scope.kind == .function && env.kindOf n == some .cell) then (n, NameKind.cell) else (n, k)).lookup x = some .free)
  | [], h => by rcases h with h | h <;> cases h
  | (n, k) :: r, h => by
    rw [List.map_cons]
    dsimp only
    cases hb : (x == n) with
    | true =>
      rw [List.lookup, hb] at h
      split
      · rw [List.lookup, hb]; exact .inl rfl
      · rw [List.lookup, hb]; exact h
    | false =>
      rw [List.lookup, hb] at h
      split
      · rw [List.lookup, hb]; exact look_relabel h
      · rw [List.lookup, hb]; exact look_relabel h
theorem blkOk_in {N : List Str} {outer scope : Scope} {own : List (Str × Nat)} {env : Env} (h : blkC N outer scope own = true) : BlkOk N (relabel outer env) scope own := by
  have q := blkOk_by h
  exact ⟨q.kind, q.uniq, q.ix, fun y hy e => look_relabel (q.free y hy e), q.own⟩
end DL

set_option Elab.async false
set_option linter.all false
set_option maxRecDepth 100000
set_option maxHeartbeats 4000000
/-! EH: a comprehension with two for; max, min of a list; list and len of a dict. -/
namespace DL
open PySem PySem.Spec L2
open Evl (Ex)
/-- [e for t in it if c for t1 in it1 if c1] -/
def lcGo2 (g : WG) (wt : WT) (wi1 : WI) (g1 : WG) (wt1 : WT) (we : WE) (vs1 : List Nat) (C : Mem → Prop) (dl : Env') (R : List Sl → Mem → Prop) : List Sl → List Sl → Mem → Prop
  | [], acc, M => C M ∧ R acc M
  | x :: xs, acc, M => C M ∧ g x dl M fun dl2 M2 => wt dl2 M2 fun k M3 => if k = true then wi1 dl2 M3 fun items C1 M4 => lcGo g1 wt1 we C1 (wipeD dl2 vs1) (lcGo2 g wt wi1 g1 wt1 we vs1 C dl R xs) items acc M4 else lcGo2 g wt wi1 g1 wt1 we vs1 C dl R xs acc M3
theorem lcGo2_C {g g1 : WG} {wt wt1 : WT} {wi1 : WI} {we : WE} {vs1 : List Nat} {C : Mem → Prop} {dl : Env'} {R : List Sl → Mem → Prop} : ∀ {xs acc : List Sl} {M : Mem}, lcGo2 g wt wi1 g1 wt1 we vs1 C dl R xs acc M → C M
  | [], _, _, h => h.1
  | _ :: _, _, _, h => h.1
abbrev wLc2 (wi : WI) (g : WG) (wt : WT) (wi1 : WI) (g1 : WG) (wt1 : WT) (we : WE) (vs vs1 : List Nat) : WE := fun dl M R => wi dl M fun items C M1 => lcGo2 g wt wi1 g1 wt1 we vs1 C (wipeD dl vs) (fun acc M2 => ∃ ds, datOf acc = some ds ∧ R (.d (.list ds)) M2) items [] M1
theorem tD_lc2 {K : PySem.W.Frag} {wi wi1 : WI} {g g1 : WG} {wt wt1 : WT} {we : WE} {vs vs1 : List Nat} {st : St} {H : Hp} {Q : VK} (h : tD K (wLc2 wi g wt wi1 g1 wt1 we vs vs1) st H Q) :
    tLc2 (tDI K wi) (tDGw K vs g) (tDT K wt) (tDI K wi1) (tDGw K vs1 g1) (tDT K wt1) (tD K we) vs vs1 st H Q := by
  obtain ⟨F0, dl, M0, R, so0, at00, hw0, po⟩ := h
  refine ⟨F0, dl, M0, _, so0, at00, hw0, fun F1 M1 H1 items C J h0 g0 wk p hp => ?_⟩
  have so := sok_mono g0.ex so0
  have at1 := g0.at'
  have f1 := at1.freeF hp
  have m1 := at1.freeM hp
  refine ⟨fun i m H => m = items.length - i ∧ i ≤ items.length ∧ ∃ F M acc, LcW K F1 M1 H1 p F M H acc ∧ lcGo2 g wt wi1 g1 wt1 we vs1 C (wipeD dl vs) (fun acc M2 => ∃ ds, datOf acc = some ds ∧ R (.d (.list ds)) M2) (items.drop i) acc M,
    ⟨_, rfl, Nat.zero_le _, F1, M1, [], ⟨⟨Ex.refl _, at1.hid f1 m1, fun a o h1 h2 h3 => ⟨by rw [upd_ne (ne_of_none h1 hp)]; exact h1, h2, h3⟩⟩, f1, m1, [], upd_same, .nil⟩, h0⟩, ?_⟩
  rintro i m H ⟨rfl, hi, F, M, acc, l, hw⟩
  have c := lcGo2_C hw
  have at0 := l.go.at'
  by_cases hlt : i < items.length
  · refine .inr ⟨wk.go F M H i l.go.ex at0 c hlt, fun H' => i + 1 ≤ items.length ∧ ∃ F M acc, LcW K F1 M1 H1 p F M H' acc ∧ lcGo2 g wt wi1 g1 wt1 we vs1 C (wipeD dl vs) (fun acc M2 => ∃ ds, datOf acc = some ds ∧ R (.d (.list ds)) M2) (items.drop (i + 1)) acc M, fun H' q => ⟨_, by omega, rfl, q⟩, fun x H' y => ?_⟩
    obtain ⟨F2, g2, i2⟩ := wk.yld F M H i x H' _ l.go.ex at0 c y (List.getElem?_eq_getElem hlt)
    rw [List.drop_eq_getElem_cons hlt] at hw
    obtain ⟨_, hw⟩ := hw
    have l2 := l.step g2
    refine ⟨F2, wipeD dl vs, M, _, _, sok_wipe (sok_mono l2.go.ex so) vs, g2.at', i2, hw, fun st3 F3 H3 dl3 M3 h3 g3 so3 w3 => ⟨?_, ?_⟩⟩
    · rw [w3]; exact wipe_wipe st vs
    · have l3 := l2.step g3
      refine tDT_to so3 g3.at' h3 fun k F4 H4 M4 h4 g4 so4 at4 => ?_
      have l4 := l3.step g4
      cases k with
      | false => exact ⟨hlt, F4, M4, acc, l4, h4⟩
      | true =>
        refine ⟨F4, dl3, M4, _, so4, at4, h4, fun F5 M5 H5 items1 C1 J1 h5 g5 wk1 => ?_⟩
        have l5 := l4.step g5
        have so5 := sok_mono g5.ex so4
        refine ⟨fun j k H => k = items1.length - j ∧ j ≤ items1.length ∧ ∃ F M acc, Ex F5 F ∧ LcW K F1 M1 H1 p F M H acc ∧ lcGo g1 wt1 we C1 (wipeD dl3 vs1) (lcGo2 g wt wi1 g1 wt1 we vs1 C (wipeD dl vs) (fun acc M2 => ∃ ds, datOf acc = some ds ∧ R (.d (.list ds)) M2) (items.drop (i + 1))) (items1.drop j) acc M,
          ⟨_, rfl, Nat.zero_le _, F5, M5, acc, Ex.refl _, l5, h5⟩, ?_⟩
        rintro j k H6 ⟨rfl, hj, F6, M6, acc6, e6, l6, hw6⟩
        have c6 := lcGo_C hw6
        have at6 := l6.go.at'
        by_cases hlj : j < items1.length
        · refine .inr ⟨wk1.go F6 M6 H6 j e6 at6 c6 hlj, fun H' => j + 1 ≤ items1.length ∧ ∃ F M acc, Ex F5 F ∧ LcW K F1 M1 H1 p F M H' acc ∧ lcGo g1 wt1 we C1 (wipeD dl3 vs1) (lcGo2 g wt wi1 g1 wt1 we vs1 C (wipeD dl vs) (fun acc M2 => ∃ ds, datOf acc = some ds ∧ R (.d (.list ds)) M2) (items.drop (i + 1))) (items1.drop (j + 1)) acc M, fun H' q => ⟨_, by omega, rfl, q⟩, fun x1 H7 y1 => ?_⟩
          obtain ⟨F7, g7, i7⟩ := wk1.yld F6 M6 H6 j x1 H7 _ e6 at6 c6 y1 (List.getElem?_eq_getElem hlj)
          rw [List.drop_eq_getElem_cons hlj] at hw6
          obtain ⟨_, hw6⟩ := hw6
          have l7 := l6.step g7
          have e7 := e6.trans g7.ex
          refine ⟨F7, wipeD dl3 vs1, M6, _, _, sok_wipe (sok_mono e7 so5) vs1, g7.at', i7, hw6, fun st8 F8 H8 dl8 M8 h8 g8 so8 w8 => ⟨?_, ?_⟩⟩
          · rw [w8]; exact wipe_wipe _ vs1
          · have l8 := l7.step g8
            have e8 := e7.trans g8.ex
            refine tDT_to so8 g8.at' h8 fun k9 F9 H9 M9 h9 g9 so9 at9 => ?_
            have l9 := l8.step g9
            have e9 := e8.trans g9.ex
            cases k9 with
            | false => exact ⟨hlj, F9, M9, acc6, e9, l9, h9⟩
            | true =>
              refine tD_to so9 at9 h9 fun y F5' H5' r M5' h5' g5' so5' at5' i5' => ?_
              have l10 := l9.step g5'
              obtain ⟨us, q1, q2⟩ := l10.h
              refine ⟨us, q1, by rw [← q2.length]; exact h5'.1, hlj, F5', M5', acc6 ++ [r], e9.trans g5'.ex, ⟨⟨l10.go.ex, l10.go.at'.hid l10.f l10.m, fun a o z1 z2 z3 => ?_⟩, l10.f, l10.m, us ++ [y], upd_same, q2.append (.cons i5' .nil)⟩, h5'.2⟩
              obtain ⟨w1, w2, w3⟩ := l10.go.fr a o z1 z2 z3
              exact ⟨by rw [upd_ne (ne_of_none z1 hp)]; exact w1, w2, w3⟩
        · have ej : j = items1.length := by omega
          subst ej
          rw [List.drop_length] at hw6
          exact .inl ⟨wk1.stop F6 M6 H6 e6 at6 c6, hlt, F6, M6, acc6, l6, hw6.2⟩
  · have ei : i = items.length := by omega
    subst ei
    rw [List.drop_length] at hw
    refine .inl ⟨wk.stop F M H l.go.ex at0 c, ?_⟩
    obtain ⟨ds, e, hR⟩ := hw.2
    obtain ⟨F3, g3, d3⟩ := l.dat hp e
    exact po _ F3 H _ M hR (g0.trans g3) d3
section
variable {X : Cx} {pos : Pos} {elt tg iter tg1 iter1 : Expr} {ifs ifs1 : List Expr} {scope : Scope} {own : List (Str × Nat)} {vs1 : List Nat} {wi wi1 : WI} {g g1 : WG} {wt wt1 : WT} {we : WE}
theorem pds_setLc2 (i : Nat) {y : Str} {py spos : Pos} (vs1 : List Nat) (hc : X.calm = true) (hN : X.N.Nodup) (hy : X.N[i]? = some y) (hyl : X.env.scope.names.lookup y = some .local)
    (hsw : swapsWith (.ListComp elt [⟨tg, iter, ifs, 0⟩, ⟨tg1, iter1, ifs1, 0⟩] scope pos) (some (.Name y py)) spos.line X.env = pure true) (hi : PDI X tg iter wi) (ok : BlkOk X.N X.env.scope scope own) (hv : ∀ i ∈ vs1, i ∈ own.map (·.2))
    (hg : ∀ (s : Shared) (H : Hp) (C : Addr) (cl : List (Str × Addr)) (fp : List Addr), PDGw (X.blk s H scope (compEnvC scope cl C X.env) fp) (own.map (·.2)) tg g) (ht : ∀ (s : Shared) (H : Hp) (C : Addr) (cl : List (Str × Addr)) (fp : List Addr), PDTs (X.blk s H scope (compEnvC scope cl C X.env) fp) ifs wt)
    (hi1 : ∀ (s : Shared) (H : Hp) (C : Addr) (cl : List (Str × Addr)) (fp : List Addr), PDI (X.blk s H scope (compEnvC scope cl C X.env) fp) tg1 iter1 wi1)
    (hg1 : ∀ (s : Shared) (H : Hp) (C : Addr) (cl : List (Str × Addr)) (fp : List Addr), PDGw (X.blk s H scope (compEnvC scope cl C X.env) fp) vs1 tg1 g1) (ht1 : ∀ (s : Shared) (H : Hp) (C : Addr) (cl : List (Str × Addr)) (fp : List Addr), PDTs (X.blk s H scope (compEnvC scope cl C X.env) fp) ifs1 wt1)
    (he : ∀ (s : Shared) (H : Hp) (C : Addr) (cl : List (Str × Addr)) (fp : List Addr), PD (X.blk s H scope (compEnvC scope cl C X.env) fp) elt we) (hs : ∀ x, foldedSetIterable iter X.env x = pure x := by intro _; rfl) (hs1 : ∀ env x, foldedSetIterable iter1 env x = pure x := by intro _ _; rfl) :
    PDS X (.Assign [.Name y py] (.ListComp elt [⟨tg, iter, ifs, 0⟩, ⟨tg1, iter1, ifs1, 0⟩] scope pos) spos) (wAsg (wLc2 wi g wt wi1 g1 wt1 we (own.map (·.2)) vs1) (gN i)) :=
  ps_imp (ps_setLc2 (g := tDGw X.K (own.map (fun z : Str × Nat => z.2)) g) (tt := tDT X.K wt) (wi1 := tDI X.K wi1) (g1 := tDGw X.K vs1 g1) (tt1 := tDT X.K wt1) (te := tD X.K we) hc hN hy hyl hsw hi ok hv hg ht hi1 hg1 ht1 he hs hs1) fun D st H ⟨F, dl, M, P, so, at0, hw, po⟩ =>
    tD_lc2 ⟨F, dl, M, _, so, at0, hw, fun v F1 H1 r M1 h1 g1 i1 => po.nx _ F1 H1 _ M1 h1 g1 (sok_set (sok_mono g1.ex so) i1)⟩
end
section
variable {g : WG} {wt : WT} {we : WE} {C : Mem → Prop} {dl : Env'} {R : List Sl → Mem → Prop} {M : Mem}
/-- typed lists, with something collected already -/
theorem lc_acc {A : Type} (l : List A) (φ f : A → Sl) (acc : List Sl) (hC : C M) (hz : acc.length + l.length ≤ sizeLine)
    (h : ∀ a ∈ l, ∀ (k1 : Sl → Mem → Prop) (k0 : Mem → Prop), k1 (f a) M → g (φ a) dl M fun dl2 M2 => wt dl2 M2 fun k M3 => if k = true then we dl2 M3 k1 else k0 M3)
    (hR : R (acc ++ l.map f) M) : lcGo g wt we C dl R (l.map φ) acc M := by
  induction l generalizing acc with
  | nil => exact ⟨hC, by simpa using hR⟩
  | cons a r ih =>
    rw [List.length_cons] at hz
    exact ⟨hC, h a List.mem_cons_self _ _ ⟨by omega, ih _ (by simp; omega) (fun b hb => h b (List.mem_cons_of_mem _ hb)) (by simpa using hR)⟩⟩
theorem lc2_m {A B : Type} {wi1 : WI} {g1 : WG} {wt1 : WT} {vs1 : List Nat} (l : List A) (φ : A → Sl) (k : A → List B) (f : B → Sl) (hC : C M) (hz : (l.flatMap k).length ≤ sizeLine)
    (h : ∀ a ∈ l, ∀ (nx : List Sl → Mem → Prop) (acc : List Sl) (kk : Mem → Prop), acc.length + (k a).length ≤ sizeLine → nx (acc ++ (k a).map f) M → g (φ a) dl M fun dl2 M2 => wt dl2 M2 fun b M3 => if b = true then wi1 dl2 M3 fun items C1 M4 => lcGo g1 wt1 we C1 (wipeD dl2 vs1) nx items acc M4 else kk M3)
    (hR : R ((l.flatMap k).map f) M) : lcGo2 g wt wi1 g1 wt1 we vs1 C dl R (l.map φ) [] M := by
  suffices hs : ∀ (l' : List A) (acc : List Sl), (∀ a ∈ l', a ∈ l) → acc.length + (l'.flatMap k).length ≤ sizeLine → R (acc ++ (l'.flatMap k).map f) M → lcGo2 g wt wi1 g1 wt1 we vs1 C dl R (l'.map φ) acc M from hs l [] (fun _ h => h) (by simpa using hz) (by simpa using hR)
  intro l'
  induction l' with
  | nil => intro acc _ _ h; exact ⟨hC, by simpa using h⟩
  | cons a r ih =>
    intro acc hm hl hr
    rw [List.flatMap_cons, List.length_append] at hl
    refine ⟨hC, h a (hm a List.mem_cons_self) _ acc _ (by omega) (ih _ (fun b hb => hm b (List.mem_cons_of_mem _ hb)) (by rw [List.length_append, List.length_map]; omega) ?_)⟩
    rw [List.flatMap_cons, List.map_append] at hr
    simpa using hr
end
section
variable {X : Cx}
/-! ### max, min of a list; list, len of a dict -/
abbrev gMax1 : Sl → Mem → RK → Prop := fun r M R => ∃ ss ns, lsOf M r = some ss ∧ intsOf ss = some ns ∧ 0 < ns.length ∧ ∀ m ∈ ns, (∀ y ∈ ns, y ≤ m) → R (.i m) M
abbrev gMin1 : Sl → Mem → RK → Prop := fun r M R => ∃ ss ns, lsOf M r = some ss ∧ intsOf ss = some ns ∧ 0 < ns.length ∧ ∀ m ∈ ns, (∀ y ∈ ns, m ≤ y) → R (.i m) M
theorem c_max1 (hc : X.calm = true) : CaD X (.builtin "max") (g1 gMax1) := ca1 fun F H M v r R Q at0 i1 h1 po => by
  obtain ⟨ss, ns, e1, e2, hz, hR⟩ := h1
  obtain ⟨a, vs, rfl, q1, q2⟩ := lsOf_at at0 i1 e1
  have e3 := intsOf_at e2 q2
  subst e3
  exact ⟨_, cr_max hc, a, ns, rfl, SqL.of q1, hz, fun m hm hle => po _ F H _ M (hR m hm hle) (Go.refl at0) (.int _)⟩
theorem c_min1 (hc : X.calm = true) : CaD X (.builtin "min") (g1 gMin1) := ca1 fun F H M v r R Q at0 i1 h1 po => by
  obtain ⟨ss, ns, e1, e2, hz, hR⟩ := h1
  obtain ⟨a, vs, rfl, q1, q2⟩ := lsOf_at at0 i1 e1
  have e3 := intsOf_at e2 q2
  subst e3
  exact ⟨_, cr_min hc, a, ns, rfl, SqL.of q1, hz, fun m hm hle => po _ F H _ M (hR m hm hle) (Go.refl at0) (.int _)⟩
abbrev gLenD : Sl → Mem → RK → Prop := fun r M R => ∃ p ks, r = .v (.ref p) ∧ M p = some (.dic ks) ∧ R (.i (ks.length : Int)) M
theorem c_lenD : CaD X (.builtin "len") (g1 gLenD) := ca1 fun F H M v r R Q at0 i1 h1 po => by
  obtain ⟨p, ks, rfl, m, hR⟩ := h1
  have e : v = .ref p := i1
  subst e
  obtain ⟨_, kvs, q1, q2⟩ := at0.mem p _ m
  exact ⟨_, call_lenD, p, kvs, rfl, q1, po _ F H _ M hR (Go.refl at0) (by rw [q2.length]; exact .int _)⟩
abbrev gListD : Sl → Mem → RK → Prop := fun r M R => ∃ p ks ns, r = .v (.ref p) ∧ M p = some (.dic ks) ∧ keysI ks = some ns ∧ R (.d (.list (ns.map PyData.int))) M
theorem keysI_kv {K : PySem.W.Frag} {F : Hp} : ∀ {ks : KS} {kvs : List (Key × V)} {ns : List Int}, keysI ks = some ns → All2 (KIs K F) ks kvs → (kvs.map fun kv => kV kv.1) = ns.map V.int
  | [], _, _, h, i => by cases h; cases i; rfl
  | (.inl n, s) :: r, _, ns, h, i => by
    cases i with
    | cons i1 i2 =>
      simp only [keysI, Option.map_eq_some_iff] at h
      obtain ⟨ms, h1, rfl⟩ := h
      have e : Sum.inl n = _ := i1.1
      rw [List.map_cons, List.map_cons, ← keysI_kv h1 i2, ← e]; rfl
theorem c_listD (hc : X.calm = true) : CaD X (.type "list") (g1 gListD) := ca1 fun F H M v r R Q at0 i1 h1 po => by
  obtain ⟨p, ks, ns, rfl, m, hk, hR⟩ := h1
  have e : v = .ref p := i1
  subst e
  obtain ⟨_, kvs, q1, q2⟩ := at0.mem p _ m
  refine ⟨_, call_list_dK hc, p, kvs, rfl, q1, fun l hl => ?_⟩
  rw [keysI_kv hk q2]
  exact po_dat at0 po hl hR fun F' e h => .lst h (dqAll_ints _)
end
end DL

set_option Elab.async false
set_option linter.all false
set_option maxRecDepth 100000
set_option maxHeartbeats 4000000
/-! EI: k in d, k not in d as values; a def's promise up to what a result may be seen as. -/
namespace DL
open PySem PySem.Spec L2
open Evl (Ex)
section
variable {X : Cx} {a b : Expr} {wa wb : WE} {pos : Pos}
theorem pd_dnotin (hu : X.A.units + 1 < cLine) (ha : PD X a wa) (hb : PD X b wb) (hm : behindInMarks .NotIn b = false := by rfl) : PD X (.Compare a [.NotIn] [b] pos) (wOp gDNotIn wa wb) := by
  refine pe_imp (pe_cmp (pc_dnotin hu ha hb) hm) fun st H Q ⟨F, dl, M, R, so, at0, hw, po⟩ => ?_
  refine tD_to so at0 hw fun x F1 H1 p M1 h1 e1 so1 at1 i1 => ?_
  refine tD_to so1 at1 h1 fun y F2 H2 q M2 h2 e2 so2 at2 i2 => ?_
  unfold gDNotIn at h2
  split at h2
  · rename_i ad
    obtain ⟨ks, k, m, hk, hR⟩ := h2
    have e : y = .ref ad := i2
    subst e
    obtain ⟨_, kvs, q1, q2⟩ := at2.mem ad _ m
    refine ⟨ad, _, rfl, by rw [keyS_at (is_mono e2.ex i1) hk]; exact DGet.k q1, ?_⟩
    rw [← valS_isSome q2]
    exact po _ F2 H2 _ M2 hR (e1.trans e2) (.bl _)
  · exact h2.elim
theorem pd_din (hu : X.A.units + 1 < cLine) (ha : PD X a wa) (hb : PD X b wb) (hm : behindInMarks .In b = false := by rfl) : PD X (.Compare a [.In] [b] pos) (wOp gDIn wa wb) := by
  refine pe_imp (pe_cmp (pc_din hu ha hb) hm) fun st H Q ⟨F, dl, M, R, so, at0, hw, po⟩ => ?_
  refine tD_to so at0 hw fun x F1 H1 p M1 h1 e1 so1 at1 i1 => ?_
  refine tD_to so1 at1 h1 fun y F2 H2 q M2 h2 e2 so2 at2 i2 => ?_
  unfold gDIn at h2
  split at h2
  · rename_i ad
    obtain ⟨ks, k, m, hk, hR⟩ := h2
    have e : y = .ref ad := i2
    subst e
    obtain ⟨_, kvs, q1, q2⟩ := at2.mem ad _ m
    refine ⟨ad, _, rfl, by rw [keyS_at (is_mono e2.ex i1) hk]; exact DGet.k q1, ?_⟩
    rw [← valS_isSome q2]
    exact po _ F2 H2 _ M2 hR (e1.trans e2) (.bl _)
  · exact h2.elim
end
section
variable {P : Program} {w : World} {K : PySem.W.Frag} {mg : Str → Option Value} {base : Heap}
theorem FnD.up {k : Nat} {f : Addr} {fd : FuncData} {ps : List Str} {cn : Cn} (G : FnD P w K mg base k f fd ps cn) : FnD P w K mg base k f fd ps (fun rs M R => cn rs M (upR R)) :=
  ⟨fun rs M R q => G.len rs M _ q, fun A outer s H args us vs Q hg hr he hb hv ⟨F, M, rs, R, a, b, c, d⟩ => G.run A outer s H args us vs Q hg hr he hb hv ⟨F, M, rs, upR R, a, b, c, d.up⟩⟩
end
end DL

set_option Elab.async false
set_option linter.all false
set_option maxRecDepth 100000
set_option maxHeartbeats 4000000
/-! EJ: objects: fields, methods, making. -/
namespace DL
open PySem PySem.Spec L2
open Evl (Ex)
abbrev FS := List (Str × Sl)
def lkF : FS → Str → Option Sl
  | [], _ => none
  | (g, x) :: r, f => if f == g then some x else lkF r f
def putFS (f : Str) (y : Sl) : FS → FS
  | [] => [(f, y)]
  | (g, x) :: r => if g = f then (f, y) :: r else (g, x) :: putFS f y r
def obOf (M : Mem) (C : Addr) : Sl → Option (Addr × FS)
  | .v (.ref p) => match M p with
    | some (.ob C' fs) => if C' = C then some (p, fs) else none
    | _ => none
  | _ => none
theorem obOf_m {M : Mem} {C p : Addr} {fs : FS} (h : M p = some (.ob C fs)) : obOf M C (.v (.ref p)) = some (p, fs) := by simp [obOf, h]
theorem obOf_at {M : Mem} {C p : Addr} {fs : FS} {r : Sl} (h : obOf M C r = some (p, fs)) : r = .v (.ref p) ∧ M p = some (.ob C fs) := by
  unfold obOf at h
  split at h
  · rename_i q
    split at h
    · rename_i C' fs' hm
      split at h
      · rename_i hc
        cases h
        subst hc
        exact ⟨rfl, hm⟩
      · cases h
    · cases h
  · cases h
theorem lkF_all {K : PySem.W.Frag} {F : Hp} : ∀ {fs : FS} {vs : List (Str × V)} {f : Str}, All2 (FIs K F) fs vs → (∀ x, lkF fs f = some x → ∃ v, vs.lookup f = some v ∧ Is K F x v) ∧ (lkF fs f = none → vs.lookup f = none)
  | [], _, f, .nil => ⟨fun x h => (nomatch h), fun _ => rfl⟩
  | (g, x) :: r, (g', v) :: vs, f, .cons h t => by
    obtain ⟨e, i⟩ := h
    have e : g = g' := e
    subst e
    obtain ⟨a, b⟩ := lkF_all (f := f) t
    cases hb : (f == g) with
    | true =>
      have e1 : lkF ((g, x) :: r) f = some x := by rw [lkF, hb]; rfl
      have e2 : List.lookup f ((g, v) :: vs) = some v := by rw [List.lookup, hb]
      exact ⟨fun y hy => by rw [e1] at hy; cases hy; exact ⟨v, e2, i⟩, fun z => by rw [e1] at z; cases z⟩
    | false =>
      have e1 : lkF ((g, x) :: r) f = lkF r f := by rw [lkF, hb]; rfl
      have e2 : List.lookup f ((g, v) :: vs) = List.lookup f vs := by rw [List.lookup, hb]
      rw [e1, e2]
      exact ⟨a, b⟩
theorem putF_all {K : PySem.W.Frag} {F : Hp} {f : Str} {y : Sl} {u : V} (hy : Is K F y u) : ∀ {fs : FS} {vs : List (Str × V)}, All2 (FIs K F) fs vs → All2 (FIs K F) (putFS f y fs) (L2.putF f u vs)
  | [], _, .nil => .cons ⟨rfl, hy⟩ .nil
  | (g, x) :: r, (g', v) :: vs, .cons h t => by
    obtain ⟨e, i⟩ := h
    have e : g = g' := e
    subst e
    by_cases hg : g = f
    · subst hg
      have e1 : putFS g y ((g, x) :: r) = (g, y) :: r := by rw [putFS, if_pos rfl]
      have e2 : L2.putF g u ((g, v) :: vs) = (g, u) :: vs := if_pos rfl
      rw [e1, e2]
      exact .cons ⟨rfl, hy⟩ t
    · have e1 : putFS f y ((g, x) :: r) = (g, x) :: putFS f y r := by rw [putFS, if_neg hg]
      have e2 : L2.putF f u ((g, v) :: vs) = (g, v) :: L2.putF f u vs := if_neg hg
      rw [e1, e2]
      exact .cons ⟨rfl, i⟩ (putF_all hy t)
section
variable {X : Cx} {o e : Expr} {we wo : WE} {pos pos' : Pos} {C : Addr} {f : Str}
abbrev wFld (C : Addr) (f : Str) (wo : WE) : WE := fun dl M R => wo dl M fun r M1 => ∃ pf x, obOf M1 C r = some pf ∧ lkF pf.2 f = some x ∧ R x M1
theorem pd_fld (cl : Cls X.K C) (na : NoAttr X.K C f) (ho : PD X o wo) (hbase : attributeBase o f X.env (eval o X.env) = eval o X.env := by rfl) : PD X (.Attribute o f pos) (wFld C f wo) := by
  refine pe_imp (pe_fld ho hbase) fun st H Q ⟨F, dl, M, R, so, at0, hw, po⟩ => ?_
  refine tD_to so at0 hw fun x F1 H1 r M1 h1 e1 so1 at1 i1 => ?_
  obtain ⟨⟨p, fs⟩, y, ho, hl, hR⟩ := h1
  obtain ⟨rfl, m⟩ := obOf_at ho
  have ex : x = .ref p := i1
  obtain ⟨_, dx, vs, q1, q2⟩ := at1.mem p _ m
  obtain ⟨v, lv, iv⟩ := (lkF_all q2).1 y hl
  exact ⟨p, C, dx, vs, v, ex, q1, cl, na, lv, po v F1 H1 y M1 hR e1 iv⟩
abbrev wFst (C : Addr) (f : Str) (we wo : WE) : WS := fun P dl M => we dl M fun y M1 => wo dl M1 fun r M2 => ∃ pf, obOf M2 C r = some pf ∧ pf.2.length < 1000 ∧ P.nx dl (upM M2 pf.1 (.ob C (putFS f y pf.2)))
theorem pds_fld (cl : Cls X.K C) (na : NoAttr X.K C f) (ho : PD X o wo) (he : PD X e we) (hs : swapsWith e (some (.Attribute o f pos')) pos.line X.env = pure false := by rfl) : PDS X (.Assign [.Attribute o f pos'] e pos) (wFst C f we wo) := by
  refine ps_imp (ps_fld ho he hs) fun D st H ⟨F, dl, M, P, so, at0, hw, po⟩ => ?_
  refine tD_to so at0 hw fun v F1 H1 y M1 h1 g1 so1 at1 i1 => ?_
  refine tD_to so1 at1 h1 fun x F2 H2 r M2 h2 g2 so2 at2 i2 => ?_
  obtain ⟨⟨p, fs⟩, ho, hl, hR⟩ := h2
  obtain ⟨rfl, m⟩ := obOf_at ho
  have ex : x = .ref p := i2
  obtain ⟨_, dx, vs, q1, q2⟩ := at2.mem p _ m
  have q3 := putF_all (f := f) (is_mono g2.ex i1) q2
  refine ⟨p, C, dx, vs, ex, q1, cl, na, by rw [← q2.length]; exact hl, po.nx _ F2 _ _ _ hR ((g1.trans g2).trans (Go.put at2 m ⟨dx, _, upd_same, q3⟩)) so2⟩
/-! ### o.m(e, ..) -/
abbrev wMeth (C : Addr) (m : Str) (cn : Cn) (wo : WE) (wa : WA) : WE := fun dl M R => wo dl M fun r M1 => ∃ pf, obOf M1 C r = some pf ∧ lkF pf.2 m = none ∧ wa dl M1 fun rs M2 => cn (r :: rs) M2 R
theorem pd_meth {k : Nat} {g : Addr} {fd : FuncData} {ps : List Str} {cn : Cn} {m : Str} {apos : Pos} {es : List Expr} {wa : WA} {pl : Sem Bool} (cl : Cls X.K C) (hm : Meth X.K C m g) (G : FnD X.prog X.w X.K X.mg X.base k g fd ps cn) (hgd : X.A.guards = some []) (hr : Room k X.A) (hb : Binds X.K fd ps []) (ho : PD X o wo) (ha : PDA X (e :: es) wa)
    (hst : starEach (e :: es) X.env = (false, eval e X.env) :: starEach es X.env := by rfl) (hpl : (backTo pos (starEach es X.env)).any (·.1) = false := by rfl)
    (ht : eval (.Call (.Attribute o m apos) (e :: es) [] pos) X.env = (do
      let ov ← eval o X.env
      standAt apos.atName
      let (f, first) ← holding [ov] (getMethod ov m pl)
      callWith pos f first (backTo pos (starEach (e :: es) X.env)) (backToKw pos (keywordEach [] X.env))) := by rfl) : PD X (.Call (.Attribute o m apos) (e :: es) [] pos) (wMeth C m cn wo wa) := by
  refine ⟨fun pins s st H Q I h => ?_⟩
  obtain ⟨F, dl, M, R, so, at0, hw, po⟩ := h
  refine PySem.W.methodCall_KW (thn (ho.run pins s st H _ I (tD_to (Q := fun x H1 => ∃ a dx fs, x = V.ref a ∧ H1 a = some (.ins C dx fs) ∧ fs.lookup m = none ∧ tDA X.K wa st H1 fun vs H2 => spD X.K cn (x :: vs) H2 Q) so at0 hw fun x F1 H1 r M1 h1 g1 so1 at1 i1 => ?_)) fun u s1 ⟨x, H1, I1, rx, a, dx, fs, ex, ea, l, q⟩ => ?_) ht
  · obtain ⟨⟨p, fs⟩, ho', hl, hR⟩ := h1
    obtain ⟨rfl, mm⟩ := obOf_at ho'
    have ex : x = .ref p := i1
    obtain ⟨_, dx, vs, q1, q2⟩ := at1.mem p _ mm
    refine ⟨p, dx, vs, ex, q1, (lkF_all q2).2 hl, F1, dl, M1, _, so1, at1, hR, fun us F2 H2 rs M2 h2 g2 i2 => spD_of g2.at' (.cons (is_mono g2.ex i1) i2) h2 (po.mono (g1.trans g2))⟩
  · subst ex
    cases rx
    refine getmeth_ok I1 ea cl hm l (PySem.W.callWith_K I.ok.mod.kin hm.kp (thn (ha.run pos pins s1 st H1 _ I1 q) fun us s2 ⟨vs, H2, I2, r, q2⟩ => ?_) hst hpl)
    have hl := G.lenV q2
    have hb1 := hb s2 (Value.ref a :: us) I2.kIn (by rw [List.append_nil, List.length_cons, ← r.length]; exact hl)
    rw [List.append_nil] at hb1
    have r2 : Vals (V.ref a :: vs) (Value.ref a :: us) := Paired.cons rfl r
    exact ⟨I2.kIn, run_fnD G hgd hr hb1 I2 r2 q2⟩
theorem pd_meth0 {k : Nat} {g : Addr} {fd : FuncData} {ps : List Str} {cn : Cn} {m : Str} {apos : Pos} {pl : Sem Bool} (cl : Cls X.K C) (hm : Meth X.K C m g) (G : FnD X.prog X.w X.K X.mg X.base k g fd ps cn) (hgd : X.A.guards = some []) (hr : Room k X.A) (hb : Binds X.K fd ps []) (ho : PD X o wo)
    (ht : eval (.Call (.Attribute o m apos) [] [] pos) X.env = (do
      let ov ← eval o X.env
      standAt apos.atName
      let (f, first) ← holding [ov] (getMethod ov m pl)
      callWith pos f first (backTo pos (starEach [] X.env)) (backToKw pos (keywordEach [] X.env))) := by rfl) : PD X (.Call (.Attribute o m apos) [] [] pos) (wMeth C m cn wo wNil) := by
  refine ⟨fun pins s st H Q I h => ?_⟩
  obtain ⟨F, dl, M, R, so, at0, hw, po⟩ := h
  refine PySem.W.methodCall_KW (thn (ho.run pins s st H _ I (tD_to (Q := fun x H1 => ∃ a dx fs, x = V.ref a ∧ H1 a = some (.ins C dx fs) ∧ fs.lookup m = none ∧ spD X.K cn [x] H1 Q) so at0 hw fun x F1 H1 r M1 h1 g1 so1 at1 i1 => ?_)) fun u s1 ⟨x, H1, I1, rx, a, dx, fs, ex, ea, l, q⟩ => ?_) ht
  · obtain ⟨⟨p, fs⟩, ho', hl, hR⟩ := h1
    obtain ⟨rfl, mm⟩ := obOf_at ho'
    have ex : x = .ref p := i1
    obtain ⟨_, dx, vs, q1, q2⟩ := at1.mem p _ mm
    exact ⟨p, dx, vs, ex, q1, (lkF_all q2).2 hl, spD_of at1 (.cons i1 .nil) hR (po.mono g1)⟩
  · subst ex
    cases rx
    have hl := G.lenV q
    have hb1 := hb s1 [Value.ref a] I1.kIn (by rw [List.append_nil]; exact hl)
    rw [List.append_nil] at hb1
    have r2 : Vals [V.ref a] [Value.ref a] := Paired.cons rfl Paired.nil
    exact getmeth_ok I1 ea cl hm l (PySem.W.callWith_K0 I1.kIn hm.kp (run_fnD G hgd hr hb1 I1 r2 q))
/-! ### C(e, ..) -/
theorem run_makeD {k : Nat} {g : Addr} {fd : FuncData} {ps : List Str} {cn : Cn} {pins : List (Addr × Obj)} {st : St} {H : Hp} {s : Shared} {Q : VK} {us : List Value} {vs : List V} (M : Mk X.K C g) (G : FnD X.prog X.w X.K X.mg X.base k g fd ps cn) (hgd : X.A.guards = some []) (hr : Room (k + 1) X.A) (hb : Binds X.K fd ps [])
    (I : Inv X pins st H s) (r : Vals vs us) (h : ∀ x dx : Addr, H x = none → H dx = none → dx ≠ x → spD X.K cn (.ref x :: vs) (upd (upd H dx (.own x)) x (.ins C dx [])) fun v H2 => v = V.non ∧ Q (.ref x) H2) : wpAny (model X.prog X.w) X.A (call (.ref C) us []) (EP X pins st Q) X.xe s := by
  have hq := h (s.heap.objs.size + 1) s.heap.objs.size (I.hok.fresh (Nat.le_succ _)) (I.hok.fresh (Nat.le_refl _)) (Nat.ne_of_lt (Nat.lt_succ_self _))
  have I2 := Inv.made (C := C) I
  have r2 : Vals (V.ref (s.heap.objs.size + 1) :: vs) (Value.ref (s.heap.objs.size + 1) :: us) := Paired.cons rfl r
  have hl := G.lenV hq
  have hb1 := hb _ (Value.ref (s.heap.objs.size + 1) :: us) I2.kIn (by rw [List.append_nil, ← r2.length]; exact hl)
  rw [List.append_nil] at hb1
  refine wpAny_call (make_map I.kIn M.makes M.init (beq_iff_eq.mp M.fn) (codeAny_mono (G.run (X.A.under (.builtin "type.__call__" ⟨.ref C :: us, []⟩)) X.stack _ _ ⟨.ref (s.heap.objs.size + 1) :: us, []⟩ (.ref (s.heap.objs.size + 1) :: us) _ _ (by exact hgd) (Room.make hr C us []) (Env0.make I2.env0 C us []) hb1 r2 hq) fun rr s' hq' => ?_))
  cases rr with
  | error er => exact False.elim hq'
  | ok fl => cases fl with
    | ret u =>
      obtain ⟨v, H', I3, rv, ev, q3⟩ := I2.after hq'
      subst ev
      exact ⟨rv, V.ref (s.heap.objs.size + 1), H', I3, rfl, q3⟩
    | next => exact False.elim hq'
    | brk => exact False.elim hq'
    | cont => exact False.elim hq'
abbrev wMake (C : Addr) (cn : Cn) (wa : WA) : WE := fun dl M R => wa dl M fun rs M1 => ∀ p, M1 p = none → cn (.v (.ref p) :: rs) (upM M1 p (.ob C [])) fun r M2 => r = .n ∧ R (.v (.ref p)) M2
theorem pd_make {k : Nat} {g : Addr} {fd : FuncData} {ps : List Str} {cn : Cn} {x : Str} {p : Pos} {es : List Expr} {wa : WA} (M : Mk X.K C g) (G : FnD X.prog X.w X.K X.mg X.base k g fd ps cn) (hgd : X.A.guards = some []) (hr : Room (k + 1) X.A) (hg : Gl X x) (hm : X.mg x = some (.ref C)) (hb : Binds X.K fd ps []) (ha : PDA X (e :: es) wa)
    (hdb : (x == ("__debug__" : Str)) = false := by decide) (he : starEach (e :: es) X.env = (false, eval e X.env) :: starEach es X.env := by rfl) (hpl : (backTo pos (starEach es X.env)).any (·.1) = false := by rfl) : PD X (.Call (.Name x p) (e :: es) [] pos) (wMake C cn wa) := by
  refine ⟨fun pins s st H Q I h => ?_⟩
  obtain ⟨F, dl, M0, R, so, at0, hw, po⟩ := h
  refine wpAny_Call_Name_kw (ld_glob I hg hm ?_ hdb)
  refine PySem.W.callWith_K (h₀ := X.base) I.ok.mod.kin M.kp (thn (PA.run ha pos pins s st H _ I (tDA_to (Q := fun vs H' => ∀ x dx : Addr, H' x = none → H' dx = none → dx ≠ x → spD X.K cn (.ref x :: vs) (upd (upd H' dx (.own x)) x (.ins C dx [])) fun v H2 => v = V.non ∧ Q (.ref x) H2) so at0 hw fun vs F1 H1 rs M1 h1 g1 so1 at1 i1 => ?_)) fun us s1 ⟨vs, H1, I1, r1, q1⟩ => ⟨I1.kIn, run_makeD M G hgd hr hb I1 r1 q1⟩) he hpl
  intro x dx hx hdx hne
  have f1 := at1.freeF hdx
  have m1 := at1.freeM hdx
  have a2 := at1.hid (o := .own x) f1 m1
  have hx2 : upd H1 dx (.own x) x = none := by rw [upd_ne (Ne.symm hne)]; exact hx
  have g2 : Go X.K F1 M1 H1 F1 M1 (upd H1 dx (.own x)) := ⟨Ex.refl _, a2, fun b u z1 z2 z3 => ⟨by rw [upd_ne (ne_of_none z1 hdx)]; exact z1, z2, z3⟩⟩
  have g3 := Go.new (o := .ob C []) (ho := .ins C dx []) a2 hx2 ⟨dx, [], upd_same, .nil⟩
  exact ⟨F1, upM M1 x (.ob C []), .v (.ref x) :: rs, _, .cons rfl (isAll_mono g3.ex i1), g3.at', h1 x (at1.freeM hx), fun v F' H' r M' ⟨er, hR⟩ g i => by
    subst er
    exact ⟨dq_non i, po _ F' H' _ M' hR (((g1.trans g2).trans g3).trans g) rfl⟩⟩
end
end DL

set_option Elab.async false
set_option linter.all false
set_option maxRecDepth 100000
set_option maxHeartbeats 4000000
/-! EK: defs with defaults, methods under their names, d.setdefault(k, x), a dict that is locked for good, C(). -/
namespace DL
open PySem PySem.Spec PyProof.Rows L2
open Evl (Ex)
section
variable {P : Program} {w : World} {K : PySem.W.Frag} {mg : Str → Option Value} {base : Heap}
/-- THE RULE for a def with defaults -/
theorem fnD_ofD {x qual : Str} {st : Stmt} {dvs : List V} {f : Addr} {fd : FuncData} {N ps : List Str} {k : Nat} {cn : Cn} (Fu : FunD K x qual (defArgs st) (defBody st) (defScope st) dvs [] f fd) (S : FnScope N ps (defScope st)) (len : ∀ rs M R, cn rs M R → rs.length = ps.length)
    (hbody : ∀ (cdv : Value) (A : Around) (outer : List Env) (s : Shared) (H : Hp), A.guards = some [] → Room k (A.deeper (envOfC qual (defScope st) s.heap.objs.size f cdv)) →
      ∃ wb : WS, PDB (cxOf CX0 P w K mg base N qual (defScope st) f cdv A outer s H E0).nox (defBody st) wb ∧ ∀ rs M R, cn rs M R → wb (bodyK R) (startD N rs) M) : FnD P w K mg base (k + 1) f fd ps cn := by
  obtain ⟨oc, od, dV, kV, doc, pm, an, cdv, ct, osl, rfl, lk, hcd, _, _⟩ := Fu.ex
  refine ⟨len, fun A outer s H args us vs Q hgd hr e0 hb r hsp => ?_⟩
  obtain ⟨F, M, rs, R, ia, at0, hcn, po⟩ := hsp
  have hl : vs.length = ps.length := ia.length.symm.trans (len rs M R hcn)
  have KX : K.In s.heap := e0.mod.kin.keeps fun b o e => (e0.bs b o e).1
  have lim : s.heap.NoLimit := e0.mod.nolimit.keeps fun b o e => (e0.bs b o e).1
  refine codeAny_call_function hr.depth (KX _ _ lk) rfl S.co S.gen rfl (PySem.W.codeRec_of KX hcd) (hb _ _ _ _ ?_)
  refine wpAny_newFunctionEnv_cells S.kind (fun y hy => ?_) fun env he s1 ic => ?_
  · rcases S.par y.1 (List.of_mem_zip hy).1 with q | q
    · exact Or.inl q
    · exact Or.inr ⟨q, PySem.W.cellsFrom_some _ _ _ (Or.inl q)⟩
  subst he
  refine ⟨lim.keeps ic.toInCall.keep, codeAny_func ?_⟩
  obtain ⟨wb, hB, hW⟩ := hbody cdv A outer s H hgd (hr.deeper _)
  have I := inv_start (CX := CX0) (E := E0) (qual := qual) (f := f) (cd := cdv) S hr.hd e0 hl r ic
  have rd : tDS K wb { nx := fun _ H' => Q .non H', rt := Q } (start N vs) H :=
    ⟨F, startD N rs, M, bodyK R, by unfold startD L2.start; rw [ia.length]; exact sok_start ia _, at0, hW rs M R hcn,
      ⟨fun st' F' H' dl' M' h g _ => po.up V.non F' H' _ M' h g .non, po.up, fun _ _ _ _ _ h => h.elim, fun _ _ _ _ _ h => h.elim⟩⟩
  refine wpAny_mono ((PSs.nox hB).run [] s1 (start N vs) H _ I rd) (fun fl s' hs => ?_) fun e s' hs => hs
  cases fl with
  | ret u =>
    obtain ⟨v, sg, H', Jn, rv, q⟩ := hs
    exact ⟨v, H', Jn.os, Jn.bare, Jn.base, Jn.hok, rv, q⟩
  | next =>
    obtain ⟨sg, H', Jn, q⟩ := hs
    exact ⟨V.non, H', Jn.os, Jn.bare, Jn.base, Jn.hok, rfl, q⟩
  | brk => obtain ⟨_, _, _, q⟩ := hs; exact q.elim
  | cont => obtain ⟨_, _, _, q⟩ := hs; exact q.elim
/-- a method of C under its name -/
structure HasM (P : Program) (w : World) (K : PySem.W.Frag) (mg : Str → Option Value) (base : Heap) (k : Nat) (C : Addr) (m : Str) (ps : List Str) (cn : Cn) : Prop where
  ex : ∃ f fd, Meth K C m f ∧ Binds K fd ps [] ∧ FnD P w K mg base k f fd ps cn
/-- a class that is made under its name -/
structure HasK (P : Program) (w : World) (K : PySem.W.Frag) (mg : Str → Option Value) (base : Heap) (k : Nat) (C : Addr) (x : Str) (ps : List Str) (cn : Cn) : Prop where
  ex : ∃ f fd, Mk K C f ∧ mg x = some (.ref C) ∧ Binds K fd ps [] ∧ FnD P w K mg base k f fd ps cn
theorem HasM.mono {j k : Nat} {C : Addr} {m : Str} {ps : List Str} {cn : Cn} (h : HasM P w K mg base j C m ps cn) (l : j ≤ k) : HasM P w K mg base k C m ps cn := let ⟨f, fd, a, b, c⟩ := h.ex; ⟨f, fd, a, b, c.mono l⟩
theorem HasM.imp {k : Nat} {C : Addr} {m : Str} {ps : List Str} {cn cn' : Cn} (h : HasM P w K mg base k C m ps cn) (l : ∀ rs M R, cn' rs M R → cn rs M R) : HasM P w K mg base k C m ps cn' := let ⟨f, fd, a, b, c⟩ := h.ex; ⟨f, fd, a, b, c.imp l⟩
end
section
variable {X : Cx} {o e f : Expr} {wo we wx : WE} {pos pos' apos cpos : Pos} {C : Addr} {es : List Expr} {wa : WA}
theorem pd_methH {k : Nat} {m : Str} {ps : List Str} {cn : Cn} {pl : Sem Bool} (cl : Cls X.K C) (G : HasM X.prog X.w X.K X.mg X.base k C m ps cn) (hgd : X.A.guards = some []) (hr : Room k X.A) (ho : PD X o wo) (ha : PDA X (e :: es) wa)
    (hst : starEach (e :: es) X.env = (false, eval e X.env) :: starEach es X.env := by rfl) (hpl : (backTo pos (starEach es X.env)).any (·.1) = false := by rfl)
    (ht : eval (.Call (.Attribute o m apos) (e :: es) [] pos) X.env = (do
      let ov ← eval o X.env
      standAt apos.atName
      let (f, first) ← holding [ov] (getMethod ov m pl)
      callWith pos f first (backTo pos (starEach (e :: es) X.env)) (backToKw pos (keywordEach [] X.env))) := by rfl) : PD X (.Call (.Attribute o m apos) (e :: es) [] pos) (wMeth C m cn wo wa) := by
  obtain ⟨g, fd, a, b, c⟩ := G.ex
  exact pd_meth cl a c hgd hr b ho ha hst hpl ht
theorem pd_methH0 {k : Nat} {m : Str} {ps : List Str} {cn : Cn} {pl : Sem Bool} (cl : Cls X.K C) (G : HasM X.prog X.w X.K X.mg X.base k C m ps cn) (hgd : X.A.guards = some []) (hr : Room k X.A) (ho : PD X o wo)
    (ht : eval (.Call (.Attribute o m apos) [] [] pos) X.env = (do
      let ov ← eval o X.env
      standAt apos.atName
      let (f, first) ← holding [ov] (getMethod ov m pl)
      callWith pos f first (backTo pos (starEach [] X.env)) (backToKw pos (keywordEach [] X.env))) := by rfl) : PD X (.Call (.Attribute o m apos) [] [] pos) (wMeth C m cn wo wNil) := by
  obtain ⟨g, fd, a, b, c⟩ := G.ex
  exact pd_meth0 cl a c hgd hr b ho ht
theorem pd_makeH {k : Nat} {x : Str} {ps : List Str} {cn : Cn} {p : Pos} (G : HasK X.prog X.w X.K X.mg X.base k C x ps cn) (hgd : X.A.guards = some []) (hr : Room (k + 1) X.A) (hg : Gl X x) (ha : PDA X (e :: es) wa)
    (hdb : (x == ("__debug__" : Str)) = false := by decide) (he : starEach (e :: es) X.env = (false, eval e X.env) :: starEach es X.env := by rfl) (hpl : (backTo pos (starEach es X.env)).any (·.1) = false := by rfl) : PD X (.Call (.Name x p) (e :: es) [] pos) (wMake C cn wa) := by
  obtain ⟨g, fd, a, m, b, c⟩ := G.ex
  exact pd_make a c hgd hr hg m b ha hdb he hpl
/-! ### d.setdefault(k, x) -/
abbrev wSetD (wo we wx : WE) : WE := fun dl M R => wo dl M fun p M1 => match p with
  | .v (.ref a) => (∃ ks, M1 a = some (.dic ks)) ∧ we dl M1 fun q M2 => wx dl M2 fun z M3 => ∃ ks k, M3 a = some (.dic ks) ∧ keyS q = some k ∧ ks.length < sizeLine ∧ (∀ r, valS ks k = some r → R r M3) ∧ (valS ks k = none → R z (upM M3 a (.dic (putS ks k z))))
  | _ => False
theorem pd_setD (ho : PD X o wo) (he : PD X e we) (hf : PD X f wx) (hbase : attributeBase o "setdefault" X.env (eval o X.env) = eval o X.env := by rfl)
    (few : ((backTo cpos (starEach [e, f] X.env)).all (fun x => !x.1) && (backToKw cpos (keywordEach [] X.env)).all (fun x => x.1.isSome) && decide (([e, f] : List Expr).length + ([] : List Keyword).length + (if ([] : List Keyword).isEmpty then 0 else 1) < 30)) = true := by rfl)
    (line : (apos.endLine == cpos.line) = true := by rfl) (trees : backTo cpos (starEach [e, f] X.env) = [(false, eval e X.env), (false, eval f X.env)] := by rfl) : PD X (.Call (.Attribute o "setdefault" apos) [e, f] [] cpos) (wSetD wo we wx) := by
  refine pe_imp (pe_dsetd ho he hf ⟨hbase, few, line, trees⟩) fun st H Q ⟨F, dl, M, R, so, at0, hw, po⟩ => ?_
  refine tD_to so at0 hw fun x F1 H1 p M1 h1 g1 so1 at1 i1 => ?_
  split at h1
  · rename_i ad
    obtain ⟨⟨ks, m⟩, h1⟩ := h1
    have ex : x = .ref ad := i1
    subst ex
    obtain ⟨_, kvs, q1, _⟩ := at1.mem ad _ m
    refine ⟨ad, rfl, .inl ⟨kvs, .inl q1⟩, ?_⟩
    refine tD_to so1 at1 h1 fun y F2 H2 q M2 h2 g2 so2 at2 i2 => ?_
    refine tD_to so2 at2 h2 fun z F3 H3 r M3 h3 g3 so3 at3 i3 => ?_
    obtain ⟨ks, k, m, hk, hz, hA, hB⟩ := h3
    obtain ⟨_, kvs, q1, q2⟩ := at3.mem ad _ m
    obtain ⟨z1, z2⟩ := valS_at (k := k) q2
    refine ⟨kvs, k, q1, keyS_at (is_mono g3.ex i2) hk, by rw [← q2.length]; exact hz, fun v hvv => ?_, fun hvn => ?_⟩
    · cases ev : valS ks k with
      | none => rw [z2 ev] at hvv; cases hvv
      | some r =>
        obtain ⟨v', e1, e2⟩ := z1 r ev
        rw [e1] at hvv
        cases hvv
        exact po _ F3 _ _ _ (hA r ev) ((g1.trans g2).trans g3) e2
    · cases ev : valS ks k with
      | none => exact po _ F3 _ _ _ (hB ev) (((g1.trans g2).trans g3).trans (Go.put at3 m ⟨_, upd_same, putS_at i3 q2⟩)) i3
      | some r => obtain ⟨v', e1, e2⟩ := z1 r ev; rw [e1] at hvn; cases hvn
  · exact h1.elim
/-! ### a dict that stays as it is from here on -/
theorem pe_lockF {t : TE} (h : PE X e t) : PE X e (fun σ H Q => t σ H fun v H1 => ∃ d u, v = .ref d ∧ H1 d = some u ∧ Mut (some u) ∧ ∀ od, Q v (upd H1 d (.frz od u))) := by
  refine ⟨fun pins s σ H Q I hq => thn (h.run pins s σ H _ I hq) fun u s1 ⟨v, H1, I1, rv, d, uu, ev, eu, mu, q⟩ => ?_⟩
  obtain ⟨od, I2⟩ := I1.lock eu mu
  exact ⟨v, _, I2, rv, q od⟩
abbrev wLockF (w : WE) : WE := fun dl M R => w dl M fun r M1 => match r with
  | .v (.ref p) => ∃ ks, M1 p = some (.dic ks) ∧ ∀ od kvs, R r (upM M1 p (.lok od kvs ks))
  | _ => False
theorem pd_lockF (h : PD X e we) : PD X e (wLockF we) := pe_imp (pe_lockF h) fun st H Q ⟨F, dl, M, R, so, at0, hw, po⟩ => by
  refine tD_to so at0 hw fun x F1 H1 r M1 h1 g1 so1 at1 i1 => ?_
  split at h1
  · rename_i p
    obtain ⟨ks, m, hR⟩ := h1
    have ex : x = .ref p := i1
    obtain ⟨hF, kvs, q1, q2⟩ := at1.mem p _ m
    exact ⟨p, .dK kvs, ex, q1, trivial, fun od => po _ F1 _ _ _ (hR od kvs) (g1.trans (Go.put at1 m ⟨upd_same, q2⟩)) i1⟩
  · exact h1.elim
end
end DL

set_option Elab.async false
set_option linter.all false
set_option maxRecDepth 100000
set_option maxHeartbeats 4000000
/-! EL: sorted(d.items()), the keys numbers. -/
namespace DL
open PySem PySem.Spec L2 PyProof.Rows
open Evl (Ex)
section
variable {X : Cx}
/-- tuples that were laid are tracked, as they are -/
theorem takeF {pins : List (Addr × Obj)} {σ : L2.St} {H0 : Hp} {s : Shared} {g : Heap} {tk : Nat} (I0 : Inv X pins σ H0 s) : ∀ (L : List (Addr × List V)) (H1 : Hp), Inv X pins σ H1 { s with heap := g, toks := tk } → (L.map (·.1)).Nodup →
    (∀ z ∈ L, s.heap.objs.size ≤ z.1 ∧ H1 z.1 = none ∧ z.2.length ≤ sizeLine ∧ ∃ its : List Value, Vals z.2 its ∧ g.get? z.1 = some { cls := .type "tuple", data := .seq its.toArray }) →
    ∃ H2, Inv X pins σ H2 { s with heap := g, toks := tk } ∧ (∀ b o, H1 b = some o → H2 b = some o) ∧ ∀ z ∈ L, ∃ ob : Obj, ob.dict = none ∧ H2 z.1 = some (.frz ob (.tup z.2))
  | [], H1, I1, _, _ => ⟨H1, I1, fun _ _ e => e, fun _ h => nomatch h⟩
  | z :: L, H1, I1, hn, h => by
    obtain ⟨hb, hnone, hz, its, rv, got⟩ := h z (List.mem_cons_self ..)
    have I2 : Inv X pins σ (upd H1 z.1 (.frz { cls := .type "tuple", data := .seq its.toArray } (.tup z.2))) { s with heap := g, toks := tk } :=
      I1.take (h' := g) (t' := tk) (fun b ob _ e => e) (I0.fpOk hb hnone) ⟨got, hz, its, rv, _, got, rfl, _, rfl⟩
    rw [List.map_cons, List.nodup_cons] at hn
    obtain ⟨H2, I3, kp, q⟩ := takeF I0 L _ I2 hn.2 fun c hc => by
      obtain ⟨c1, c2, c3⟩ := h c (List.mem_cons_of_mem _ hc)
      exact ⟨c1, by rw [upd_ne (fun e => hn.1 (by rw [← e]; exact List.mem_map.mpr ⟨c, hc, rfl⟩))]; exact c2, c3⟩
    refine ⟨H2, I3, fun b o e => kp b o (by rw [upd_ne (ne_of_none e hnone)]; exact e), fun c hc => ?_⟩
    rcases List.mem_cons.mp hc with rfl | hc
    · exact ⟨_, rfl, kp _ _ upd_same⟩
    · exact q c hc
abbrev Ent := Addr × (Key × V)
open Classical in
theorem sortIt_run (hc : X.calm = true) {pins : List (Addr × Obj)} {σ : L2.St} {H : Hp} {s : Shared} {Q : VK} {d r : Addr} {kvs : List (Key × V)} {ns : List Int} (I : Inv X pins σ H s) (view : s.heap.IsItemsView r d) (hd : H d = some (.dK kvs)) (hn : kvs.map (·.1) = ns.map Sum.inl) (nd : ns.Nodup)
    (q : ∀ (ord : List Ent) (H' : Hp) (p : Addr), (ord.map (·.2)).Perm kvs → ord.Pairwise (fun x y => ∀ i j, x.2.1 = .inl i → y.2.1 = .inl j → i ≤ j) → (∀ b o, H b = some o → H' b = some o) →
      (∀ z ∈ ord, H z.1 = none ∧ ∃ ob : Obj, ob.dict = none ∧ H' z.1 = some (.frz ob (.tup [kV z.2.1, z.2.2]))) → H p = none → H' p = some (.lst (ord.map fun z => V.ref z.1)) → Q (.ref p) H') :
    wpAny (model X.prog X.w) X.A (call (.builtin "sorted") [.ref r]) (EP X pins σ Q) X.xe s := by
  obtain ⟨hz, hs0, vs, kv, hdo⟩ := I.hok d _ hd
  obtain ⟨ep, hat⟩ := hdo.dictAt
  have lk : kvs.length = vs.length := Paired.length kv
  have lns : kvs.length = ns.length := by simpa using congrArg List.length hn
  refine Calls.call_function_entry PyProof.Rows.kind_sorted PyProof.Rows.plain_sorted PyProof.Rows.entry_sorted (PyProof.Rows.args_sorted1 _) ?_
  unfold Builtin.«sorted»
  refine wpAny_bind (m := checkCount "sorted" 1 1 _) (wpAny_pure ?_)
  refine wpAny_bind (PySem.W.kdx_collect (A := X.A.in1) (knd := mixKind X.prog X.w) (kvs := vs) (ep := ep) (I.ok.hd hc) view hat (by omega) fun g tk as hk hl hG => ?_)
  have lak : as.length = kvs.length := by omega
  have nda : as.Nodup := List.Pairwise.imp (fun {a b} (h : a < b) => Nat.ne_of_lt h) hG.rise
  have pr : ∀ (j : Nat) (b : Addr), as[j]? = some b → ∃ e n t y, kvs[j]? = some e ∧ ns[j]? = some n ∧ e.1 = Sum.inl n ∧ g.get? b = some { cls := .type "tuple", data := .seq #[Value.int n t, y] } ∧ RelV e.2 y := by
    intro j b hj
    obtain ⟨key, k, x, f1, f2, f3⟩ := hG.pairs j b hj
    cases ek : kvs[j]? with
    | none =>
      rw [List.getElem?_eq_none_iff] at ek
      have := (List.getElem?_eq_some_iff.mp hj).1
      omega
    | some e =>
      obtain ⟨qv, g1, g2, g3⟩ := LiI.paired_get kv ek
      rw [f1] at g1
      cases g1
      have em : (kvs.map (·.1))[j]? = some e.1 := by rw [List.getElem?_map, ek]; rfl
      rw [hn, List.getElem?_map] at em
      cases en : ns[j]? with
      | none => rw [en] at em; cases em
      | some n =>
        rw [en] at em
        have eq : Sum.inl n = e.1 := Option.some.inj em
        have eq2 : k = Sum.inl n := g2.symm.trans eq.symm
        subst eq2
        rcases keyIs_shape (show keyIs (Sum.inl n) key = true from f2) with ⟨i, t, ei, et⟩ | ⟨i, t, ei, et⟩
        · cases ei
          subst et
          exact ⟨e, n, t, x, rfl, rfl, eq.symm, f3, g3⟩
        · cases ei
  let k : Value → Int := fun v => if h : ∃ n, IsKey g v n then h.choose else 0
  have hkk : ∀ v n, IsKey g v n → k v = n := fun v n h => by
    have ex : ∃ n, IsKey g v n := ⟨n, h⟩
    show (if h : ∃ n, IsKey g v n then h.choose else 0) = n
    rw [dif_pos ex]
    obtain ⟨a, o, t, y, m, e1, e2, e3, e4⟩ := ex.choose_spec
    obtain ⟨a', o', t', y', m', e1', e2', e3', e4'⟩ := h
    rw [e1] at e1'
    cases e1'
    rw [e2] at e2'
    cases e2'
    rw [e4] at e4'
    cases e4'
    rfl
  have ky : ∀ (j : Nat) (b : Addr) (n : Int), as[j]? = some b → ns[j]? = some n → IsKey g (.ref b) n := by
    intro j b n hj hnj
    obtain ⟨e, n', t, y, _, h2, _, h4, _⟩ := pr j b hj
    rw [h2] at hnj
    cases hnj
    exact ⟨b, _, t, y, 0, rfl, h4, rfl, rfl⟩
  have at_ : ∀ v ∈ as.map Value.ref, ∃ (j : Nat) (b : Addr) (n : Int), v = .ref b ∧ as[j]? = some b ∧ ns[j]? = some n := by
    intro v hv
    obtain ⟨b, hb, rfl⟩ := List.mem_map.mp hv
    obtain ⟨j, hj⟩ := List.getElem?_of_mem hb
    obtain ⟨e, n, t, y, _, h2, _⟩ := pr j b hj
    exact ⟨j, b, n, rfl, hj, h2⟩
  have I1 : Inv X pins σ H { s with heap := g, toks := tk } := I.kept hk
  refine wpAny_bind (wpAny_newList ?_ (by rw [List.length_map, hl]; omega))
  have hat2 : (g.push (seqObj "list" (as.map Value.ref).toArray 0)).get? g.objs.size = some (seqObj "list" (as.map Value.ref).toArray 0) := Heap.get?_push_size _ rfl
  have kg : ∀ b o, g.get? b = some o → b ≠ g.objs.size ∧ (g.push (seqObj "list" (as.map Value.ref).toArray 0)).get? b = some o := fun b o e => ⟨Nat.ne_of_lt (Heap.lt_size e), Heap.get?_push_of_some _ e⟩
  show wpAny _ _ _ _ _ { s with heap := g.push (seqObj "list" (as.map Value.ref).toArray 0), toks := tk }
  refine wpAny_bind (wpAny_holding (wpAny_call_entry slot_list_sort ⟨_, hat2, rfl⟩ entry_list_sort
    (SrtO.list_sort_ord (s := { s with heap := g.push (seqObj "list" (as.map Value.ref).toArray 0), toks := tk }) (swoK k) hat2 (by rw [List.length_map]; omega) (fun two => ?_) fun out o1 o2 => ⟨_, rfl, ?_⟩) (args_list_sort _)))
  · intro g2 kp
    have hp : ∀ v ∈ as.map Value.ref, IsKey g v (k v) := fun v hv => by
      obtain ⟨j, b, n, rfl, h1, h2⟩ := at_ v hv
      have h3 := ky j b n h1 h2
      rw [hkk _ _ h3]
      exact h3
    have hp2 : ∀ v ∈ as.map Value.ref, IsKey g2 v (k v) := fun v hm => (hp v hm).keeps fun b o e c => kp b o (kg b o e).1 (kg b o e).2
    obtain ⟨fs, f1, f2, f3⟩ := keys_first fun v hm => ⟨_, hp2 v hm⟩
    refine ⟨tuples' true, fun R E2 hq => ?_, key_cmp hp2 fun v hv u hu e => ?_⟩
    · refine PySem.W.kat_kind (T := .type "int") f1 (by rw [List.length_map] at f2 two; omega) (fun f hm => ?_) (by rfl) ?_
      · obtain ⟨x, t, rfl⟩ := f3 f hm
        exact PySem.W.Looks.now
      · rw [show (Value.type "int" != Value.type "tuple") = true by decide +kernel]
        exact hq
    · obtain ⟨j, b, n, rfl, h1, h2⟩ := at_ v hv
      obtain ⟨j', b', n', rfl, h1', h2'⟩ := at_ u hu
      rw [hkk _ _ (ky _ _ _ h1 h2), hkk _ _ (ky _ _ _ h1' h2')] at e
      subst e
      obtain ⟨z1, z2⟩ := List.getElem?_eq_some_iff.mp h2
      obtain ⟨z3, z4⟩ := List.getElem?_eq_some_iff.mp h2'
      have np := List.pairwise_iff_getElem.mp nd
      have ej : j = j' := by
        rcases Nat.lt_trichotomy j j' with l | l | l
        · exact absurd (z2.trans z4.symm) (np j j' z1 z3 l)
        · exact l
        · exact absurd (z4.trans z2.symm) (np j' j z3 z1 l)
      subst ej
      rw [h1] at h1'
      cases h1'
      rfl
  · obtain ⟨ep2, hend⟩ := sortedHeap_at (vs := as.map Value.ref) (out := out.toArray) hat2
    have zf : (as.zip kvs).map (fun z => Value.ref z.1) = as.map Value.ref := by
      have e : (as.zip kvs).map (fun z => z.1) = as := List.map_fst_zip (by omega)
      conv => rhs; rw [← e]
      rw [List.map_map]
      rfl
    obtain ⟨ord, po, eo⟩ := perm_lift (fun z : Ent => Value.ref z.1) o2.perm (as.zip kvs) zf
    have kF : ∀ b o, g.get? b = some o → (sortedHeap (g.push (seqObj "list" (as.map Value.ref).toArray 0)) g.objs.size (as.map Value.ref) out.toArray).get? b = some o := fun b o e => by
      rw [sortedHeap_old (kg b o e).1 (by rw [size_push']; exact Nat.lt_succ_of_lt (Heap.lt_size e))]
      exact (kg b o e).2
    have idx : ∀ z ∈ ord, ∃ j : Nat, as[j]? = some z.1 ∧ kvs[j]? = some z.2 := by
      intro z hz
      obtain ⟨j, hj⟩ := List.getElem?_of_mem (po.mem_iff.mp hz)
      exact ⟨j, List.getElem?_zip_eq_some.mp hj⟩
    have lord : ord.length = kvs.length := by rw [po.length_eq, List.length_zip]; omega
    have eov : out = (ord.map fun z => V.ref z.1).map fun v => match v with | .ref a => Value.ref a | _ => .none := by
      rw [← eo, List.map_map]; rfl
    have rv : Vals (ord.map fun z => V.ref z.1) out := by
      rw [← eo]
      exact vals_maps (fun z : Ent => V.ref z.1) (fun z => Value.ref z.1) ord fun _ _ => rfl
    have hpn : H g.objs.size = none := I1.hok.fresh (Nat.le_refl _)
    have J : Inv X pins σ (upd H g.objs.size (.lst (ord.map fun z => V.ref z.1))) { s with heap := sortedHeap (g.push (seqObj "list" (as.map Value.ref).toArray 0)) g.objs.size (as.map Value.ref) out.toArray, toks := tk } :=
      I1.laid (t' := tk) (fun b u eb => kF b u eb) (Nat.le_refl _) ⟨by rw [List.length_map]; omega, out, ep2, rv, hend⟩
    have ndo : ((ord.map fun z => (z.1, [kV z.2.1, z.2.2])).map (·.1)).Nodup := by
      rw [List.map_map]
      have e : (as.zip kvs).map (fun z => z.1) = as := List.map_fst_zip (by omega)
      have : ((as.zip kvs).map (fun z => z.1)).Nodup := by rw [e]; exact nda
      exact (po.map (fun z => z.1)).nodup_iff.mpr this
    obtain ⟨H2, I3, kp, qt⟩ := takeF I (ord.map fun z => (z.1, [kV z.2.1, z.2.2])) _ J ndo fun z hz => by
      obtain ⟨y, hy, rfl⟩ := List.mem_map.mp hz
      obtain ⟨j, h1, h2⟩ := idx y hy
      obtain ⟨e, n, t, v, p1, p2, p3, p4, p5⟩ := pr j _ h1
      rw [h2] at p1
      cases p1
      have ab := hG.above _ (List.mem_of_getElem? h1)
      refine ⟨Nat.le_of_lt ab, ?_, by show 2 ≤ sizeLine; decide, [Value.int n t, v], .cons ?_ (.cons p5 .nil), kF _ _ p4⟩
      · rw [upd_ne (kg _ _ p4).1]
        exact I.hok.fresh (Nat.le_of_lt ab)
      · rw [p3]
        exact ⟨t, rfl⟩
    refine wpAny_pure ⟨_, rfl, .ref g.objs.size, H2, I3, rfl, q ord H2 _ ?_ ?_ (fun b o e => kp b o (by rw [upd_ne (ne_of_none e hpn)]; exact e)) (fun z hz => ⟨?_, qt _ (List.mem_map.mpr ⟨z, hz, rfl⟩)⟩) hpn (kp _ _ upd_same)⟩
    · have e : (as.zip kvs).map (·.2) = kvs := List.map_snd_zip (by omega)
      have := po.map (·.2)
      rw [e] at this
      exact this
    · have o3 : ord.Pairwise fun x y => SrtO.lt2 (ltK k) = SrtO.lt2 (ltK k) ∧ ltK k (.ref y.1) (.ref x.1) = false := by
        have o4 : out.Pairwise fun x y => ltK k y x = false := o1
        rw [← eo, List.pairwise_map] at o4
        exact o4.imp fun h => ⟨rfl, h⟩
      refine List.Pairwise.imp_of_mem (fun {x y} hx hy h i j ei ej => ?_) o3
      obtain ⟨jx, x1, x2⟩ := idx x hx
      obtain ⟨jy, y1, y2⟩ := idx y hy
      obtain ⟨e, n, t, v, p1, p2, p3, p4, p5⟩ := pr jx _ x1
      obtain ⟨e', n', t', v', p1', p2', p3', p4', p5'⟩ := pr jy _ y1
      rw [x2] at p1
      cases p1
      rw [y2] at p1'
      cases p1'
      rw [p3] at ei
      rw [p3'] at ej
      cases ei
      cases ej
      have h2 := h.2
      simp only [ltK, decide_eq_false_iff_not] at h2
      rw [hkk _ _ (ky _ _ _ x1 p2), hkk _ _ (ky _ _ _ y1 p2')] at h2
      omega
    · obtain ⟨j, h1, _⟩ := idx z hz
      exact I.hok.fresh (Nat.le_of_lt (hG.above _ (List.mem_of_getElem? h1)))
end
end DL
namespace DL
open PySem PySem.Spec L2 PyProof.Rows
open Evl (Ex)
section
variable {X : Cx} {o : Expr} {wo : WE} {p apos cpos pos : Pos}
abbrev tSortIt (te : TE) : TE := fun σ H Q => te σ H fun x H1 => ∃ (d : Addr) (kvs : List (Key × V)) (ns : List Int), x = .ref d ∧ H1 d = some (.dK kvs) ∧ kvs.map (·.1) = ns.map Sum.inl ∧ ns.Nodup ∧
  ∀ (ord : List Ent) (H' : Hp) (p : Addr), (ord.map (·.2)).Perm kvs → ord.Pairwise (fun x y => ∀ i j, x.2.1 = .inl i → y.2.1 = .inl j → i ≤ j) → (∀ b o, H1 b = some o → H' b = some o) →
      (∀ z ∈ ord, H1 z.1 = none ∧ ∃ ob : Obj, ob.dict = none ∧ H' z.1 = some (.frz ob (.tup [kV z.2.1, z.2.2]))) → H1 p = none → H' p = some (.lst (ord.map fun z => V.ref z.1)) → Q (.ref p) H'
theorem pe_sortIt {te : TE} (hc : X.calm = true) (he : PE X o te) (hg : Gl X "sorted") (hm : X.mg "sorted" = none) (hbase : attributeBase o "items" X.env (eval o X.env) = eval o X.env := by rfl) (hline : (apos.endLine == cpos.line) = true := by rfl)
    (hs : starEach [.Call (.Attribute o "items" apos) [] [] cpos] X.env = (false, eval (.Call (.Attribute o "items" apos) [] [] cpos) X.env) :: starEach [] X.env := by rfl) :
    PE X (.Call (.Name "sorted" p) [.Call (.Attribute o "items" apos) [] [] cpos] [] pos) (tSortIt te) := by
  refine ⟨fun pins s σ H Q I hq => ?_⟩
  refine PyProof.Rows.Call_ (ld_blt I hg hm (u := .builtin "sorted") (by decide +kernel) ?_)
  refine PyProof.Rows.callWith_builtin1 (PyProof.Rows.args_cons ?_ hs) hs rfl
  refine wpAny_Call_method (T := "dict") (id := "dict.items") hbase rfl hline F.plainAttrs_dict F.slot_dict_items F.type_dict_items (thn (he.run pins s σ H _ I hq) fun u s1 ⟨x, H1, I1, rx, d, kvs, ns, ex, hd, hn, nd, q⟩ => ?_)
  subst ex
  obtain rfl : u = Value.ref d := rx
  obtain ⟨hz, hs0, vs, kv, hdo⟩ := I1.hok d _ hd
  have I2 : Inv X pins σ H1 { s1 with heap := s1.heap.push { cls := .type "dict_items", data := .fields #[.ref d] } } := I1.kept (t' := s1.toks) fun b ob q => Heap.get?_push_of_some _ q
  refine ⟨hdo.typeIs, hdo.mapOf.noDict, ?_⟩
  show wpAny _ _ (callWith cpos (.builtin "dict.items") [.ref d] [] []) _ X.xe s1
  refine method_meetsIn F.slot_dict_items F.entry_dict_items rfl (PySem.evalArgs_none ⟨rfl, hdo.typeIs, F.args_dict_items_1 _, _, meets_dict_items (mixKind X.prog X.w) d hs0, ⟨vs, hdo⟩, ?_⟩)
  refine PyProof.Rows.args_nil ?_
  exact sortIt_run hc I2 ⟨_, Heap.get?_push_size _ rfl, rfl, rfl⟩ hd hn nd q
end
end DL
namespace DL
open PySem PySem.Spec L2 PyProof.Rows
open Evl (Ex)
/-- the pairs of a dict as data -/
def entD : KS → Option (List PyData)
  | [] => some []
  | (.inl i, .d x) :: r => (entD r).map (.tuple [.int i, x] :: ·)
  | _ => none
abbrev EntR (K : PySem.W.Frag) (F : Hp) (q : Key × V) (e : PyData) : Prop := ∃ i x, q.1 = .inl i ∧ e = .tuple [.int i, x] ∧ Dq K F q.2 x
theorem entD_at {K : PySem.W.Frag} {F : Hp} : ∀ {ks : KS} {kvs : List (Key × V)} {es : List PyData}, All2 (KIs K F) ks kvs → entD ks = some es → All2 (EntR K F) kvs es
  | [], _, _, .nil, e => by cases e; exact .nil
  | (.inl i, .d x) :: r, q :: _, _, .cons h t, e => by
    simp only [entD, Option.map_eq_some_iff] at e
    obtain ⟨rs, h1, rfl⟩ := e
    exact .cons ⟨i, x, h.1.symm, rfl, h.2⟩ (entD_at t h1)
  | (.inl i, .v x) :: r, _, _, _, e => by cases e
  | (.inl i, .r x) :: r, _, _, _, e => by cases e
  | (.inl i, .w x) :: r, _, _, _, e => by cases e
  | (.inr i, _) :: r, _, _, _, e => by cases e
theorem entR_keys {K : PySem.W.Frag} {F : Hp} : ∀ {kvs : List (Key × V)} {es : List PyData}, All2 (EntR K F) kvs es → kvs.map (·.1) = (es.map keyD).map Sum.inl
  | _, _, .nil => rfl
  | q :: _, e :: _, .cons h t => by
    obtain ⟨i, x, h1, h2, _⟩ := h
    rw [List.map_cons, List.map_cons, List.map_cons, entR_keys t, h1, h2]
    rfl
theorem entR_pair {K : PySem.W.Frag} {F : Hp} : ∀ {kvs : List (Key × V)} {es : List PyData}, All2 (EntR K F) kvs es → kvs.Pairwise (fun x y => ∀ i j, x.1 = .inl i → y.1 = .inl j → i ≤ j) → es.Pairwise fun a b => keyD a ≤ keyD b
  | _, _, .nil, _ => .nil
  | q :: _, e :: _, .cons h t, hp => by
    obtain ⟨i, x, h1, h2, _⟩ := h
    have hp := List.pairwise_cons.mp hp
    refine List.pairwise_cons.mpr ⟨fun z hz => ?_, entR_pair t hp.2⟩
    obtain ⟨n, hn⟩ := List.getElem?_of_mem hz
    obtain ⟨q2, g1, i2, x2, g2, g3, _⟩ := t.get' hn
    have := hp.1 q2 (List.mem_of_getElem? g1) i i2 h1 g2
    rw [h2, g3]
    exact this
theorem entR_dat {K : PySem.W.Frag} {F F' : Hp} (ex : Ex F F') : ∀ {ord : List Ent} {es : List PyData}, All2 (EntR K F) (ord.map (·.2)) es → (∀ z ∈ ord, ∃ ob : Obj, ob.dict = none ∧ F' z.1 = some (.frz ob (.tup [kV z.2.1, z.2.2]))) → DqAll K F' (ord.map fun z => V.ref z.1) es
  | [], _, .nil, _ => .nil
  | z :: ord, _, .cons h t, hh => by
    obtain ⟨i, x, h1, h2, h3⟩ := h
    obtain ⟨ob, o1, o2⟩ := hh z (List.mem_cons_self ..)
    have h1 : z.2.1 = .inl i := h1
    rw [h1] at o2
    rw [h2]
    exact .cons (.tup (.inl ⟨ob, o2, o1⟩) (.cons (.int i) (.cons (dq_mono ex h3) .nil))) (entR_dat ex t fun y hy => hh y (List.mem_cons_of_mem _ hy))
open Classical in
/-- all that is new lies in F -/
theorem Go.grown {K : PySem.W.Frag} {F H H' : Hp} {M : Mem} (at0 : At K F M H) (kp : ∀ b o, H b = some o → H' b = some o) : ∃ F', Go K F M H F' M H' ∧ ∀ b, H b = none → F' b = H' b := by
  let F' : Hp := fun b => if H b = none then H' b else F b
  have e0 : ∀ b, H b = none → F' b = H' b := fun b e => if_pos e
  have e1 : ∀ b o, H b = some o → F' b = F b := fun b o e => if_neg (by rw [e]; exact fun z => by cases z)
  have ex : Ex F F' := fun b o e => by rw [e1 b _ (at0.ex b o e)]; exact e
  refine ⟨F', ⟨ex, ⟨fun b o e => ?_, fun a o m => ?_⟩, fun a o h f m => ⟨kp a o h, by rw [e1 a o h]; exact f, m⟩⟩, e0⟩
  · cases q : H b with
    | none => rw [e0 b q] at e; exact e
    | some u => rw [e1 b u q] at e; exact kp b o (at0.ex b o e)
  · obtain ⟨f, mm⟩ := at0.mem a o m
    obtain ⟨u, hu⟩ := at0.at m
    exact ⟨by rw [e1 a u hu]; exact f, mis_mono ex (by rw [kp a u hu, hu]) mm⟩
section
variable {X : Cx} {o : Expr} {wo : WE} {p apos cpos pos : Pos}
abbrev wSortIt (wo : WE) : WE := fun dl M R => wo dl M fun r M1 => match r with
  | .v (.ref a) => ∃ ks es, M1 a = some (.dic ks) ∧ entD ks = some es ∧ (es.map keyD).Nodup ∧ R (.d (.list (srtD es))) M1
  | _ => False
theorem pd_sortIt (hc : X.calm = true) (hg : Gl X "sorted") (hm : X.mg "sorted" = none) (ho : PD X o wo) (hbase : attributeBase o "items" X.env (eval o X.env) = eval o X.env := by rfl) (hline : (apos.endLine == cpos.line) = true := by rfl)
    (hs : starEach [.Call (.Attribute o "items" apos) [] [] cpos] X.env = (false, eval (.Call (.Attribute o "items" apos) [] [] cpos) X.env) :: starEach [] X.env := by rfl) :
    PD X (.Call (.Name "sorted" p) [.Call (.Attribute o "items" apos) [] [] cpos] [] pos) (wSortIt wo) := by
  refine pe_imp (pe_sortIt hc ho hg hm hbase hline hs) fun st H Q ⟨F, dl, M, R, so, at0, hw, po⟩ => ?_
  refine tD_to so at0 hw fun x F1 H1 r M1 h1 g1 so1 at1 i1 => ?_
  split at h1
  · rename_i a
    obtain ⟨ks, es, m, he, nd, hR⟩ := h1
    have ex : x = .ref a := i1
    obtain ⟨_, kvs, q1, q2⟩ := at1.mem a _ m
    have al := entD_at q2 he
    refine ⟨a, kvs, es.map keyD, ex, q1, entR_keys al, nd, fun ord H' l hp hs kp hz hn hl => ?_⟩
    obtain ⟨es', a1, a2⟩ := perm_all2 hp al
    have e5 : es' = srtD es := srtD_one (a2.trans (srtD_perm es).symm) (entR_pair a1 (List.pairwise_map.mpr hs)) (srtD_sorted es) ((a2.map keyD).nodup_iff.mpr nd)
    subst e5
    obtain ⟨F', g, e0⟩ := Go.grown at1 kp
    refine po (.ref l) F' H' _ M1 hR (g1.trans g) (.lst (by rw [e0 l hn]; exact hl) (entR_dat g.ex a1 fun z hzz => ?_))
    obtain ⟨n1, ob, o1, o2⟩ := hz z hzz
    exact ⟨ob, o1, by rw [e0 _ n1]; exact o2⟩
  · exact h1.elim
end
end DL

set_option Elab.async false
set_option linter.all false
set_option maxRecDepth 100000
set_option maxHeartbeats 4000000
/-! EM: enumerate(a tuple). -/
namespace DL
open PySem PySem.Spec L2 PyProof.Rows
open Evl (Ex)
open Sem (wp)
set_option maxHeartbeats 1000000 in
theorem meets_enumT (l : Addr) (ys : Array Value) :
    Meets (Builtin.«enumerate.__new__» ⟨[.type "enumerate", .ref l], []⟩) (fun _ R s => s.heap.IsTuple l ys ∧
      R (.ok (.ret (.ref (s.heap.push { cls := .type "tuple_iterator", data := .fields #[.ref l, .int 0 0] }).objs.size)))
        { s with heap := (s.heap.push { cls := .type "tuple_iterator", data := .fields #[.ref l, .int 0 0] }).push { cls := .type "enumerate", data := .fields #[.none, .bool false, .ref s.heap.objs.size, rawInt 0, .none, .none] } }) :=
  .of_wp fun prog w A R s h => by
    obtain ⟨hp, g, d, tk, os⟩ := s; obtain ⟨hl, h⟩ := h
    have hsub := sub_enumerate
    have q1 : ∀ {A' : Around} {E : Value → Shared → Prop} {Q : Value → Shared → Prop}, Q (.ref hp.objs.size) ⟨hp.push { cls := .type "tuple_iterator", data := .fields #[.ref l, .int 0 0] }, g, d, tk, os⟩ → wpAny (model prog w) A' (pyIter (.ref l)) Q E ⟨hp, g, d, tk, os⟩ :=
      fun q => (begins_tuple l ys).iter prog w _ _ ⟨hp, g, d, tk, os⟩ _ hl q
    wp_walk using q1
    refine wpAny_stack_any fun st => wpAny_pure ?_
    split
    · rename_i c _ _ _ _ _
      cases (c == Value.type "enumerate")
      · wp_walk using q1
        exact ⟨_, rfl, h⟩
      · wp_walk using q1
        exact ⟨_, rfl, h⟩
    · wp_walk using q1
      exact ⟨_, rfl, h⟩
section
variable {prog : Program} {w : World} {A : Around} {E : Value → Shared → Prop} {s : Shared}
theorem call_enumT {l : Addr} {ys : Array Value} {Q : Value → Shared → Prop} (hL : s.heap.IsTuple l ys)
    (h : ∀ h', IsEnum h' (s.heap.objs.size + 1) s.heap.objs.size 0 .none → h'.IsTupleIter s.heap.objs.size l 0 → h'.objs.size = s.heap.objs.size + 2 →
      (∀ b o, s.heap.get? b = some o → h'.get? b = some o) → Q (.ref (s.heap.objs.size + 1)) { s with heap := h' }) :
    wpAny (model prog w) A (call (.type "enumerate") [.ref l]) Q E s := by
  refine callType_new F.called_enumerate (by decide) (F.typeCall_enumerate_1 _) (F.newCall_enumerate_1 _) (fun obj => F.args_object_init_2 obj _) F.entry_enumerate_new
    (meets_enumT l ys) ⟨hL, ?_⟩
  have hz : (s.heap.push { cls := .type "tuple_iterator", data := .fields #[.ref l, .int 0 0] }).objs.size = s.heap.objs.size + 1 := Heap.size_push ..
  show _ ∧ _
  rw [hz]
  have he : IsEnum ((s.heap.push { cls := .type "tuple_iterator", data := .fields #[.ref l, .int 0 0] }).push
      { cls := .type "enumerate", data := .fields #[.none, .bool false, .ref s.heap.objs.size, rawInt 0, .none, .none] }) (s.heap.objs.size + 1) s.heap.objs.size 0 .none := by
    have := Heap.get?_push_size (s.heap.push { cls := .type "tuple_iterator", data := .fields #[.ref l, .int 0 0] })
      (o := { cls := .type "enumerate", data := .fields #[.none, .bool false, .ref s.heap.objs.size, rawInt 0, .none, .none] }) rfl
    rw [hz] at this; exact this
  exact ⟨⟨_, he, rfl⟩, h _ he ⟨_, Heap.get?_push_of_some _ (Heap.get?_push_size _ rfl), rfl, rfl⟩ (by rw [Heap.size_push, hz]) fun b o x => Heap.get?_push_of_some _ (Heap.get?_push_of_some _ x)⟩
end
/-- the tuple at a, each item in a new pair -/
def IteT (K : PySem.W.Frag) (a : Addr) : It :=
  ⟨fun i H => ∃ (xs : List V) (x : V), SqT K H a xs ∧ xs[i]? = some x, fun i H v H' => ∃ T x, v = .ref T ∧ H T = none ∧ H' = upd H T (.tup [.int (i : Nat), x]) ∧ ∀ xs, SqT K H a xs → xs[i]? = some x, fun i H => ∃ xs : List V, SqT K H a xs ∧ xs.length = i⟩
theorem turn_enumT {P : Program} {w : World} {K : PySem.W.Frag} {elts : List Expr} {kk : Nat} {tpos : Pos} {a e it : Addr} (hne : a ≠ it) (hae : e ≠ a) :
    Turn P w K (.Tuple elts kk tpos) (IteT K a) [e, it] e (fun i h => (∃ old, IsEnum h e it ((i : Nat) : Int) old) ∧ h.IsTupleIter it a i ∧ e ≠ it) where
  mem := by simp
  obj := fun i h st b hb => by
    obtain ⟨⟨old, he⟩, ⟨o, ho, hc, hd⟩, _⟩ := st
    have e' : b = e ∨ b = it := by simpa using hb
    rcases e' with z | z
    · rw [z]; exact ⟨_, he, fun v q => nomatch q⟩
    · rw [z]; exact ⟨o, ho, fun v q => by rw [hd] at q; cases q⟩
  keep := fun i h h' st k => let ⟨⟨old, he⟩, hi, hne⟩ := st; ⟨⟨old, k e (by simp) _ he⟩, hi.at fun o q => k it (by simp) o q, hne⟩
  item := by
    intro X hP hw hK hc i pins s σ H E I hf st hg
    subst hP hw hK
    obtain ⟨⟨old, he⟩, hit, hei⟩ := st
    obtain ⟨xs, x, hq, hx⟩ := hg
    obtain ⟨its, rv, p, hz⟩ := I.tuple hq
    obtain ⟨u, hu, ru⟩ := rv.get hx
    have hel : e < s.heap.objs.size := Heap.lt_size he
    have hil : it < s.heap.objs.size := by obtain ⟨_, q, _⟩ := hit; exact Heap.lt_size q
    have hh : X.A.in1.handled = none := by have := I.ok.hd hc; simp [this]
    have D := Draws.tuple (prog := X.prog) (w := X.w) hh it a hne its.toArray
    have lt : i < its.toArray.size := by rw [List.size_toArray]; exact (List.getElem?_eq_some_iff.mp hu).1
    refine wpAny_pyNext_enum_itemD D he ⟨hit, p⟩ lt hei (by simp only [List.mem_cons, List.not_mem_nil, or_false, not_or]; exact ⟨hei, hae⟩) fun x' h' tk hP ho hit' hT hsz hk => ?_
    have e2 : x' = u := by
      have q : its[i]? = some x' := by simpa using hP
      rw [hu] at q
      exact (Option.some.inj q).symm
    subst e2
    refine ⟨_, rfl, wpAny_letOwnedTupleGo_enum (s := { s with heap := h', toks := tk + 1 }) ho fun h'' he' sb => ?_⟩
    have hT2 : h''.get? s.heap.objs.size = some { cls := .type "tuple", data := .seq #[.int i tk, x'] } := (sb.2 _ (Nat.ne_of_gt hel)).trans hT
    have new : ObjOk X.prog X.w (upd H s.heap.objs.size (.tup [.int (i : Nat), x])) h'' s.heap.objs.size (.tup [.int (i : Nat), x]) :=
      ⟨by show 2 ≤ sizeLine; decide, [.int i tk, x'], .cons ⟨_, rfl⟩ (.cons ru .nil), ⟨_, hT2, rfl, _, rfl⟩⟩
    have I1 : Inv X pins σ (upd H s.heap.objs.size (.tup [.int (i : Nat), x])) { s with heap := h'', toks := tk + 1 } :=
      I.turnedNew (ch := [e, it]) (fun b ob hb q => (sb.2 b (fun z => hb (by simp [z]))).trans (hk b ob (fun z => hb (by simp [z])) (fun z => hb (by simp [z])) q)) hf (Nat.le_refl _) new
    refine ⟨.ref s.heap.objs.size, _, I1, rfl, ⟨_, x, rfl, I.hok.fresh (Nat.le_refl _), rfl, fun ys hy => by rw [I.tuple_inj hy hq]; exact hx⟩, ⟨⟨x', ?_⟩, hit'.1.at fun o q => (sb.2 it (Ne.symm hei)).trans q, hei⟩, fun b hb => ?_⟩
    · have e1 : ((i + 1 : Nat) : Int) = (i : Int) + 1 := by omega
      rw [e1]; exact he'
    · have hb' : b < s.heap.objs.size := by
        have e' : b = e ∨ b = it := by simpa using hb
        rcases e' with z | z
        · rw [z]; exact hel
        · rw [z]; exact hil
      rw [upd_ne (Nat.ne_of_lt hb')]
      exact (hf b hb).1
  done := by
    intro X hP hw hK hc i pins s σ H E I hf st hg
    subst hP hw hK
    obtain ⟨⟨old, he⟩, hit, hei⟩ := st
    obtain ⟨xs, hq, hx⟩ := hg
    obtain ⟨its, rv, p, hz⟩ := I.tuple hq
    obtain ⟨f0, f1, f2, f3, f4, f5⟩ := hf it (by simp)
    have hl := rv.length
    have hh : X.A.in1.handled = none := by have := I.ok.hd hc; simp [this]
    have D := Draws.tuple (prog := X.prog) (w := X.w) hh it a hne its.toArray
    have ei : i = its.toArray.size := by rw [List.size_toArray, ← hl]; exact hx.symm
    subst ei
    exact wpAny_pyNext_enum_endD D he ⟨hit, p⟩ fun h' eb => ⟨rfl, I.turned (t' := s.toks) (fun b o hb q => eb b o hb q) f0 f1 f3 f4 f5⟩
  self := fun A i s Q E st h => let ⟨⟨_, he⟩, _⟩ := st; wpAny_pyIter_enum he h
section
variable {X : Cx} {e : Expr} {wa : WA} {p pos tpos : Pos} {elts : List Expr} {kk : Nat}
abbrev wiEnumT (wa : WA) : WI := fun dl M T => wa dl M fun rs M1 => match rs with
  | [.d (.tuple ds)] => T (enumS ds) C0 M1
  | _ => False
theorem pi_enumT {ta : TA} (hg : Gl X "enumerate") (hm : X.mg "enumerate" = none) (ha : PA X [e] ta) (hs : starEach [e] X.env = [(false, eval e X.env)] := by rfl) :
    PI X (.Tuple elts kk tpos) (.Call (.Name "enumerate" p) [e] [] pos) (fun σ H R => ta σ H fun vs H1 => ∃ a xs, vs = [.ref a] ∧ SqT X.K H1 a xs ∧ R (IteT X.K a) H1) := by
  refine ⟨fun pins s σ H R I h => ?_⟩
  refine Call_ (ld_blt I hg hm boot_enumerate (PyProof.Rows.callWith_type1 (thn (ha.run pos pins s σ H _ I h) fun us s1 ⟨vs, H1, I1, r1, q1⟩ => ?_) hs rfl))
  obtain ⟨a, xs, ex, hq, q⟩ := q1
  subst ex
  cases r1 with
  | cons r rr =>
    cases rr
    cases r
    obtain ⟨its, rv, p', hz⟩ := I1.tuple hq
    have la : (a : Nat) < s1.heap.objs.size := by obtain ⟨o2, ho2, _⟩ := id p'; exact Heap.lt_size ho2
    refine call_enumT (show s1.heap.IsTuple a its.toArray from p') fun h' he hit hsz hk => wpAny_pyIter_enum he ?_
    have I2 : Inv X pins σ H1 { s1 with heap := h' } := I1.kept (t' := s1.toks) hk
    refine ⟨s1.heap.objs.size + 1, [s1.heap.objs.size + 1, s1.heap.objs.size], _, _, H1, rfl, I2, turn_enumT (a := a) (e := s1.heap.objs.size + 1) (it := s1.heap.objs.size) (Nat.ne_of_lt la) (fun z => nl2 (k := 1) la z.symm), ⟨⟨.none, he⟩, hit, Nat.succ_ne_self _⟩, fun b hb => ?_, q⟩
    have e' : b = s1.heap.objs.size + 1 ∨ b = s1.heap.objs.size := by simpa using hb
    have hle : s1.heap.objs.size ≤ b := by
      rcases e' with z | z
      · rw [z]; exact Nat.le_add_right _ _
      · rw [z]; exact Nat.le_refl _
    exact I1.fpOk hle (I1.hok.fresh hle)
theorem pdi_enumT (hg : Gl X "enumerate") (hm : X.mg "enumerate" = none) (ha : PDA X [e] wa) (hs : starEach [e] X.env = [(false, eval e X.env)] := by rfl) : PDI X (.Tuple elts kk tpos) (.Call (.Name "enumerate" p) [e] [] pos) (wiEnumT wa) :=
  pi_imp (pi_enumT hg hm ha hs) fun st H Q ⟨F, dl, M, T, so, at0, hw, po⟩ =>
    tDA_to so at0 hw fun vs F1 H1 rs M1 h1 g1 so1 at1 i1 => by
      split at h1
      · rename_i ds
        obtain ⟨v, rfl, i2⟩ := isAll1 i1
        obtain ⟨a, us, rfl, q1, q2⟩ := sqT_at at1 i2
        have lb : ∀ F M H, Evl.Ex F1 F → At X.K F M H → ∃ us, SqT X.K H a us ∧ DqAll X.K F us ds := fun F M H e at' => by
          obtain ⟨c, zs, e2, z1, z2⟩ := sqT_at at' (dq_mono e i2)
          cases e2
          exact ⟨zs, z1, z2⟩
        refine ⟨a, us, rfl, q1, po F1 M1 H1 _ _ _ h1 g1 ⟨fun F M H i e at0 c hi => ?_, fun F M H i x H' r e at0 c y hr => ?_, fun F M H e at0 c => ?_⟩⟩
        · rw [enumS_len] at hi
          obtain ⟨us, s2, q4⟩ := lb F M H e at0
          obtain ⟨v, z1, z2⟩ := dqAll_get (i := i) q4 (List.getElem?_eq_getElem hi)
          exact ⟨us, v, s2, z1⟩
        · obtain ⟨us, s2, q4⟩ := lb F M H e at0
          obtain ⟨Tp, xv, rfl, hT, rfl, hx⟩ := y
          obtain ⟨d, hd, rfl⟩ := enumS_get hr
          obtain ⟨v, z1, z2⟩ := dqAll_get (i := i) q4 hd
          have hxv := hx us s2
          rw [z1] at hxv
          obtain rfl : v = xv := Option.some.inj hxv
          have g := Go.laid at0 (o := .tup [.int (i : Int), v]) hT
          exact ⟨_, g, _, _, rfl, .inl (.inl upd_same), .cons (.int _) (.cons (dq_mono g.ex z2) .nil)⟩
        · obtain ⟨us, s2, q4⟩ := lb F M H e at0
          rw [enumS_len]
          exact ⟨us, s2, by rw [dqAll_len q4]⟩
      · exact h1.elim
end
end DL

set_option Elab.async false
set_option linter.all false
set_option maxRecDepth 100000
set_option maxHeartbeats 4000000
/-! EN: ends: nested constants, classes, methods as the top has left them. -/
namespace DL
open PySem PySem.Spec L2
theorem dk_tup {K : PySem.W.Frag} {a : Addr} {n : Nat} {sl : Array (Option Value)} {its : Array Value} {vs : List V} {ds : List PyData} (hk : K.lookup a = some ⟨.type "tuple", none, .seq its n, sl⟩) (hv : Vals vs its.toList) (hz : its.size ≤ sizeLine)
    (h : ∀ F, DqAll K F vs ds) : ∀ F, Dq K F (.ref a) (.tuple ds) := fun F => .tup (.inr ⟨_, its, n, hk, rfl, rfl, hz, hv, rfl⟩) (h F)
section
variable {X : Cx}
abbrev gMin2 : WCl := fun rs M R => match rs with
  | [.d (.int i), .d (.int j)] => R (.i (if j < i then j else i)) M
  | _ => False
theorem c_min2 (hc : X.calm = true) : CaD X (.builtin "min") gMin2 := caD_of fun F H M vs rs R Q at0 i1 h1 po => by
  unfold gMin2 at h1
  split at h1
  · obtain ⟨v, u, rfl, i2, i3⟩ := isAll2 i1
    exact ⟨_, call_min2 hc, _, _, by rw [dq_int i2, dq_int i3], po _ F H _ M h1 (Go.refl at0) (.int _)⟩
  · exact h1.elim
end
/-- a method of the text -/
def MethAt (K : PySem.W.Frag) (C : Addr) (m qual : Str) (st : Stmt) : Prop := ∃ f fd, Meth K C m f ∧ Fun K m qual st f fd
theorem meth_mk {K : PySem.W.Frag} {C : Addr} {m qual : Str} {st : Stmt} {f : Addr} {od an : Option Addr} {sl : Array (Option Value)} {oc kV doc pm cd ct : Value} (a : PySem.W.findIn K (.ref C) m = some (some (.ref f))) (i : PySem.W.isFn K (.ref f) = true)
    (l : K.lookup f = some ⟨oc, od, .func (PySem.W.fnOf m qual (defArgs st) (defBody st) (defScope st) .none kV doc pm an cd ct), sl⟩) (c : PySem.W.codeIn K cd qual = true) (k : PySem.W.keepIn K (.ref f) = true) : MethAt K C m qual st := ⟨f, _, ⟨a, i, k⟩, fun_mk (st := st) l c k⟩
/-- __init__ with one default -/
def InitD (K : PySem.W.Frag) (C : Addr) (qual : Str) (st : Stmt) : Prop := ∃ f fd E, Mk K C f ∧ FunD K "__init__" qual (defArgs st) (defBody st) (defScope st) [V.ref E] [] f fd
theorem initD_mk {K : PySem.W.Frag} {C : Addr} {qual : Str} {st : Stmt} {f T E : Addr} {od an odT : Option Addr} {sl slT : Array (Option Value)} {oc kV doc pm cd ct ocT : Value} {nT : Nat} {ws : Array Value} (mk : PySem.W.makesIn K C = true) (kc : PySem.W.keepIn K (.ref C) = true)
    (a : PySem.W.findIn K (.ref C) "__init__" = some (some (.ref f))) (i : PySem.W.isFn K (.ref f) = true)
    (l : K.lookup f = some ⟨oc, od, .func (PySem.W.fnOf "__init__" qual (defArgs st) (defBody st) (defScope st) (.ref T) kV doc pm an cd ct), sl⟩) (c : PySem.W.codeIn K cd qual = true) (k : PySem.W.keepIn K (.ref f) = true)
    (lT : K.lookup T = some ⟨ocT, odT, .seq ws nT, slT⟩) (vT : Vals [V.ref E] ws.toList) : InitD K C qual st :=
  ⟨f, _, E, ⟨mk, a, i, kc⟩, ⟨⟨oc, od, .ref T, kV, doc, pm, an, cd, ct, sl, rfl, l, c, .inr ⟨by simp, T, _, ws.toList, nT, rfl, lT, by simp, vT⟩, .inl rfl⟩, k⟩⟩
/-- __init__ without defaults -/
def InitA (K : PySem.W.Frag) (C : Addr) (qual : Str) (st : Stmt) : Prop := ∃ f fd, Mk K C f ∧ Fun K "__init__" qual st f fd
theorem initA_mk {K : PySem.W.Frag} {C : Addr} {qual : Str} {st : Stmt} {f : Addr} {od an : Option Addr} {sl : Array (Option Value)} {oc kV doc pm cd ct : Value} (mk : PySem.W.makesIn K C = true) (kc : PySem.W.keepIn K (.ref C) = true)
    (a : PySem.W.findIn K (.ref C) "__init__" = some (some (.ref f))) (i : PySem.W.isFn K (.ref f) = true)
    (l : K.lookup f = some ⟨oc, od, .func (PySem.W.fnOf "__init__" qual (defArgs st) (defBody st) (defScope st) .none kV doc pm an cd ct), sl⟩) (c : PySem.W.codeIn K cd qual = true) (k : PySem.W.keepIn K (.ref f) = true) : InitA K C qual st := ⟨f, _, ⟨mk, a, i, kc⟩, fun_mk (st := st) l c k⟩
section
variable {P : Program} {w : World} {K : PySem.W.Frag} {mg : Str → Option Value} {base : Heap} {k : Nat} {C : Addr} {m qual x : Str} {st : Stmt} {ps : List Str} {cn : Cn}
theorem HasM.of {f : Addr} {fd : FuncData} (hm : Meth K C m f) (Fu : Fun K m qual st f fd)
    (hb : ∀ (kV doc pm : Value) (an : Option Addr) (cdv ct : Value) (us : List Value), us.length = ps.length → bindArgs (PySem.W.fnOf m qual (defArgs st) (defBody st) (defScope st) .none kV doc pm an cdv ct) ⟨us, []⟩ = pure (ps.zip us))
    (G : FnD P w K mg base k f fd ps cn) : HasM P w K mg base k C m ps cn := ⟨f, fd, hm, Fu.binds hb, G⟩
theorem HasK.of {f : Addr} {fd : FuncData} (hm : Mk K C f) (hx : mg x = some (.ref C)) (Fu : Fun K "__init__" qual st f fd)
    (hb : ∀ (kV doc pm : Value) (an : Option Addr) (cdv ct : Value) (us : List Value), us.length = ps.length → bindArgs (PySem.W.fnOf "__init__" qual (defArgs st) (defBody st) (defScope st) .none kV doc pm an cdv ct) ⟨us, []⟩ = pure (ps.zip us))
    (G : FnD P w K mg base k f fd ps cn) : HasK P w K mg base k C x ps cn := ⟨f, fd, hm, hx, Fu.binds hb, G⟩
theorem HasK.ofD {f E : Addr} {fd : FuncData} (n : Nat) (hm : Mk K C f) (hx : mg x = some (.ref C)) (Fu : FunD K "__init__" qual (defArgs st) (defBody st) (defScope st) [V.ref E] [] f fd)
    (hb : ∀ (T : Addr) (kV doc pm : Value) (an : Option Addr) (cdv ct : Value) (us its : List Value), us.length = n → its.length = 1 → ∃ k, bindArgs (PySem.W.fnOf "__init__" qual (defArgs st) (defBody st) (defScope st) (.ref T) kV doc pm an cdv ct) ⟨us, []⟩ = seqItems? (.ref T) >>= k ∧ k (some its.toArray) = pure (ps.zip (us ++ its.drop 1))) (hn : n = ps.length)
    (G : FnD P w K mg base k f fd ps cn) : HasK P w K mg base k C x ps cn := by
  obtain ⟨ds, v, b⟩ := Fu.binds1 (ps := ps) n 1 (by simp) (by simpa using hn) hb
  cases v
  exact ⟨f, fd, hm, hx, b, G⟩
end
end DL

set_option Elab.async false
set_option linter.all false
set_option maxRecDepth 100000
set_option maxHeartbeats 4000000
/-! EO: tuples with parts that change; del d[k]; a tuple from its end; the greatest of pairs; C(). -/
namespace DL
open PySem PySem.Spec PyProof.Rows L2
open Evl (Ex)
section
variable {X : Cx} {o e f i : Expr} {wo we wx wi : WE} {pos pos' apos cpos tpos : Pos} {C : Addr} {es : List Expr} {wa : WA}
/-! ### (a, b, ..) with parts that change -/
abbrev wTupM (wa : WA) : WE := fun dl M R => wa dl M fun rs M1 => rs.length ≤ sizeLine ∧ ∀ p, M1 p = none → R (.v (.ref p)) (upM M1 p (.tup rs))
theorem pd_tupM {wr : WA} {k : Nat} (h : PDA X es wr) : PD X (.Tuple es k pos) (wTupM wr) := by
  refine pe_imp (pe_tupF h) fun st H Q ⟨F, dl, M, R, so, at0, hw, po⟩ => ?_
  refine tDA_to so at0 hw fun vs F1 H1 rs M1 h1 g1 so1 at1 i1 => ?_
  obtain ⟨hz, hR⟩ := h1
  exact ⟨by rw [← i1.length]; exact hz, fun p o ho hp => po _ F1 _ _ _ (hR p (at1.freeM hp)) (g1.trans (Go.new at1 hp ⟨o, vs, upd_same, ho, i1⟩)) rfl⟩
theorem tupM_at {K : PySem.W.Frag} {F H : Hp} {M : Mem} (at0 : At K F M H) {p : Addr} {ss : List Sl} (h : M p = some (.tup ss)) : ∃ vs, SqT K H p vs ∧ IsAll K F ss vs := by
  obtain ⟨_, o, vs, q1, _, q2⟩ := at0.mem p _ h
  exact ⟨vs, .inl (.inr ⟨o, q1⟩), q2⟩
abbrev gIxT : W2 := fun p q M R => match q with
  | .d (.int i) => ∃ a ss r, p = .v (.ref a) ∧ M a = some (.tup ss) ∧ atI ss i = some r ∧ R r M
  | _ => False
theorem gIxT_to {p q : Sl} {M : Mem} {R : RK} (h : gIxT p q M R) : ∃ i a ss r, q = .i i ∧ p = .v (.ref a) ∧ M a = some (.tup ss) ∧ atI ss i = some r ∧ R r M := by
  unfold gIxT at h
  split at h
  · obtain ⟨a, ss, r, h⟩ := h
    exact ⟨_, a, ss, r, rfl, h⟩
  · exact h.elim
theorem pd_ixT (ha : PD X o wo) (hb : PD X i wi) (hs : PlainIx i := by exact fun _ _ => rfl) : PD X (.Subscript o i pos) (wOp gIxT wo wi) := by
  refine pe_imp (pe_ix (ix_list.or ix_tup) ha hb hs) fun st H Q h => tD_op (fun F H M x y p q R Q at0 h1 h2 h3 po => ?_) h
  obtain ⟨i, a, ss, r, rfl, rfl, m, e2, hR⟩ := gIxT_to h3
  obtain ⟨vs, hsq, hall⟩ := tupM_at at0 m
  obtain ⟨v, g1, g2⟩ := atI_all hall e2
  have ex : x = .ref a := h1
  exact .inr ⟨a, vs, i, v, ex, dq_int h2, hsq, g1, po v F H r M hR (Go.refl at0) g2⟩
/-- a, b, .. = such a tuple -/
abbrev gTupM' (n : Nat) (ws : WGs) : WG := fun r dl M R => ∃ a ss, r = .v (.ref a) ∧ M a = some (.tup ss) ∧ ss.length = n ∧ ws ss dl M R
theorem pdg_tupM {k n : Nat} {ws : WGs} (hc : X.calm = true) (h : PDGs X es ws) (hn : (assignEach es X.env).length = n := by rfl) (hst : (assignEach es X.env).findIdx? (·.1) = none := by rfl) : PDG X (.Tuple es k pos) (gTupM' n ws) :=
  pg_imp (pg_tup hc h hn hst) fun v st H Q ⟨F, dl, M, r, R, so, at0, i1, hw, po⟩ => by
    obtain ⟨a, ss, rfl, m, hl, hw⟩ := hw
    obtain ⟨vs, hsq, hall⟩ := tupM_at at0 m
    have ev : v = .ref a := i1
    exact ⟨a, vs, ev, hsq, by rw [← hall.length]; exact hl, F, dl, M, _, _, so, at0, hall, hw, po⟩
/-! ### del d[k] -/
abbrev wDDel (wo wi : WE) : WS := fun P dl M => wo dl M fun p M1 => wi dl M1 fun q M2 => match p with
  | .v (.ref a) => ∃ ks k, M2 a = some (.dic ks) ∧ keyS q = some k ∧ (valS ks k).isSome = true ∧ P.nx dl (upM M2 a (.dic (dropS ks k)))
  | _ => False
theorem pds_ddel (ho : PD X o wo) (hi : PD X i wi) : PDS X (.Delete [.Subscript o i tpos] pos) (wDDel wo wi) := by
  refine ps_imp (ps_ddel ho hi) fun D st H ⟨F, dl, M, P, so, at0, hw, po⟩ => ?_
  refine tD_to so at0 hw fun x F1 H1 p M1 h1 g1 so1 at1 i1 => ?_
  refine tD_to so1 at1 h1 fun y F2 H2 q M2 h2 g2 so2 at2 i2 => ?_
  split at h2
  · rename_i ad
    obtain ⟨ks, k, m, hk, hz, hR⟩ := h2
    have ex : x = .ref ad := i1
    obtain ⟨_, kvs, q1, q2⟩ := at2.mem ad _ m
    obtain ⟨z1, _⟩ := valS_at (k := k) q2
    obtain ⟨r, hr⟩ := Option.isSome_iff_exists.mp hz
    obtain ⟨v, e1, _⟩ := z1 r hr
    exact ⟨ad, kvs, k, ex, q1, keyS_at i2 hk, by rw [e1]; rfl, po.nx _ F2 _ _ _ hR ((g1.trans g2).trans (Go.put at2 m ⟨_, upd_same, dropS_at q2⟩)) so2⟩
  · exact h2.elim
/-! ### C() -/
theorem pd_makeH0 {k : Nat} {x : Str} {ps : List Str} {cn : Cn} {p : Pos} (G : HasK X.prog X.w X.K X.mg X.base k C x ps cn) (hgd : X.A.guards = some []) (hr : Room (k + 1) X.A) (hg : Gl X x)
    (hdb : (x == ("__debug__" : Str)) = false := by decide) (he : starEach [] X.env = [] := by rfl) : PD X (.Call (.Name x p) [] [] pos) (wMake C cn wNil) := by
  obtain ⟨g, fd, M, hm, hb, G⟩ := G.ex
  refine ⟨fun pins s st H Q I h => ?_⟩
  obtain ⟨F, dl, M0, R, so, at0, hw, po⟩ := h
  refine wpAny_Call_Name_kw (ld_glob I hg hm ?_ hdb)
  refine PySem.W.callWith_K0 I.kIn M.kp (run_makeD M G hgd hr hb I .nil fun x dx hx hdx hne => ?_)
  have f1 := at0.freeF hdx
  have m1 := at0.freeM hdx
  have a2 := at0.hid (o := .own x) f1 m1
  have hx2 : upd H dx (.own x) x = none := by rw [upd_ne (Ne.symm hne)]; exact hx
  have g2 : Go X.K F M0 H F M0 (upd H dx (.own x)) := ⟨Ex.refl _, a2, fun b u z1 z2 z3 => ⟨by rw [upd_ne (ne_of_none z1 hdx)]; exact z1, z2, z3⟩⟩
  have g3 := Go.new (o := .ob C []) (ho := .ins C dx []) a2 hx2 ⟨dx, [], upd_same, .nil⟩
  exact ⟨F, upM M0 x (.ob C []), [.v (.ref x)], _, .cons rfl .nil, g3.at', hw x (at0.freeM hx), fun v F' H' r M' ⟨er, hR⟩ g i => by
    subst er
    exact ⟨dq_non i, po _ F' H' _ M' hR ((g2.trans g3).trans g) rfl⟩⟩
end
end DL

set_option Elab.async false
set_option linter.all false
set_option maxRecDepth 100000
set_option maxHeartbeats 4000000
/-! EP: a tuple read from its end (t[::-1]); the greatest of a list of pairs. -/
namespace DL
open PySem PySem.Spec PyProof.Rows L2
open Evl (Ex)
section
variable {prog : Program} {w : World} {A : Around} {E : Value → Shared → Prop} {s : Shared}
theorem back_places (n : Nat) : Builtin.Slice.slicePlaces ((n : Int) - 1) (-1) (-1) = n := by
  unfold Builtin.Slice.slicePlaces
  simp only [show ¬ ((-1 : Int) > 0) by omega, if_false, Int.neg_neg, Int.ediv_one]
  split <;> omega
theorem fm_congr {A B : Type} {f g : A → Option B} : ∀ {l : List A}, (∀ a ∈ l, f a = g a) → l.filterMap f = l.filterMap g
  | [], _ => rfl
  | a :: r, h => by
    have ih := fm_congr (l := r) fun b hb => h b (List.mem_cons_of_mem _ hb)
    rw [List.filterMap_cons, List.filterMap_cons, h a List.mem_cons_self, ih]
theorem fm_get {A : Type} (l : List A) : (List.range l.length).filterMap (fun m => l[m]?) = l := by
  suffices hs : ∀ (l p : List A), (List.range' p.length l.length).filterMap (fun m => (p ++ l)[m]?) = l from by
    have := hs l []
    rw [List.range_eq_range']
    exact this
  intro l
  induction l with
  | nil => intro p; rfl
  | cons a r ih =>
    intro p
    rw [List.length_cons, List.range'_succ, List.filterMap_cons]
    have e : (p ++ a :: r)[p.length]? = some a := by rw [List.getElem?_append_right (Nat.le_refl _), Nat.sub_self]; rfl
    rw [e]
    have := ih (p ++ [a])
    rw [List.length_append, List.append_assoc] at this
    rw [show p.length + 1 = p.length + [a].length from rfl, show p ++ a :: r = p ++ ([a] ++ r) from rfl, this]
theorem back_pick (xs : Array Value) : ((List.range xs.size).filterMap fun (m : Nat) => xs[(((xs.size : Int) - 1) + (m : Int) * (-1)).toNat]?).toArray = xs.toList.reverse.toArray := by
  have e : ((List.range xs.size).filterMap fun (m : Nat) => xs[(((xs.size : Int) - 1) + (m : Int) * (-1)).toNat]?) = xs.toList.reverse := by
    have h1 : ∀ m ∈ List.range xs.size, xs[(((xs.size : Int) - 1) + (m : Int) * (-1)).toNat]? = xs.toList.reverse[m]? := fun m hm => by
      have hm := List.mem_range.mp hm
      rw [List.getElem?_reverse (by simpa using hm), Array.getElem?_toList, Array.length_toList]
      congr 1
      omega
    rw [fm_congr h1]
    have h3 := fm_get xs.toList.reverse
    rwa [List.length_reverse, Array.length_toList] at h3
  rw [e]
theorem back_part {v : Value} {o : Option Int} {Q : Option Int → Shared → Prop} (p : IsPart v o) (h : Q o s) : wpAny (model prog w) A (Builtin.Slice.slicePartIndex v) Q E s := HT.slicePart_ p h
theorem back_applied {sl : Addr} {vl vu vs : Value} {n : Nat} {Q : Int × Int × Nat → Shared → Prop} (hs : s.heap.IsSliceOf sl vl vu vs) (pl : IsPart vl none) (pu : IsPart vu none) (ps : IsPart vs (some (-1)))
    (h : Q ((n : Int) - 1, -1, n) s) : wpAny (model prog w) A (Builtin.Slice.sliceApplied (.ref sl) (pure (n : Int))) Q E s := by
  obtain ⟨ob, h1, h2, h3⟩ := id hs
  unfold Builtin.Slice.sliceApplied Builtin.Slice.sliceFields
  refine wpAny_bind (wpAny_bind (wpAny_field h1 h3 (x := vl) rfl (wpAny_bind (wpAny_field h1 h3 (x := vu) rfl (wpAny_bind (wpAny_field h1 h3 (x := vs) rfl (wpAny_pure ?_)))))))
  refine wpAny_bind (back_part ps ?_)
  show wpAny _ _ (if ((-1 : Int) == 0) = true then _ else _) _ _ s
  rw [if_neg (by decide)]
  refine wpAny_bind (back_part pl (wpAny_bind (back_part pu (wpAny_bind (wpAny_pure ?_)))))
  show wpAny _ _ (match Builtin.Slice.sliceAdjust none none (-1) (n : Int) with | (lo, hi) => pure (lo, (-1 : Int), Builtin.Slice.slicePlaces lo hi (-1))) _ _ s
  show wpAny _ _ (pure ((n : Int) - 1, (-1 : Int), Builtin.Slice.slicePlaces ((n : Int) - 1) (-1) (-1))) _ _ s
  rw [back_places]
  exact wpAny_pure h
theorem back_item {t sl : Addr} {items : Array Value} {vl vu vs : Value} {Q : Value → Shared → Prop} (ht : IsTup s.heap t items) (hs : s.heap.IsSliceOf sl vl vu vs) (pl : IsPart vl none) (pu : IsPart vu none) (ps : IsPart vs (some (-1)))
    (h : Q (.ref s.heap.objs.size) { s with heap := s.heap.push { cls := .type "tuple", data := .seq items.toList.reverse.toArray } }) (hz : items.size ≤ sizeLine) : wpAny (model prog w) A (getItem (.ref t) (.ref sl)) Q E s := by
  have fits : sizeOk (.seq items.toList.reverse.toArray) := by
    show items.toList.reverse.toArray.size ≤ sizeLine
    simpa using hz
  obtain ⟨ob, h1, h2, h3⟩ := id hs
  have tsl : s.TypeIs (.ref sl) "slice" := ⟨ob, h1, h2⟩
  unfold getItem
  try with_reducible refine wpAny_holding ?_
  first | refine wpAny_bind (wpAny_pure ?_) | skip
  refine wpAny_bind (wpAny_sequenceKey ht.typeIs (by decide) ?_)
  refine wpAny_bind (wpAny_callSpecial?_slot (name := Str.ofString "__getitem__") ht.typeIs PyProof.Rows.slot_tuple_getitem (wpAny_call_entry PyProof.Rows.slot_tuple_getitem ht.typeIs entry_tuple_getitem ?_ (args_tuple_getitem _ _)))
  show wpAny _ _ (Builtin.Tuple.tupleItemsOf (.ref t) >>= _) _ _ s
  refine wpAny_bind (tupleItemsOf_ ht (wpAny_bind (wpAny_typeOf tsl ?_)))
  rw [if_pos (by decide)]
  refine wpAny_bind (back_applied (n := items.size) hs pl pu ps ?_)
  show wpAny _ _ (if ((((items.size : Nat) : Int) - 1 == 0 && (-1 : Int) == 1) && items.size == items.size) = true then _ else _) _ _ s
  rw [if_neg (by rw [show ((-1 : Int) == 1) = false from rfl, Bool.and_false, Bool.false_and]; exact Bool.false_ne_true), back_pick]
  first
    | exact wpAny_bind (m := Builtin.Tuple.tupleExact _) (wpAny_newObj_type (wpAny_pure ⟨_, rfl, wpAny_pure h⟩) fits)
    | exact wpAny_bind (m := Builtin.Tuple.tupleExact _) (wpAny_newObj_type (wpAny_bind (wpAny_pure (wpAny_pure ⟨_, rfl, wpAny_pure h⟩))) fits)
    | exact wpAny_bind (wpAny_bind (m := Builtin.Tuple.tupleExact _) (wpAny_newObj_type (wpAny_pure (wpAny_pure ⟨_, rfl, wpAny_pure h⟩)) fits))
end
section
variable {X : Cx} {e : Expr} {we : WE} {pos : Pos}
abbrev wRevT (we : WE) : WE := fun dl M R => we dl M fun r M1 => match r with
  | .d (.tuple ds) => R (.d (.tuple ds.reverse)) M1
  | _ => False
theorem dqAll_rev {K : PySem.W.Frag} {F : Hp} : ∀ {vs : List V} {ds : List PyData}, DqAll K F vs ds → DqAll K F vs.reverse ds.reverse := fun {vs ds} h => by
  have h1 := isAll_d h
  have h2 : ∀ {A B : Type} {R : A → B → Prop} {as : List A} {bs : List B}, All2 R as bs → All2 R as.reverse bs.reverse := fun {A B R as bs} h => by
    induction h with
    | nil => exact .nil
    | cons a _ ih => rw [List.reverse_cons, List.reverse_cons]; exact ih.append (.cons a .nil)
  have h3 := h2 h1
  rw [← List.map_reverse] at h3
  exact dqAll_of h3
theorem pd_revT {k : Nat} {p1 p2 p3 : Pos} (he : PD X e we) : PD X (.Subscript e (.Slice none none (some (.UnaryOp .USub (.Constant (.int 1) k p1) p2)) p3) pos) (wRevT we) := by
  refine ⟨fun pins s st H Q I ⟨F, dl, M, R, so, at0, hw, po⟩ => Subscript_ (thn (he.run pins s st H (fun x H1 => ∃ a xs, x = .ref a ∧ SqT X.K H1 a xs ∧ ∀ p o, o.dict = none → H1 p = none → Q (.ref p) (upd H1 p (.frz o (.tup xs.reverse)))) I (tD_to so at0 hw fun x F1 H1 r M1 h1 g1 so1 at1 i1 => ?_)) fun v s1 ⟨x, H1, I1, r1, a, xs, ex, hx, q⟩ => ?_)⟩
  · split at h1
    · obtain ⟨a, vs, rfl, q1, q2⟩ := sqT_at at1 i1
      exact ⟨a, vs, rfl, q1, fun p o ho hp => po_dat at1 (po.mono g1) hp h1 fun F' ex hh => .tup (.inl ⟨o, hh, ho⟩) (dqAll_mono ex (dqAll_rev q2))⟩
    · exact h1.elim
  · subst ex
    cases r1
    have neg : PO X (some (.UnaryOp .USub (.Constant (.int 1) k p1) p2)) (tPart (tUn (rU fun i => .int (-i)) (tC (.int 1)))) := po_some (pe_un un_neg pe_int)
    refine wpAny_Slice (thn (po_none.run pins s1 st H1 (fun o G => o = none ∧ G = H1) I1 ⟨rfl, rfl⟩) fun vl s2 ⟨o1, H2, I2, pl, el, e2⟩ => ?_)
    subst el e2
    refine thn (po_none.run pins s2 st H2 (fun o G => o = none ∧ G = H2) I2 ⟨rfl, rfl⟩) fun vu s3 ⟨o2, H3, I3, pu, eu, e3⟩ => ?_
    subst eu e3
    refine thn (neg.run pins s3 st H3 (fun o G => o = some (-1) ∧ G = H3) I3 ⟨1, rfl, -1, rfl, rfl, rfl⟩) fun vs s4 ⟨o3, H4, I4, ps, eo, e4⟩ => ?_
    subst eo e4
    have I5 : Inv X pins st H4 { s4 with heap := s4.heap.push { cls := .type "slice", data := .fields #[vl, vu, vs] } } := I4.kept (t' := s4.toks) fun b ob z => Heap.get?_push_of_some _ z
    obtain ⟨its, rv, ht, hz⟩ := I5.tuple hx
    have hlen := rv.length
    show wpAny (model X.prog X.w) X.A (subscriptTail e (.Slice none none (some (.UnaryOp .USub (.Constant (.int 1) k p1) p2)) p3) (.ref a) (.ref s4.heap.objs.size)) (EP X pins st Q) X.xe { s4 with heap := s4.heap.push { cls := .type "slice", data := .fields #[vl, vu, vs] } }
    refine tail_any (ops := [.ref a, .ref s4.heap.objs.size]) ht.typeIs (PyProof.Rows.slot_tuple_getitem.lookup) ?_ (by with_unfolding_all rfl)
    refine back_item ht (Heap.IsSliceOf.new _ vl vu vs) pl pu ps ?_ (by rw [List.size_toArray]; omega)
    let ob : Obj := { cls := .type "tuple", data := .seq its.reverse.toArray }
    let h5 : Heap := s4.heap.push { cls := .type "slice", data := .fields #[vl, vu, vs] }
    have got : (h5.push ob).get? h5.objs.size = some ob := Heap.get?_push_size _ rfl
    have J : Inv X pins st (upd H4 h5.objs.size (.frz ob (.tup xs.reverse))) { s4 with heap := h5.push ob } := I5.laid (t' := s4.toks) (fun _ _ z => Heap.get?_push_of_some _ z) (Nat.le_refl _) ⟨got, by rw [List.length_reverse]; exact hz, its.reverse, rv.reverse, ob, got, rfl, _, rfl⟩
    exact ⟨.ref _, _, J, rfl, q _ ob rfl (I5.hok.fresh (Nat.le_refl _))⟩
/-! ### the greatest of a list of pairs -/
abbrev prD (p : Int × Int) : PyData := .tuple [.int p.1, .int p.2]
/-- the first of the greatest -/
def maxP (x : Int × Int) (xs : List (Int × Int)) : Int × Int := xs.foldl (fun a y => if (if a.1 = y.1 then decide (a.2 < y.2) else decide (a.1 < y.1)) = true then y else a) x
theorem maxP_of (x : Int × Int) (xs : List (Int × Int)) : PySem.W.maxOf x xs = maxP x xs := rfl
theorem vals_at {vs : List V} {its : List Value} (h : Vals vs its) : ∀ {i : Nat} {u : Value}, its[i]? = some u → ∃ v, vs[i]? = some v ∧ RelV v u := by
  induction h with
  | nil => intro i u e; simp at e
  | cons a _ ih =>
    intro i u e
    cases i with
    | zero => simp at e; subst e; exact ⟨_, rfl, a⟩
    | succ i => exact ih (by simpa using e)
abbrev gMaxP : Sl → Mem → RK → Prop := fun r M R => ∃ ss x xs, lsOf M r = some ss ∧ datOf ss = some ((x :: xs).map prD) ∧ R (.d (prD (maxP x xs))) M
theorem c_maxP (hc : X.calm = true) (hu : X.A.units + 64 < cLine) : CaD X (.builtin "max") (g1 gMaxP) := ca1 fun F H M v r R Q at0 i1 h1 po => by
  obtain ⟨ss, x, xs, e1, e2, hR⟩ := h1
  obtain ⟨a, vs, rfl, q1, q2⟩ := lsOf_at at0 i1 e1
  rw [datOf_eq e2] at q2
  have q3 := dqAll_of q2
  refine ⟨fun zs H Q => ∃ b ws, zs = [.ref b] ∧ SqL X.K H b ws ∧ (∃ F, Ex F H ∧ DqAll X.K F ws ((x :: xs).map prD)) ∧ ∀ (i : Nat) (w : V), ws[i]? = some w → (((x :: xs).map prD)[i]? = some (prD (maxP x xs))) → Q w H, fun pins s st H xs' us Q I rl h => ?_,
    a, vs, rfl, SqL.of q1, ⟨F, at0.ex, q3⟩, fun i w hw hd => ?_⟩
  · obtain ⟨b, ws, rfl, hs, ⟨F, ex, hq⟩, q⟩ := h
    obtain ⟨its, rv, hl, _⟩ := I.list hs
    rw [Vals.ref1 rl]
    have dp : DpAll X.K H ws ((x :: xs).map prD) := dqAll_dp (dqAll_mono ex hq)
    obtain ⟨as, rd⟩ := Dp.readsAll I ((x :: xs).map prD) ws its dp rv
    have room : X.A.units + 1 + PySem.W.Datum.depth (Int × Int) < cLine := by
      have : PySem.W.Datum.depth (Int × Int) ≤ 10 := by decide
      omega
    refine PySem.W.max_list_datum (α := Int × Int) (x := x) (xs := xs) (I.ok.hd hc) hl.isList ⟨as, rd⟩ room fun i u h' tk hi ho hk => ?_
    have hi2 : its[i]? = some u := by simpa using hi
    obtain ⟨w, hw, rw1⟩ := vals_at rv hi2
    refine ⟨w, H, I.kept hk, rw1, q i w hw ?_⟩
    obtain ⟨bs, ro⟩ := ho
    obtain ⟨d, hd, dw⟩ : ∃ d, ((x :: xs).map prD)[i]? = some d ∧ Dp X.K H w d := by
      have dl : ∀ {ws : List V} {ds : List PyData}, DpAll X.K H ws ds → ∀ {i : Nat} {w : V}, ws[i]? = some w → ∃ d, ds[i]? = some d ∧ Dp X.K H w d := fun {ws ds} h => by
        induction ws generalizing ds with
        | nil => intro i w e; simp at e
        | cons a r ih =>
          cases h with
          | cons h1 h2 =>
            intro i w e
            cases i with
            | zero => simp at e; subst e; exact ⟨_, rfl, h1⟩
            | succ i => exact ih h2 (by simpa using e)
      exact dl dp hw
    rw [hd]
    obtain ⟨as2, rd2⟩ := Dp.reads I d w u dw rw1
    have e3 := (reads_det (fun b o e _ => hk b o e) rd2 ro).1
    rw [← e3]
    rfl
  · have dl : ∀ {ws : List V} {ds : List PyData}, DqAll X.K F ws ds → ∀ {i : Nat} {w : V} {d : PyData}, ws[i]? = some w → ds[i]? = some d → Dq X.K F w d := fun {ws ds} h => by
      induction ws generalizing ds with
      | nil => intro i w d e; simp at e
      | cons a r ih =>
        cases h with
        | cons h1 h2 =>
          intro i w d e f
          cases i with
          | zero => simp at e f; subst e f; exact h1
          | succ i => exact ih h2 (by simpa using e) (by simpa using f)
    exact po _ F H _ M hR (Go.refl at0) (dl q3 hw hd)
end
end DL

set_option Elab.async false
set_option linter.all false
set_option maxRecDepth 100000
set_option maxHeartbeats 4000000
/-! EQ: a bare return. -/
namespace DL
open PySem PySem.Spec PyProof.Rows L2
section
variable {X : Cx} {pos : Pos}
abbrev wRetN : WS := fun P _ M => P.rt .n M
theorem pds_retN : PDS X (.Return none pos) wRetN := ps_imp ps_retN fun D st H ⟨F, dl, M, P, so, at0, hw, po⟩ => po.rt _ F H _ M hw (Go.refl at0) .non
/-! ### None, or a key, in a dict -/
abbrev gDInN : W2 := fun q p M R => match q with
  | .d .none => ∃ a ks, p = .v (.ref a) ∧ M a = some (.dic ks) ∧ R (.b false) M
  | q => gDIn q p M R
variable {a b : Expr} {wa wb : WE}
theorem pdt_dinN (hu : X.A.units + 1 < cLine) (ha : PD X a wa) (hb : PD X b wb) (hm : behindInMarks .In b = false := by rfl) : PDT X (.Compare a [.In] [b] pos) (wBl (wOp gDInN wa wb)) := by
  refine pt_imp (pt_cmp (pc_dinN hu ha hb) hm) fun st H Q ⟨F, dl, M, R, so, at0, hw, po⟩ => ?_
  refine tD_to so at0 hw fun x F1 H1 q M1 h1 g1 so1 at1 i1 => tD_to so1 at1 h1 fun y F2 H2 p M2 h2 g2 so2 at2 i2 => ?_
  have fin : ∀ (k : Bool), (match Sl.b k with | .d (.bool k) => R k M2 | _ => False) → Q k H2 := fun k h => po k F2 H2 M2 h (g1.trans g2)
  unfold gDInN at h2
  split at h2
  · obtain ⟨ad, ks, rfl, m, hR⟩ := h2
    have ey : y = .ref ad := i2
    obtain ⟨_, kvs, q1, _⟩ := at2.mem ad _ m
    exact .inr ⟨ad, kvs, ey, dq_non i1, .inl q1, false, rfl, fin false hR⟩
  · unfold gDIn at h2
    split at h2
    · rename_i ad
      obtain ⟨ks, k, m, hk, hR⟩ := h2
      have ey : y = .ref ad := i2
      subst ey
      obtain ⟨_, kvs, q1, q2⟩ := at2.mem ad _ m
      refine .inl ⟨ad, _, rfl, by rw [keyS_at (is_mono g2.ex i1) hk]; exact DGet.k q1, ?_⟩
      rw [← valS_isSome q2]
      exact ⟨_, rfl, fin _ hR⟩
    · exact h2.elim
end
end DL

set_option Elab.async false
set_option linter.all false
set_option maxRecDepth 100000
set_option maxHeartbeats 4000000
/-! ER: enumerate(a tuple, k). -/
namespace DL
open PySem PySem.Spec L2 PyProof.Rows
open Evl (Ex)
open Sem (wp)
/-- the tuple at a, each item in a new pair -/
def IteK (K : PySem.W.Frag) (a : Addr) (k : Int) : It :=
  ⟨fun i H => ∃ (xs : List V) (x : V), SqT K H a xs ∧ xs[i]? = some x, fun i H v H' => ∃ T x, v = .ref T ∧ H T = none ∧ H' = upd H T (.tup [.int (k + ((i : Nat) : Int)), x]) ∧ ∀ xs, SqT K H a xs → xs[i]? = some x, fun i H => ∃ xs : List V, SqT K H a xs ∧ xs.length = i⟩
theorem turn_enumK {P : Program} {w : World} {K : PySem.W.Frag} {elts : List Expr} {kk : Nat} {tpos : Pos} {a e it : Addr} {k : Int} (hne : a ≠ it) (hae : e ≠ a) :
    Turn P w K (.Tuple elts kk tpos) (IteK K a k) [e, it] e (fun i h => (∃ old, IsEnum h e it (k + ((i : Nat) : Int)) old) ∧ h.IsTupleIter it a i ∧ e ≠ it) where
  mem := by simp
  obj := fun i h st b hb => by
    obtain ⟨⟨old, he⟩, ⟨o, ho, hc, hd⟩, _⟩ := st
    have e' : b = e ∨ b = it := by simpa using hb
    rcases e' with z | z
    · rw [z]; exact ⟨_, he, fun v q => nomatch q⟩
    · rw [z]; exact ⟨o, ho, fun v q => by rw [hd] at q; cases q⟩
  keep := fun i h h' st kp => let ⟨⟨old, he⟩, hi, hne⟩ := st; ⟨⟨old, kp e (by simp) _ he⟩, hi.at fun o q => kp it (by simp) o q, hne⟩
  item := by
    intro X hP hw hK hc i pins s σ H E I hf st hg
    subst hP hw hK
    obtain ⟨⟨old, he⟩, hit, hei⟩ := st
    obtain ⟨xs, x, hq, hx⟩ := hg
    obtain ⟨its, rv, p, hz⟩ := I.tuple hq
    obtain ⟨u, hu, ru⟩ := rv.get hx
    have hel : e < s.heap.objs.size := Heap.lt_size he
    have hil : it < s.heap.objs.size := by obtain ⟨_, q, _⟩ := hit; exact Heap.lt_size q
    have hh : X.A.in1.handled = none := by have := I.ok.hd hc; simp [this]
    have D := Draws.tuple (prog := X.prog) (w := X.w) hh it a hne its.toArray
    have lt : i < its.toArray.size := by rw [List.size_toArray]; exact (List.getElem?_eq_some_iff.mp hu).1
    refine wpAny_pyNext_enum_itemC D he ⟨hit, p⟩ lt hei (by simp only [List.mem_cons, List.not_mem_nil, or_false, not_or]; exact ⟨hei, hae⟩) fun x' h' tk hP ho hit' hT hsz hk => ?_
    have e2 : x' = u := by
      have q : its[i]? = some x' := by simpa using hP
      rw [hu] at q
      exact (Option.some.inj q).symm
    subst e2
    refine ⟨_, rfl, wpAny_letOwnedTupleGo_enum (s := { s with heap := h', toks := tk + 1 }) ho fun h'' he' sb => ?_⟩
    have hT2 : h''.get? s.heap.objs.size = some { cls := .type "tuple", data := .seq #[.int (k + ((i : Nat) : Int)) tk, x'] } := (sb.2 _ (Nat.ne_of_gt hel)).trans hT
    have new : ObjOk X.prog X.w (upd H s.heap.objs.size (.tup [.int (k + ((i : Nat) : Int)), x])) h'' s.heap.objs.size (.tup [.int (k + ((i : Nat) : Int)), x]) :=
      ⟨by show 2 ≤ sizeLine; decide, [.int (k + ((i : Nat) : Int)) tk, x'], .cons ⟨_, rfl⟩ (.cons ru .nil), ⟨_, hT2, rfl, _, rfl⟩⟩
    have I1 : Inv X pins σ (upd H s.heap.objs.size (.tup [.int (k + ((i : Nat) : Int)), x])) { s with heap := h'', toks := tk + 1 } :=
      I.turnedNew (ch := [e, it]) (fun b ob hb q => (sb.2 b (fun z => hb (by simp [z]))).trans (hk b ob (fun z => hb (by simp [z])) (fun z => hb (by simp [z])) q)) hf (Nat.le_refl _) new
    refine ⟨.ref s.heap.objs.size, _, I1, rfl, ⟨_, x, rfl, I.hok.fresh (Nat.le_refl _), rfl, fun ys hy => by rw [I.tuple_inj hy hq]; exact hx⟩, ⟨⟨x', ?_⟩, hit'.1.at fun o q => (sb.2 it (Ne.symm hei)).trans q, hei⟩, fun b hb => ?_⟩
    · have e1 : k + ((i + 1 : Nat) : Int) = k + (i : Int) + 1 := by omega
      rw [e1]; exact he'
    · have hb' : b < s.heap.objs.size := by
        have e' : b = e ∨ b = it := by simpa using hb
        rcases e' with z | z
        · rw [z]; exact hel
        · rw [z]; exact hil
      rw [upd_ne (Nat.ne_of_lt hb')]
      exact (hf b hb).1
  done := by
    intro X hP hw hK hc i pins s σ H E I hf st hg
    subst hP hw hK
    obtain ⟨⟨old, he⟩, hit, hei⟩ := st
    obtain ⟨xs, hq, hx⟩ := hg
    obtain ⟨its, rv, p, hz⟩ := I.tuple hq
    obtain ⟨f0, f1, f2, f3, f4, f5⟩ := hf it (by simp)
    have hl := rv.length
    have hh : X.A.in1.handled = none := by have := I.ok.hd hc; simp [this]
    have D := Draws.tuple (prog := X.prog) (w := X.w) hh it a hne its.toArray
    have ei : i = its.toArray.size := by rw [List.size_toArray, ← hl]; exact hx.symm
    subst ei
    exact wpAny_pyNext_enum_endD D he ⟨hit, p⟩ fun h' eb => ⟨rfl, I.turned (t' := s.toks) (fun b o hb q => eb b o hb q) f0 f1 f3 f4 f5⟩
  self := fun A i s Q E st h => let ⟨⟨_, he⟩, _⟩ := st; wpAny_pyIter_enum he h
section
variable {X : Cx} {e f : Expr} {wa : WA} {p pos tpos : Pos} {elts : List Expr} {kk : Nat}
def enumK (k : Int) (ds : List PyData) : List Sl := ds.zipIdx.map fun e => Sl.w [.int (k + (e.2 : Int)), e.1]
theorem enumK_len (k : Int) (ds : List PyData) : (enumK k ds).length = ds.length := by unfold enumK; rw [List.length_map, List.length_zipIdx]
theorem enumK_get {k : Int} {ds : List PyData} {i : Nat} {r : Sl} (h : (enumK k ds)[i]? = some r) : ∃ d, ds[i]? = some d ∧ r = .w [.int (k + (i : Int)), d] := by
  unfold enumK at h
  rw [List.getElem?_map, List.getElem?_zipIdx] at h
  cases e : ds[i]? with
  | none => rw [e] at h; cases h
  | some d => rw [e] at h; simp at h; exact ⟨d, rfl, h.symm⟩
abbrev wiEnumK (wa : WA) : WI := fun dl M T => wa dl M fun rs M1 => match rs with
  | [.d (.tuple ds), .d (.int k)] => 0 ≤ k ∧ k < 1000000 ∧ T (enumK k ds) C0 M1
  | _ => False
theorem pdi_enumK (hg : Gl X "enumerate") (hm : X.mg "enumerate" = none) (ha : PDA X [e, f] wa) (hs : starEach [e, f] X.env = (false, eval e X.env) :: starEach [f] X.env := by rfl) (hpl : (backTo pos (starEach [f] X.env)).any (·.1) = false := by rfl) :
    PDI X (.Tuple elts kk tpos) (.Call (.Name "enumerate" p) [e, f] [] pos) (wiEnumK wa) := by
  refine ⟨fun pins s st H R I ⟨F, dl, M, T, so, at0, hw, po⟩ => ?_⟩
  refine Call_ (ld_blt I hg hm boot_enumerate (PyProof.Rows.callWith_type1 (thn (PA.run ha pos pins s st H (fun vs H1 => ∃ a k xs, vs = [.ref a, .int k] ∧ 0 ≤ k ∧ k < 1000000 ∧ SqT X.K H1 a xs ∧ R (IteK X.K a k) H1) I (tDA_to so at0 hw fun vs F1 H1 rs M1 h1 g1 so1 at1 i1 => ?_)) fun us s1 ⟨vs, H1, I1, r1, q1⟩ => ?_) hs hpl))
  · split at h1
    · rename_i ds k
      obtain ⟨v, u, rfl, i2, i3⟩ := isAll2 i1
      cases dq_int i3
      obtain ⟨a, us, rfl, q1, q2⟩ := sqT_at at1 i2
      obtain ⟨k0, k1, h1⟩ := h1
      have lb : ∀ F M H, Evl.Ex F1 F → At X.K F M H → ∃ us, SqT X.K H a us ∧ DqAll X.K F us ds := fun F M H e at' => by
        obtain ⟨c, zs, e2, z1, z2⟩ := sqT_at at' (dq_mono e i2)
        cases e2
        exact ⟨zs, z1, z2⟩
      refine ⟨a, k, us, rfl, k0, k1, q1, po F1 M1 H1 _ _ _ h1 g1 ⟨fun F M H i e at0 c hi => ?_, fun F M H i x H' r e at0 c y hr => ?_, fun F M H e at0 c => ?_⟩⟩
      · rw [enumK_len] at hi
        obtain ⟨us, s2, q4⟩ := lb F M H e at0
        obtain ⟨v, z1, z2⟩ := dqAll_get (i := i) q4 (List.getElem?_eq_getElem hi)
        exact ⟨us, v, s2, z1⟩
      · obtain ⟨us, s2, q4⟩ := lb F M H e at0
        obtain ⟨Tp, xv, rfl, hT, rfl, hx⟩ := y
        obtain ⟨d, hd, rfl⟩ := enumK_get hr
        obtain ⟨v, z1, z2⟩ := dqAll_get (i := i) q4 hd
        have hxv := hx us s2
        rw [z1] at hxv
        obtain rfl : v = xv := Option.some.inj hxv
        have g := Go.laid at0 (o := .tup [.int (k + (i : Int)), v]) hT
        exact ⟨_, g, _, _, rfl, .inl (.inl upd_same), .cons (.int _) (.cons (dq_mono g.ex z2) .nil)⟩
      · obtain ⟨us, s2, q4⟩ := lb F M H e at0
        rw [enumK_len]
        exact ⟨us, s2, by rw [dqAll_len q4]⟩
    · exact h1.elim
  · obtain ⟨a, k, xs, ex, k0, k1, hq, q⟩ := q1
    subst ex
    cases r1 with
    | cons r rr =>
      cases rr with
      | cons r' rr =>
        cases rr
        cases r
        obtain ⟨t, rfl⟩ := r'
        obtain ⟨its, rv, p', hz⟩ := I1.tuple hq
        have la : (a : Nat) < s1.heap.objs.size := by obtain ⟨o2, ho2, _⟩ := id p'; exact Heap.lt_size ho2
        refine PySem.enum_begins (begins_tuple a its.toArray) (show s1.heap.IsTuple a its.toArray from p') (by omega) (by omega) fun h' he hit hsz hk => wpAny_pyIter_enum he ?_
        have I2 : Inv X pins st H1 { s1 with heap := h' } := I1.kept (t' := s1.toks) hk
        refine ⟨s1.heap.objs.size + 1, [s1.heap.objs.size + 1, s1.heap.objs.size], _, _, H1, rfl, I2, turn_enumK (a := a) (k := k) (e := s1.heap.objs.size + 1) (it := s1.heap.objs.size) (Nat.ne_of_lt la) (fun z => nl2 (k := 1) la z.symm), ⟨⟨_, by rw [show k + ((0 : Nat) : Int) = k by omega]; exact he⟩, ⟨_, hit, rfl, rfl⟩, Nat.succ_ne_self _⟩, fun b hb => ?_, q⟩
        have e' : b = s1.heap.objs.size + 1 ∨ b = s1.heap.objs.size := by simpa using hb
        have hle : s1.heap.objs.size ≤ b := by
          rcases e' with z | z
          · rw [z]; exact Nat.le_add_right _ _
          · rw [z]; exact Nat.le_refl _
        exact I1.fpOk hle (I1.hok.fresh hle)
end
end DL

set_option Elab.async false
set_option linter.all false
set_option maxRecDepth 100000
set_option maxHeartbeats 4000000
/-! ES: not in a tuple of texts, of numbers, in a list of numbers. -/
namespace DL
open PySem PySem.Spec PyProof.Rows L2
section
variable {X : Cx}
abbrev gNotIn : W2 := fun p q M R => match p, q with
  | .d (.str a), .d (.tuple ds) => ∃ ss, strsD ds = some ss ∧ R (.b (!decide (a ∈ ss))) M
  | .d (.int a), .d (.tuple ds) => ∃ ss, intsD ds = some ss ∧ R (.b (!decide (a ∈ ss))) M
  | .d (.int a), q => ∃ ss ns, lsOf M q = some ss ∧ intsOf ss = some ns ∧ R (.b (!decide (a ∈ ns))) M
  | _, _ => False
theorem o_notIn : OpD X (compareOp .NotIn) gNotIn := opD_of fun F H M x y p q R Q at0 h1 h2 h3 po => by
  unfold gNotIn at h3
  split at h3
  · obtain ⟨ss, e, hR⟩ := h3
    cases dq_str h1
    obtain ⟨c, vs, rfl, q1, q2⟩ := sqT_at at0 h2
    have e2 := strsD_at e q2
    subst e2
    exact ⟨_, op_notIn_seq, c, _, rfl, .inr q1, rfl, flat_strs ss, by simp only [if_true]; rw [inV_strs]; exact po _ F H _ M hR (Go.refl at0) (.bl _)⟩
  · obtain ⟨ss, e, hR⟩ := h3
    cases dq_int h1
    obtain ⟨c, vs, rfl, q1, q2⟩ := sqT_at at0 h2
    have e2 := intsD_at e q2
    subst e2
    exact ⟨_, op_notIn_seq, c, _, rfl, .inr q1, rfl, flat_ints ss, by simp only [if_true]; rw [inV_ints]; exact po _ F H _ M hR (Go.refl at0) (.bl _)⟩
  · obtain ⟨ss, ns, e, e1, hR⟩ := h3
    cases dq_int h1
    obtain ⟨c, vs, rfl, q1, q2⟩ := lsOf_at at0 h2 e
    have e2 := intsOf_at e1 q2
    subst e2
    exact ⟨_, op_notIn_seq, c, _, rfl, .inl (SqL.of q1), rfl, flat_ints ns, by simp only [if_true]; rw [inV_ints]; exact po _ F H _ M hR (Go.refl at0) (.bl _)⟩
  · exact h3.elim
end
end DL

set_option Elab.async false
set_option linter.all false
set_option maxRecDepth 100000
set_option maxHeartbeats 4000000
/-! ET: y = {k: v for ..}. -/
namespace DL
open PySem PySem.Spec PyProof.Rows L2
section
variable {X : Cx} {kx vx tg iter : Expr} {ifs : List Expr} {scope : Scope} {own : List (Str × Nat)} {pos spos py : Pos} {y : Str} {i : Nat}
theorem ps_setDc {wi : TI} {g : TG} {tt : TT} {tk tv : TE} (hc : X.calm = true) (hN : X.N.Nodup) (hy : X.N[i]? = some y) (hyl : X.env.scope.names.lookup y = some .local)
    (hsw : swapsWith (.DictComp kx vx [⟨tg, iter, ifs, 0⟩] scope pos) (some (.Name y py)) spos.line X.env = pure true) (hi : PI X tg iter wi) (ok : BlkOk X.N X.env.scope scope own)
    (hg : ∀ (s : Shared) (H : Hp) (C : Addr) (cl : List (Str × Addr)) (fp : List Addr), PG (X.blk s H scope (compEnvC scope cl C X.env) fp) tg g) (ht : ∀ (s : Shared) (H : Hp) (C : Addr) (cl : List (Str × Addr)) (fp : List Addr), PTs (X.blk s H scope (compEnvC scope cl C X.env) fp) ifs tt)
    (hk : ∀ (s : Shared) (H : Hp) (C : Addr) (cl : List (Str × Addr)) (fp : List Addr), PE (X.blk s H scope (compEnvC scope cl C X.env) fp) kx tk) (he : ∀ (s : Shared) (H : Hp) (C : Addr) (cl : List (Str × Addr)) (fp : List Addr), PE (X.blk s H scope (compEnvC scope cl C X.env) fp) vx tv)
    (hs : ∀ x, foldedSetIterable iter X.env x = pure x := by intro _; rfl) : PS X (.Assign [.Name y py] (.DictComp kx vx [⟨tg, iter, ifs, 0⟩] scope pos) spos) (tAsg (tDc wi g tt tk tv (own.map (·.2))) (gName i)) := by
  refine ⟨fun pins s st H E I hw => ?_⟩
  rw [exec_Assign_Name_used _ _ _ _ hsw]
  refine wpAny_bind (wpAny_standAt (wpAny_bind ?_))
  show wpAny _ X.A (do let _ ← comprehension (.DictComp kx vx [⟨tg, iter, ifs, 0⟩] scope pos) scope X.env (firstIterPos [⟨tg, iter, ifs, 0⟩] pos) newDict false (eval iter X.env) (some (assign (.Name y py) X.env))) _ _ s
  have hw : tDc wi g tt tk tv (own.map (·.2)) st H (fun x H1 => gName i x st H1 E.nx) := hw
  refine wpAny_bind (thn (dc_core (Qf := fun _ s' => SP X pins E .next s') hc hN I hi ok hg ht hk he hs hw fun L C s' m H' I' q hn f => ?_) fun _ s' hq => wpAny_pure (wpAny_pure hq))
  show wpAny _ _ (assign (.Name y py) X.env (.ref L)) _ _ _
  refine wpAny_assign_Name (store_ok2 (v := V.ref L) I' hN hy (.inl hyl) rfl (fun s2 I2 ⟨a, sb, ha⟩ => ?_) (.inr hyl))
  obtain ⟨z0, z1, z2, z3, z4, z5⟩ := f
  refine ⟨m, hn.sameBut sb (ha.elim (fun z => by rw [z]; exact z1) fun z e => z4 y a z e.symm), fun h3 sb3 => ?_⟩
  exact ⟨_, H', I2.turned (t' := s2.toks) (fun b o hb e => (sb3.2 b hb).trans e) z0 z1 z3 z4 z5, q⟩
theorem sw_trueD {gs : List Comprehension} {l : Nat} {env : Env} (hk : env.scope.kind = .function) (hy : env.scope.names.lookup y = some .local) (hl : (py.line == pos.line) = true)
    (ha : (scope.names.any fun (n, k) => n == y && (k == .local || k == .cell)) = false) : swapsWith (.DictComp kx vx gs scope pos) (some (.Name y py)) l env = pure true := by
  have e1 : env.kindOf y = some .local := hy
  have e2 : env.blockKind = .function := by unfold Env.blockKind; rw [hk]; rfl
  unfold swapsWith
  simp only [e2, e1, ha, Expr.pos, hl]
  rfl
theorem pds_setDc (i : Nat) {wi : WI} {g : WG} {wt : WT} {wk wv : WE} (hc : X.calm = true) (hN : X.N.Nodup) (hy : X.N[i]? = some y) (hyl : X.env.scope.names.lookup y = some .local)
    (hsw : swapsWith (.DictComp kx vx [⟨tg, iter, ifs, 0⟩] scope pos) (some (.Name y py)) spos.line X.env = pure true) (hi : PDI X tg iter wi) (ok : BlkOk X.N X.env.scope scope own)
    (hg : ∀ (s : Shared) (H : Hp) (C : Addr) (cl : List (Str × Addr)) (fp : List Addr), PDGw (X.blk s H scope (compEnvC scope cl C X.env) fp) (own.map (·.2)) tg g) (ht : ∀ (s : Shared) (H : Hp) (C : Addr) (cl : List (Str × Addr)) (fp : List Addr), PDTs (X.blk s H scope (compEnvC scope cl C X.env) fp) ifs wt)
    (hk : ∀ (s : Shared) (H : Hp) (C : Addr) (cl : List (Str × Addr)) (fp : List Addr), PD (X.blk s H scope (compEnvC scope cl C X.env) fp) kx wk) (hv : ∀ (s : Shared) (H : Hp) (C : Addr) (cl : List (Str × Addr)) (fp : List Addr), PD (X.blk s H scope (compEnvC scope cl C X.env) fp) vx wv)
    (hs : ∀ x, foldedSetIterable iter X.env x = pure x := by intro _; rfl) : PDS X (.Assign [.Name y py] (.DictComp kx vx [⟨tg, iter, ifs, 0⟩] scope pos) spos) (wAsg (wDc wi g wt wk wv (own.map (·.2))) (gN i)) :=
  ps_imp (ps_setDc (g := tDGw X.K (own.map (fun z : Str × Nat => z.2)) g) (tt := tDT X.K wt) (tk := tD X.K wk) (tv := tD X.K wv) hc hN hy hyl hsw hi ok hg ht hk hv hs) fun D st H ⟨F, dl, M, P, so, at0, hw, po⟩ =>
    tD_dc ⟨F, dl, M, _, so, at0, hw, fun v F1 H1 r M1 h1 g1 i1 => po.nx _ F1 H1 _ M1 h1 g1 (sok_set (sok_mono g1.ex so) i1)⟩
end
end DL

set_option Elab.async false
set_option linter.all false
set_option maxRecDepth 100000
set_option maxHeartbeats 4000000
/-! EU: C() where __init__'s one parameter beside self is filled up by its default; a dict comprehension with an if. -/
namespace DL
open PySem PySem.Spec L2
open Evl (Ex)
structure HasK0 (P : Program) (w : World) (K : PySem.W.Frag) (mg : Str → Option Value) (base : Heap) (k : Nat) (C : Addr) (x : Str) (ps : List Str) (dd : PyData) (cn : Cn) : Prop where
  ex : ∃ f fd E, Mk K C f ∧ mg x = some (.ref C) ∧ Binds K fd ps [Value.ref E] ∧ (∀ F, Dq K F (.ref E) dd) ∧ FnD P w K mg base k f fd ps cn
section
variable {X : Cx} {C : Addr} {pos : Pos}
theorem run_makeD0 {k : Nat} {g E : Addr} {fd : FuncData} {ps : List Str} {cn : Cn} {pins : List (Addr × Obj)} {st : St} {H : Hp} {s : Shared} {Q : VK} (M : Mk X.K C g) (G : FnD X.prog X.w X.K X.mg X.base k g fd ps cn) (hgd : X.A.guards = some []) (hr : Room (k + 1) X.A) (hb : Binds X.K fd ps [Value.ref E])
    (I : Inv X pins st H s) (h : ∀ x dx : Addr, H x = none → H dx = none → dx ≠ x → spD X.K cn [V.ref x, V.ref E] (upd (upd H dx (.own x)) x (.ins C dx [])) fun v H2 => v = V.non ∧ Q (.ref x) H2) : wpAny (model X.prog X.w) X.A (call (.ref C) [] []) (EP X pins st Q) X.xe s := by
  have hq := h (s.heap.objs.size + 1) s.heap.objs.size (I.hok.fresh (Nat.le_succ _)) (I.hok.fresh (Nat.le_refl _)) (Nat.ne_of_lt (Nat.lt_succ_self _))
  have I2 := Inv.made (C := C) I
  have r2 : Vals [V.ref (s.heap.objs.size + 1), V.ref E] [Value.ref (s.heap.objs.size + 1), Value.ref E] := Paired.cons rfl (Paired.cons rfl .nil)
  have hl := G.lenV hq
  have hb1 := hb _ [Value.ref (s.heap.objs.size + 1)] I2.kIn (by rw [← hl]; rfl)
  refine wpAny_call (make_map I.kIn M.makes M.init (beq_iff_eq.mp M.fn) (codeAny_mono (G.run (X.A.under (.builtin "type.__call__" ⟨[.ref C], []⟩)) X.stack _ _ ⟨[.ref (s.heap.objs.size + 1)], []⟩ ([Value.ref (s.heap.objs.size + 1), Value.ref E]) _ _ (by exact hgd) (Room.make hr C [] []) (Env0.make I2.env0 C [] []) hb1 r2 hq) fun rr s' hq' => ?_))
  cases rr with
  | error er => exact False.elim hq'
  | ok fl => cases fl with
    | ret u =>
      obtain ⟨v, H', I3, rv, ev, q3⟩ := I2.after hq'
      subst ev
      exact ⟨rv, V.ref (s.heap.objs.size + 1), H', I3, rfl, q3⟩
    | next => exact False.elim hq'
    | brk => exact False.elim hq'
    | cont => exact False.elim hq'
abbrev wMake0 (C : Addr) (cn : Cn) (dd : PyData) : WE := fun _ M R => ∀ p, M p = none → cn [.v (.ref p), .d dd] (upM M p (.ob C [])) fun r M2 => r = .n ∧ R (.v (.ref p)) M2
theorem pd_makeD0 {k : Nat} {x : Str} {ps : List Str} {cn : Cn} {dd : PyData} {p : Pos} (G : HasK0 X.prog X.w X.K X.mg X.base k C x ps dd cn) (hgd : X.A.guards = some []) (hr : Room (k + 1) X.A) (hg : Gl X x)
    (hdb : (x == ("__debug__" : Str)) = false := by decide) (he : starEach [] X.env = [] := by rfl) : PD X (.Call (.Name x p) [] [] pos) (wMake0 C cn dd) := by
  obtain ⟨g, fd, E, M, hm, hb, hE, G⟩ := G.ex
  refine ⟨fun pins s st H Q I h => ?_⟩
  obtain ⟨F, dl, M0, R, so, at0, hw, po⟩ := h
  refine wpAny_Call_Name_kw (ld_glob I hg hm ?_ hdb)
  refine PySem.W.callWith_K0 I.kIn M.kp (run_makeD0 M G hgd hr hb I fun x dx hx hdx hne => ?_)
  have f1 := at0.freeF hdx
  have m1 := at0.freeM hdx
  have a2 := at0.hid (o := .own x) f1 m1
  have hx2 : upd H dx (.own x) x = none := by rw [upd_ne (Ne.symm hne)]; exact hx
  have g2 : Go X.K F M0 H F M0 (upd H dx (.own x)) := ⟨Ex.refl _, a2, fun b u z1 z2 z3 => ⟨by rw [upd_ne (ne_of_none z1 hdx)]; exact z1, z2, z3⟩⟩
  have g3 := Go.new (o := .ob C []) (ho := .ins C dx []) a2 hx2 ⟨dx, [], upd_same, .nil⟩
  exact ⟨F, upM M0 x (.ob C []), [.v (.ref x), .d dd], _, .cons rfl (.cons (hE _) .nil), g3.at', hw x (at0.freeM hx), fun v F' H' r M' ⟨er, hR⟩ g i => by
    subst er
    exact ⟨dq_non i, po _ F' H' _ M' hR ((g2.trans g3).trans g) rfl⟩⟩
end
/-! ### at the end -/
/-- __init__ with one default, an empty tuple -/
def InitT (K : PySem.W.Frag) (C : Addr) (qual : Str) (st : Stmt) : Prop := ∃ f fd E, Mk K C f ∧ FunD K "__init__" qual (defArgs st) (defBody st) (defScope st) [V.ref E] [] f fd ∧ ∀ F, Dq K F (.ref E) (.tuple [])
theorem initT_mk {K : PySem.W.Frag} {C : Addr} {qual : Str} {st : Stmt} {f T E : Addr} {od an odT : Option Addr} {sl slT slE : Array (Option Value)} {oc kV doc pm cd ct ocT : Value} {nT nE : Nat} {ws : Array Value} (mk : PySem.W.makesIn K C = true) (kc : PySem.W.keepIn K (.ref C) = true)
    (a : PySem.W.findIn K (.ref C) "__init__" = some (some (.ref f))) (i : PySem.W.isFn K (.ref f) = true)
    (l : K.lookup f = some ⟨oc, od, .func (PySem.W.fnOf "__init__" qual (defArgs st) (defBody st) (defScope st) (.ref T) kV doc pm an cd ct), sl⟩) (c : PySem.W.codeIn K cd qual = true) (k : PySem.W.keepIn K (.ref f) = true)
    (lT : K.lookup T = some ⟨ocT, odT, .seq ws nT, slT⟩) (vT : Vals [V.ref E] ws.toList) (lE : K.lookup E = some ⟨.type "tuple", none, .seq #[] nE, slE⟩) : InitT K C qual st :=
  ⟨f, _, E, ⟨mk, a, i, kc⟩, ⟨⟨oc, od, .ref T, kV, doc, pm, an, cd, ct, sl, rfl, l, c, .inr ⟨by simp, T, _, ws.toList, nT, rfl, lT, by simp, vT⟩, .inl rfl⟩, k⟩, dk_tup lE .nil (by decide) fun _ => .nil⟩
section
variable {P : Program} {w : World} {K : PySem.W.Frag} {mg : Str → Option Value} {base : Heap} {k : Nat} {C : Addr} {m qual x : Str} {st : Stmt} {ps : List Str} {cn : Cn} {dd : PyData}
theorem HasK0.ofD {f E : Addr} {fd : FuncData} (hm : Mk K C f) (hx : mg x = some (.ref C)) (Fu : FunD K "__init__" qual (defArgs st) (defBody st) (defScope st) [V.ref E] [] f fd) (hE : ∀ F, Dq K F (.ref E) dd)
    (hb : ∀ (T : Addr) (kV doc pm : Value) (an : Option Addr) (cdv ct : Value) (us its : List Value), us.length = 1 → its.length = 1 → ∃ k, bindArgs (PySem.W.fnOf "__init__" qual (defArgs st) (defBody st) (defScope st) (.ref T) kV doc pm an cdv ct) ⟨us, []⟩ = seqItems? (.ref T) >>= k ∧ k (some its.toArray) = pure (ps.zip (us ++ its.drop 0))) (hn : ps.length = 2)
    (G : FnD P w K mg base k f fd ps cn) : HasK0 P w K mg base k C x ps dd cn := by
  obtain ⟨ds, v, b⟩ := Fu.binds1 (ps := ps) 1 0 (by simp) (by simpa using hn.symm) hb
  cases v with
  | cons h t =>
    cases t
    cases h
    exact ⟨f, fd, E, hm, hx, b, hE, G⟩
end
/-! ### a dict comprehension with an if -/
theorem dc_fm {g : WG} {wt : WT} {wk wv : WE} {C : Mem → Prop} {dl : Env'} {R : KS → Mem → Prop} {M : Mem} {A : Type} (l : List A) (φ : A → Sl) (f : A → Option (Key × Sl)) (hC : C M) (hz : l.length ≤ sizeLine)
    (h : ∀ a ∈ l, ∀ (k1 : Sl → Sl → Mem → Prop) (k0 : Mem → Prop), (∀ e, f a = some e → ∀ y, keyS y = some e.1 → k1 y e.2 M) → (f a = none → k0 M) → g (φ a) dl M fun dl2 M2 => wt dl2 M2 fun k M3 => if k = true then wk dl2 M3 fun y M4 => wv dl2 M4 fun z M5 => k1 y z M5 else k0 M3)
    (hR : R (mergeS [] (l.filterMap f)) M) : dcGo g wt wk wv C dl R (l.map φ) [] M := by
  suffices hs : ∀ (l' : List A) (acc : KS), (∀ a ∈ l', a ∈ l) → acc.length + l'.length ≤ sizeLine → R (mergeS acc (l'.filterMap f)) M → dcGo g wt wk wv C dl R (l'.map φ) acc M from hs l [] (fun _ h => h) (by simpa using hz) hR
  intro l'
  induction l' with
  | nil => intro acc _ _ hR; exact ⟨hC, hR⟩
  | cons a r ih =>
    intro acc hm hl hR
    rw [List.length_cons] at hl
    have hm2 := fun b hb => hm b (List.mem_cons_of_mem _ hb)
    refine ⟨hC, h a (hm a List.mem_cons_self) (fun y z M5 => ∃ kk, keyS y = some kk ∧ acc.length < sizeLine ∧ dcGo g wt wk wv C dl R (r.map φ) (putS acc kk z) M5) (dcGo g wt wk wv C dl R (r.map φ) acc) (fun e he y hy => ⟨e.1, hy, by omega, ?_⟩) fun he => ?_⟩
    · rw [List.filterMap_cons_some he] at hR
      exact ih _ hm2 (by have := putS_len acc e.1 e.2; omega) hR
    · rw [List.filterMap_cons_none he] at hR
      exact ih _ hm2 (by omega) hR
end DL

set_option Elab.async false
set_option linter.all false
set_option maxRecDepth 100000
set_option maxHeartbeats 4000000
/-! EW: for a, b in zip(a tuple, a list). -/
namespace DL
open PySem PySem.Spec PyProof.Rows L2
/-- the tuple's and the list's items, in new pairs -/
def ItzX (K : PySem.W.Frag) (a b : Addr) : It :=
  ⟨fun i H => ∃ (xs ys : List V) (x y : V), SqT K H a xs ∧ SqL K H b ys ∧ xs[i]? = some x ∧ ys[i]? = some y,
    fun i H v H' => ∃ T x y, v = .ref T ∧ H T = none ∧ H' = upd H T (.tup [x, y]) ∧ (∀ xs, SqT K H a xs → xs[i]? = some x) ∧ ∀ ys, SqL K H b ys → ys[i]? = some y,
    fun i H => ∃ xs ys : List V, SqT K H a xs ∧ SqL K H b ys ∧ i = min xs.length ys.length⟩
theorem turn_zipX {P : Program} {w : World} {K : PySem.W.Frag} {elts : List Expr} {kk : Nat} {tpos : Pos} {a b z TI TO i1 i2 : Addr} (hna : a ≠ i1) (hne : b ≠ i2) (D : ZipSep2 z TI TO i1 i2 [i1, a] [i2, b]) :
    Turn P w K (.Tuple elts kk tpos) (ItzX K a b) [z, TI, TO, i1, i2] z (fun i h => IsZip h z TI TO .none ∧ IsTupOf2 h TI (.ref i1) (.ref i2) ∧ (∃ x y, IsTupOf2 h TO x y) ∧ h.IsTupleIter i1 a i ∧ h.IsListIter i2 b i) where
  mem := by simp
  obj := fun i h st c hc => by
    obtain ⟨hz, hTI, ⟨x, y, hTO⟩, ⟨o1, e1, _, d1⟩, ⟨o2, e2, _, d2⟩⟩ := st
    have e' : c = z ∨ c = TI ∨ c = TO ∨ c = i1 ∨ c = i2 := by simpa using hc
    rcases e' with q | q | q | q | q
    · rw [q]; exact ⟨_, hz, fun v q => nomatch q⟩
    · rw [q]; exact ⟨_, hTI, fun v q => nomatch q⟩
    · rw [q]; exact ⟨_, hTO, fun v q => nomatch q⟩
    · rw [q]; exact ⟨o1, e1, fun v q => by rw [d1] at q; cases q⟩
    · rw [q]; exact ⟨o2, e2, fun v q => by rw [d2] at q; cases q⟩
  keep := fun i h h' st k => by
    obtain ⟨hz, hTI, ⟨x, y, hTO⟩, h1, h2⟩ := st
    exact ⟨k z (by simp) _ hz, k TI (by simp) _ hTI, ⟨x, y, k TO (by simp) _ hTO⟩, h1.at fun o q => k i1 (by simp) o q, h2.at fun o q => k i2 (by simp) o q⟩
  item := by
    intro X hP hw hK hc i pins s σ H E I hf st hg
    subst hP hw hK
    obtain ⟨hz, hTI, ⟨x0, y0, hTO⟩, h1, h2⟩ := st
    obtain ⟨xs, ys, x, y, hqx, hqy, hx, hy⟩ := hg
    obtain ⟨its, rv, p1, _⟩ := I.tuple hqx
    obtain ⟨its2, rv2, p2, _⟩ := I.list hqy
    obtain ⟨u, hu, ru⟩ := rv.get hx
    obtain ⟨u2, hu2, ru2⟩ := rv2.get hy
    have hzl : z < s.heap.objs.size := Heap.lt_size hz
    have hh : X.A.in1.handled = none := by have := I.ok.hd hc; simp [this]
    have D1 := Draws.tuple (prog := X.prog) (w := X.w) hh i1 a hna its.toArray
    have D2 := Draws.list (prog := X.prog) (w := X.w) hh i2 b hne its2.toArray
    have lt1 : i < its.toArray.size := by
      rw [List.size_toArray]
      exact (List.getElem?_eq_some_iff.mp hu).1
    have lt2 : i < its2.toArray.size := by
      rw [List.size_toArray]
      exact (List.getElem?_eq_some_iff.mp hu2).1
    refine wpAny_pyNext_zipD2_item D D1 D2 hz hTI hTO ⟨h1, p1⟩ ⟨h2, p2.isList⟩ lt1 lt2 fun v1 v2 h' tk y1 y2 z' TO' j1 j2 hT hsz hk => ?_
    have e1 : v1 = u := by
      have q : its[i]? = some v1 := by simpa using y1
      rw [hu] at q
      exact (Option.some.inj q).symm
    have e2 : v2 = u2 := by
      have q : its2[i]? = some v2 := by simpa using y2
      rw [hu2] at q
      exact (Option.some.inj q).symm
    subst e1 e2
    refine ⟨_, rfl, wpAny_letOwnedTupleGo_zip (s := { s with heap := h', toks := tk }) z' fun h'' z'' sb => ?_⟩
    have hT2 : h''.get? s.heap.objs.size = some { cls := .type "tuple", data := .seq #[v1, v2] } := (sb.2 _ (Nat.ne_of_gt hzl)).trans hT
    have new : ObjOk X.prog X.w (upd H s.heap.objs.size (.tup [x, y])) h'' s.heap.objs.size (.tup [x, y]) :=
      ⟨by show 2 ≤ sizeLine; decide, [v1, v2], .cons ru (.cons ru2 .nil), ⟨_, hT2, rfl, _, rfl⟩⟩
    have I1 : Inv X pins σ (upd H s.heap.objs.size (.tup [x, y])) { s with heap := h'', toks := tk } :=
      I.turnedNew (t' := tk) (ch := [z, TI, TO, i1, i2]) (fun c o hb q => (sb.2 c (fun q' => hb (by simp [q']))).trans (hk c o (fun q' => hb (by simp [q'])) (fun q' => hb (by simp [q'])) (fun q' => hb (by simp [q'])) (fun q' => hb (by simp [q'])) q)) hf (Nat.le_refl _) new
    refine ⟨.ref s.heap.objs.size, _, I1, rfl, ⟨_, x, y, rfl, I.hok.fresh (Nat.le_refl _), rfl, fun l hl => by rw [I.tuple_inj hl hqx]; exact hx, fun l hl => by rw [I.list_inj hl hqy]; exact hy⟩, ⟨z'', ?_, ⟨v1, v2, ?_⟩, ?_, ?_⟩, fun c hcm => ?_⟩
    · exact (sb.2 _ D.TIz).trans (hk _ _ D.TIz D.TITO D.TIi1 D.TIi2 hTI)
    · exact (sb.2 _ D.TOz).trans TO'
    · exact j1.1.at fun o q => (sb.2 _ D.zi1.symm).trans q
    · exact j2.1.at fun o q => (sb.2 _ D.zi2.symm).trans q
    · have hlt : c < s.heap.objs.size := by
        have e' : c = z ∨ c = TI ∨ c = TO ∨ c = i1 ∨ c = i2 := by simpa using hcm
        rcases e' with q | q | q | q | q
        · rw [q]; exact hzl
        · rw [q]; exact Heap.lt_size hTI
        · rw [q]; exact Heap.lt_size hTO
        · rw [q]; obtain ⟨_, e1, _⟩ := h1; exact Heap.lt_size e1
        · rw [q]; obtain ⟨_, e2, _⟩ := h2; exact Heap.lt_size e2
      rw [upd_ne (Nat.ne_of_lt hlt)]
      exact (hf c hcm).1
  done := by
    intro X hP hw hK hc i pins s σ H E I hf st hg
    subst hP hw hK
    obtain ⟨hz, hTI, ⟨x0, y0, hTO⟩, h1, h2⟩ := st
    obtain ⟨xs, ys, hqx, hqy, hend⟩ := hg
    obtain ⟨its, rv, p1, _⟩ := I.tuple hqx
    obtain ⟨its2, rv2, p2, _⟩ := I.list hqy
    have l1 := rv.length
    have l2 := rv2.length
    have hh : X.A.in1.handled = none := by have := I.ok.hd hc; simp [this]
    have D1 := Draws.tuple (prog := X.prog) (w := X.w) hh i1 a hna its.toArray
    have D2 := Draws.list (prog := X.prog) (w := X.w) hh i2 b hne its2.toArray
    have b0 : its.toArray.size = its.length := List.size_toArray ..
    have a0 : its2.toArray.size = its2.length := List.size_toArray ..
    have a1 : i ≤ its.toArray.size := by omega
    have a2 : i ≤ its2.toArray.size := by omega
    have a3 : i = its.toArray.size ∨ i = its2.toArray.size := by omega
    exact wpAny_pyNext_zipD2_end D D1 D2 hz hTI hTO ⟨h1, p1⟩ ⟨h2, p2.isList⟩ a1 a2 a3 fun h' tk hk => ⟨rfl, I.turnedL (t' := tk) (ch := [z, TI, TO, i1, i2]) (fun c o hb q =>
      hk c o (fun q' => hb (by simp [q'])) (fun q' => hb (by simp [q'])) (fun q' => hb (by simp [q'])) (fun q' => hb (by simp [q'])) q) hf⟩
  self := fun A i s Q E st h => wpAny_pyIter_zip st.1 h
abbrev zX1 (h : Heap) (l1 : Addr) : Heap := h.push { cls := .type "tuple_iterator", data := .fields #[.ref l1, .int 0 0] }
abbrev zX2 (h : Heap) (l1 l2 : Addr) : Heap := (zX1 h l1).push { cls := .type "list_iterator", data := .fields #[.ref l2, .int 0 0] }
abbrev zX3 (h : Heap) (l1 l2 : Addr) : Heap := (zX2 h l1 l2).push { cls := .type "tuple", data := .seq #[.ref h.objs.size, .ref (zX1 h l1).objs.size] }
abbrev zX4 (h : Heap) (l1 l2 : Addr) : Heap := (zX3 h l1 l2).push { cls := .type "tuple", data := .seq #[.none, .none] }
abbrev zX5 (h : Heap) (l1 l2 : Addr) : Heap := (zX4 h l1 l2).push { cls := .type "zip", data := .fields #[.none, .bool false, .bool false, .ref (zX2 h l1 l2).objs.size, .ref (zX3 h l1 l2).objs.size] }
theorem meets_zipX (l1 l2 : Addr) (xs ys : Array Value) :
    Meets (Builtin.«zip.__new__» ⟨[.type "zip", .ref l1, .ref l2], []⟩) (fun _ R s => s.heap.IsTuple l1 xs ∧ s.heap.IsList l2 ys ∧
      R (.ok (.ret (.ref (zX4 s.heap l1 l2).objs.size))) { s with heap := zX5 s.heap l1 l2 }) :=
  .of_wp fun prog w A R s h => by
    obtain ⟨hp, g, d, tk, os⟩ := s; obtain ⟨hl1, hl2, h⟩ := h
    have hsub := sub_zip
    have hL1 : Heap.IsTuple (Shared.heap ⟨hp, g, d, tk, os⟩) l1 xs := hl1
    have hL2 : Heap.IsList (Shared.heap ⟨hp.push { cls := .type "tuple_iterator", data := .fields #[.ref l1, .int 0 0] }, g, d, tk, os⟩) l2 ys := Heap.IsList.push hl2 _
    wp_walk using wpAny_pyIter_tuple hL1, wpAny_pyIter_list hL2
    exact ⟨_, rfl, h⟩
section
variable {prog : Program} {w : World} {A : Around} {E : Value → Shared → Prop} {s : Shared}
theorem call_zipX {l1 l2 : Addr} {xs ys : Array Value} {Q : Value → Shared → Prop} (hl1 : s.heap.IsTuple l1 xs) (hl2 : s.heap.IsList l2 ys)
    (h : ∀ h', IsZip h' (s.heap.objs.size + 4) (s.heap.objs.size + 2) (s.heap.objs.size + 3) .none → IsTupOf2 h' (s.heap.objs.size + 2) (.ref s.heap.objs.size) (.ref (s.heap.objs.size + 1)) →
      IsTupOf2 h' (s.heap.objs.size + 3) .none .none → h'.IsTupleIter s.heap.objs.size l1 0 → h'.IsListIter (s.heap.objs.size + 1) l2 0 → h'.objs.size = s.heap.objs.size + 5 →
      (∀ c o, s.heap.get? c = some o → h'.get? c = some o) → Q (.ref (s.heap.objs.size + 4)) { s with heap := h' }) :
    wpAny (model prog w) A (call (.type "zip") [.ref l1, .ref l2]) Q E s := by
  refine callType_new F.called_zip (by decide) (F.typeCall_zip_2 _ _) (F.newCall_zip_2 _ _) (fun obj => F.args_object_init_3 obj _ _) F.entry_zip_new
    (meets_zipX l1 l2 xs ys) ⟨hl1, hl2, ?_⟩
  have z1 : (zX1 s.heap l1).objs.size = s.heap.objs.size + 1 := Heap.size_push ..
  have z2 : (zX2 s.heap l1 l2).objs.size = s.heap.objs.size + 2 := by rw [Heap.size_push, z1]
  have z3 : (zX3 s.heap l1 l2).objs.size = s.heap.objs.size + 3 := by rw [Heap.size_push, z2]
  have z4 : (zX4 s.heap l1 l2).objs.size = s.heap.objs.size + 4 := by rw [Heap.size_push, z3]
  have z5 : (zX5 s.heap l1 l2).objs.size = s.heap.objs.size + 5 := by rw [Heap.size_push, z4]
  have g5 : (zX5 s.heap l1 l2).get? (zX4 s.heap l1 l2).objs.size = some _ := Heap.get?_push_size _ rfl
  have g4 : (zX5 s.heap l1 l2).get? (zX3 s.heap l1 l2).objs.size = some _ := Heap.get?_push_of_some _ (Heap.get?_push_size _ rfl)
  have g3 : (zX5 s.heap l1 l2).get? (zX2 s.heap l1 l2).objs.size = some _ := Heap.get?_push_of_some _ (Heap.get?_push_of_some _ (Heap.get?_push_size _ rfl))
  have g2 : (zX5 s.heap l1 l2).get? (zX1 s.heap l1).objs.size = some _ := Heap.get?_push_of_some _ (Heap.get?_push_of_some _ (Heap.get?_push_of_some _ (Heap.get?_push_size _ rfl)))
  have g1 : (zX5 s.heap l1 l2).get? s.heap.objs.size = some _ := Heap.get?_push_of_some _ (Heap.get?_push_of_some _ (Heap.get?_push_of_some _ (Heap.get?_push_of_some _ (Heap.get?_push_size _ rfl))))
  show _ ∧ _
  rw [z2, z3, z4] at g5
  rw [z1, z2] at g3
  rw [z3] at g4
  rw [z1] at g2
  rw [z4]
  exact ⟨⟨_, g5, rfl⟩, h _ g5 g3 g4 ⟨_, g1, rfl, rfl⟩ ⟨_, g2, rfl, rfl⟩ z5 fun c o x =>
    Heap.get?_push_of_some _ (Heap.get?_push_of_some _ (Heap.get?_push_of_some _ (Heap.get?_push_of_some _ (Heap.get?_push_of_some _ x))))⟩
end
section
variable {X : Cx} {e e2 : Expr} {wa : WA} {p pos tpos : Pos} {elts : List Expr} {kk : Nat}
abbrev wiZipX (wa : WA) : WI := fun dl M T => wa dl M fun rs M1 => match rs with
  | [.d (.tuple xs), .d (.list ys)] => T (zipS xs ys) C0 M1
  | _ => False
theorem pdi_zipX (hg : Gl X "zip") (hm : X.mg "zip" = none) (ha : PDA X [e, e2] wa) (hs : starEach [e, e2] X.env = (false, eval e X.env) :: starEach [e2] X.env := by rfl) (hpl : (backTo pos (starEach [e2] X.env)).any (·.1) = false := by rfl) :
    PDI X (.Tuple elts kk tpos) (.Call (.Name "zip" p) [e, e2] [] pos) (wiZipX wa) := by
  refine ⟨fun pins s st H R I h => ?_⟩
  obtain ⟨F, dl, M, T, so, at0, hw, po⟩ := h
  refine Call_ (ld_blt I hg hm PyProof.Rows.boot_zip (PyProof.Rows.callWith_type1 (thn (PA.run ha pos pins s st H (fun vs H1 => ∃ a b xs ys, vs = [.ref a, .ref b] ∧ SqT X.K H1 a xs ∧ SqL X.K H1 b ys ∧ R (ItzX X.K a b) H1) I (tDA_to so at0 hw fun vs F1 H1 rs M1 h1 g1 so1 at1 i1 => ?_)) fun us s1 ⟨vs, H1, I1, r1, q1⟩ => ?_) hs hpl))
  · split at h1
    · rename_i xs ys
      obtain ⟨v, u, rfl, i2, i3⟩ := isAll2 i1
      obtain ⟨a, us, rfl, q1, q2⟩ := sqT_at at1 i2
      have la : ∀ F M H, Evl.Ex F1 F → At X.K F M H → ∃ us, SqT X.K H a us ∧ DqAll X.K F us xs := fun F M H e at' => by
        obtain ⟨c, zs, e2, z1, z2⟩ := sqT_at at' (dq_mono e i2)
        cases e2
        exact ⟨zs, z1, z2⟩
      cases i3 with
      | @lst b ws _ q3 q4 =>
        have lb : ∀ F M H, Evl.Ex F1 F → At X.K F M H → SqL X.K H b ws := fun F M H e at' => SqL.of (at'.ex _ _ (e _ _ q3))
        refine ⟨a, b, us, ws, rfl, q1, SqL.of (at1.ex _ _ q3), po F1 M1 H1 _ _ _ h1 g1 ⟨fun F M H i e at0 c hi => ?_, fun F M H i v H' r e at0 c y hr => ?_, fun F M H e at0 c => ?_⟩⟩
        · rw [zipS_len] at hi
          obtain ⟨us, s1, q2⟩ := la F M H e at0
          obtain ⟨v1, z1, _⟩ := dqAll_get (i := i) q2 (List.getElem?_eq_getElem (by omega))
          obtain ⟨v2, z2, _⟩ := dqAll_get (i := i) q4 (List.getElem?_eq_getElem (by omega))
          exact ⟨us, ws, v1, v2, s1, lb F M H e at0, z1, z2⟩
        · obtain ⟨us, s1, q2⟩ := la F M H e at0
          obtain ⟨Tp, x1, x2, rfl, hT, rfl, hx, hy⟩ := y
          obtain ⟨d1, d2, e1, e2, rfl⟩ := zipS_get hr
          obtain ⟨v1, z1, w1⟩ := dqAll_get (i := i) q2 e1
          obtain ⟨v2, z2, w2⟩ := dqAll_get (i := i) q4 e2
          have hx1 := hx us s1
          have hx2 := hy ws (lb F M H e at0)
          rw [z1] at hx1; rw [z2] at hx2
          obtain rfl : v1 = x1 := Option.some.inj hx1
          obtain rfl : v2 = x2 := Option.some.inj hx2
          have g := Go.laid at0 (o := .tup [v1, v2]) hT
          exact ⟨_, g, _, _, rfl, .inl (.inl upd_same), .cons (dq_mono g.ex w1) (.cons (dq_mono (e.trans g.ex) w2) .nil)⟩
        · obtain ⟨us, s1, q2⟩ := la F M H e at0
          rw [zipS_len]
          exact ⟨us, ws, s1, lb F M H e at0, by rw [dqAll_len q2, dqAll_len q4]⟩
    · exact h1.elim
  · obtain ⟨a, b, xs, ys, ex, hqx, hqy, q⟩ := q1
    subst ex
    cases r1 with
    | cons r rr =>
      cases rr with
      | cons r' rr =>
        cases rr
        cases r
        cases r'
        have fresh5 : ∀ c, c ∈ [s1.heap.objs.size + 4, s1.heap.objs.size + 2, s1.heap.objs.size + 3, s1.heap.objs.size, s1.heap.objs.size + 1] → FpOk X pins H1 c := fun c hcm => by
          have e' : c = s1.heap.objs.size + 4 ∨ c = s1.heap.objs.size + 2 ∨ c = s1.heap.objs.size + 3 ∨ c = s1.heap.objs.size ∨ c = s1.heap.objs.size + 1 := by simpa using hcm
          have hle : s1.heap.objs.size ≤ c := by omega
          exact I1.fpOk hle (I1.hok.fresh hle)
        obtain ⟨its1, rv1, p1, _⟩ := I1.tuple hqx
        obtain ⟨its2, rv2, p2, _⟩ := I1.list hqy
        obtain ⟨o1, ho1, _⟩ := id p1
        obtain ⟨o2, n2, ho2, _⟩ := id p2
        have la : (a : Nat) < s1.heap.objs.size := Heap.lt_size ho1
        have lb : (b : Nat) < s1.heap.objs.size := Heap.lt_size ho2
        refine call_zipX (show s1.heap.IsTuple a its1.toArray from p1) p2.isList fun h' hz hTI hTO h1 h2 hsz hk => wpAny_pyIter_zip hz ?_
        have I2 : Inv X pins st H1 { s1 with heap := h' } := I1.kept (t' := s1.toks) hk
        refine ⟨s1.heap.objs.size + 4, [s1.heap.objs.size + 4, s1.heap.objs.size + 2, s1.heap.objs.size + 3, s1.heap.objs.size, s1.heap.objs.size + 1], _, _, H1, rfl, I2, turn_zipX (fun ev => ?_) (fun ev => ?_) ⟨fun ev => ?_, fun ev => ?_, fun ev => ?_, fun ev => ?_, List.mem_cons_self, fun ev => ?_, fun ev => ?_, fun ev => ?_, List.mem_cons_self, fun ev => ?_, fun ev => ?_, fun ev => ?_, fun ev => ?_⟩, ⟨hz, hTI, ⟨_, _, hTO⟩, h1, h2⟩, fresh5, q⟩
        · exact nl2 (k := 0) la ev
        · exact nl2 (k := 1) lb ev
        all_goals try simp only [List.mem_cons, List.not_mem_nil, or_false] at ev
        all_goals first
          | (have e' : (_ : Nat) = _ := ev; omega)
          | (rcases ev with ev | ev <;> first
             | (have e' : (_ : Nat) = _ := ev; omega)
             | exact nl1 (k := 4) lb ev
             | exact nl1 (k := 3) lb ev
             | exact nl1 (k := 0) lb ev
             | exact nl1 (k := 1) lb ev
             | exact nl1 (k := 4) la ev
             | exact nl1 (k := 3) la ev
             | exact nl1 (k := 0) la ev
             | exact nl1 (k := 1) la ev)
end
end DL

set_option Elab.async false
set_option linter.all false
set_option maxRecDepth 100000
set_option maxHeartbeats 4000000
/-! EX: own exceptions over any base, as values: what the bases are. -/
namespace DL
open PySem PySem.Spec PyProof.Rows L2
/-- what is known of a built-in base of exceptions -/
structure XBase (B newId initId : String) (bm : List Value) : Prop where
  F : ExcBaseFacts B newId initId bm
  S : StoreFacts B bm "object.__setattr__" "object"
  X : PySem.W.KxsFacts B initId
  obj : bm.contains (.type "object") = true
  own : bm.contains (.type B) = true
  along : ∀ K, PySem.W.alongIn K "__init__" bm = some (some (.builtin initId))
theorem xb_ValueError : XBase "ValueError" "ValueError.__new__" "ValueError.__init__" [.type "ValueError", .type "Exception", .type "BaseException", .type "object"] :=
  ⟨F.excBase_ValueError, F.store_ValueError, PySem.W.kxs_ValueError, by decide +kernel, by decide +kernel, fun K => by kernel_rfl⟩
theorem xb_LookupError : XBase "LookupError" "LookupError.__new__" "LookupError.__init__" [.type "LookupError", .type "Exception", .type "BaseException", .type "object"] :=
  ⟨F.excBase_LookupError, F.store_LookupError, PySem.W.kxs_LookupError, by decide +kernel, by decide +kernel, fun K => by kernel_rfl⟩
theorem xb_RuntimeError : XBase "RuntimeError" "RuntimeError.__new__" "RuntimeError.__init__" [.type "RuntimeError", .type "Exception", .type "BaseException", .type "object"] :=
  ⟨F.excBase_RuntimeError, F.store_RuntimeError, PySem.W.kxs_RuntimeError, by decide +kernel, by decide +kernel, fun K => by kernel_rfl⟩
theorem xb_OverflowError : XBase "OverflowError" "OverflowError.__new__" "OverflowError.__init__" [.type "OverflowError", .type "ArithmeticError", .type "Exception", .type "BaseException", .type "object"] :=
  ⟨F.excBase_OverflowError, F.store_OverflowError, PySem.W.kxs_OverflowError, by decide +kernel, by decide +kernel, fun K => by kernel_rfl⟩
/-- a class over such a base, as the top has left it -/
structure XC (K : PySem.W.Frag) (C : Addr) (B newId initId : String) (bm : List Value) : Prop where
  b : XBase B newId initId bm
  cls : ∃ nm q N bs sn sub ab col dd k0 k1 k2 k3 k5, K.lookup C = some (excClassObj nm q C N bs bm true sn sub ab col dd k0 k1 k2 k3 k5 newId)
  sa : PySem.W.findIn K (.ref C) "__setattr__" = some (some (.builtin "object.__setattr__"))
  exC : PySem.W.subIn K (.ref C) (.type "BaseException") = some true
  tyC : PySem.W.typeIn K (.ref C) = some (.type "type")
  kC : PySem.W.keepIn K (.ref C) = true
section
open Builtin Builtin.ObjectAttr
variable {prog : Program} {w : World} {A : Around} {R : Result → Shared → Prop} {hp : Heap} {g : Array GenState} {d : Drawn} {t : Nat} {os : OsState} {B newId initId : String} {bm : List Value}
/-- object.__setattr__ of an exception, down to its own dict -/
theorem osa_x (b : XBase B newId initId bm) {K : PySem.W.Frag} {name : Str} {tk : Tok} {v : Value} {x C : Addr} {ox : Obj} {od : Option Obj} {cd : ClassData}
    (X : K.In hp) (I : PySem.W.InstAt hp x ox C od) (hcd : PySem.W.clsIn K C = some cd) (hm : cd.mro = .ref C :: bm) (ha : PySem.W.findIn K (.ref C) name = some none)
    (hq : wpAny (model prog w) A.in1 (storeInOwnDict (.ref x) (.ref C) (.str name tk) name v false)
      (fun fin s' => match fin with | .done f => R (.ok f) s' | .again c' => c'.quiet = true ∧ codeAny (model prog w) A c' R s') (fun e s' => R (.error e) s') ⟨hp, g, d, t, os⟩) :
    codeAny (model prog w) A (.call (.builtin "object.__setattr__") ⟨[.ref x, .str name tk, v], []⟩) R ⟨hp, g, d, t, os⟩ := by
  have SF := F.store_object
  have sub : PySem.W.Looks (model prog w) hp (isInstance (.ref x) (.type "object")) true := I.type.andThen (PySem.W.looks_mroIn X (by
    unfold PySem.W.mroIn
    rw [hcd, Option.bind_some, hm, if_neg (show ¬ (List.isEmpty (Value.ref C :: bm) = true) from Bool.false_ne_true), List.contains_cons, b.obj, Bool.or_true]))
  refine codeAny_call_builtin SF.slot.plain SF.entry (@PySem.W.check_slot (model prog w) _ _ ⟨hp, g, d, t, os⟩ "object.__setattr__" "object" "__setattr__" (.ref x) [.str name tk, v] [] _ SF.kind SF.split sub (SF.args (.ref x) (.str name tk) v) ?_)
  have hmr : PySem.W.Looks (model prog w) hp (mroOf (.ref C)) cd.mro := (PySem.W.looks_clsIn X hcd).andThen .now
  have L3 : PySem.W.Looks (model prog w) hp (storeTaker? none) none := .now
  have hpass : refuseLoop (.ref x) "__setattr__" cd.mro = pure () := by rw [hm, refuseLoop_ref]; exact b.S.passes _
  rw [PySem.W.osa_eq, refuse_eq]
  refine wpAny_bind (wpAny_bind (I.type.at (wpAny_bind (hmr.at ?_))))
  rw [hpass]
  refine wpAny_pure (wpAny_bind (I.type.at (wpAny_bind ((PySem.W.looks_findIn X ha).at (wpAny_bind (L3.at ?_))))))
  exact hq
/-- the first field: a dict is made -/
theorem osa_x0 (b : XBase B newId initId bm) {K : PySem.W.Frag} {name : Str} {tk : Tok} {v : Value} {x C : Addr} {fv : Array Value} {cd : ClassData}
    (X : K.In hp) (hx : hp.get? x = some { cls := .ref C, data := .fields fv }) (hcd : PySem.W.clsIn K C = some cd) (hm : cd.mro = .ref C :: bm) (hh : cd.hasDict = true) (ha : PySem.W.findIn K (.ref C) name = some none)
    (hq : ∀ h' tk' dx, (∀ b o, b ≠ x → hp.get? b = some o → h'.get? b = some o) → hp.objs.size ≤ dx → dx ≠ x → h'.get? x = some { cls := .ref C, dict := some dx, data := .fields fv } →
      h'.Ns1 dx (fun y => if y = name then some v else none) → R (.ok (.ret .none)) ⟨h', g, d, tk', os⟩) :
    codeAny (model prog w) A (.call (.builtin "object.__setattr__") ⟨[.ref x, .str name tk, v], []⟩) R ⟨hp, g, d, t, os⟩ := by
  have hxs : x ≠ hp.objs.size := Nat.ne_of_lt (Heap.lt_size hx)
  refine osa_x (od := none) b X ⟨hx, rfl, rfl, trivial⟩ hcd hm ha ?_
  have hcls : PySem.W.Looks (model prog w) hp (classData C) cd := PySem.W.looks_clsIn X hcd
  obtain ⟨nm, bs, mro, ns, qn, hd, sn, sb, ab, col, del⟩ := cd
  dsimp only at hh
  subst hh
  unfold storeInOwnDict ownDictForStores
  repeat (first | with_reducible refine PySem.HandSPX.store_in_new ?_ ?_ | with_reducible refine wpAny_loadPart_at hx ?_ | with_reducible refine hcls.at ?_ | wp_step)
  · exact ⟨_, #[], _, (Heap.get?_update_ne _ _ _ _ hxs.symm).trans (Heap.get?_push_at rfl rfl), rfl, fun e he => absurd he (by simp), fun _ => rfl⟩
  · intro h' tk' hn' hs
    refine hq h' tk' hp.objs.size (fun b o hb ho => ?_) (Nat.le_refl _) hxs.symm ?_ hn'
    · exact (hs.2 b (Nat.ne_of_lt (Heap.lt_size ho))).trans ((Heap.get?_update_ne _ _ _ _ hb).trans (Heap.get?_push_of_some _ ho))
    · exact (hs.2 x hxs).trans (Heap.get?_update_self _ (Heap.get?_push_of_some _ hx) rfl)
/-- a further field -/
theorem osa_x1 (b : XBase B newId initId bm) {K : PySem.W.Frag} {name : Str} {tk : Tok} {v : Value} {x C dx : Addr} {fv : Array Value} {cd : ClassData} {m0 : Str → Option Value} {nl : List Str}
    (X : K.In hp) (hx : hp.get? x = some { cls := .ref C, dict := some dx, data := .fields fv }) (hns : hp.Ns1 dx m0) (hw : Within m0 nl) (hz : nl.length ≤ 1000) (hcd : PySem.W.clsIn K C = some cd) (hm : cd.mro = .ref C :: bm) (hh : cd.hasDict = true)
    (ha : PySem.W.findIn K (.ref C) name = some none)
    (hq : ∀ h' tk', (∀ b o, b ≠ dx → hp.get? b = some o → h'.get? b = some o) → h'.Ns1 dx (fun y => if y = name then some v else m0 y) → R (.ok (.ret .none)) ⟨h', g, d, tk', os⟩) :
    codeAny (model prog w) A (.call (.builtin "object.__setattr__") ⟨[.ref x, .str name tk, v], []⟩) R ⟨hp, g, d, t, os⟩ := by
  obtain ⟨oD, _, _, hoD, _, _⟩ := hns.count hw
  refine osa_x (od := some oD) b X ⟨hx, rfl, rfl, hoD⟩ hcd hm ha ?_
  have hcls : PySem.W.Looks (model prog w) hp (classData C) cd := PySem.W.looks_clsIn X hcd
  obtain ⟨nm, bs, mro, ns, qn, hd, sn, sb, ab, col, del⟩ := cd
  dsimp only at hh
  subst hh
  unfold storeInOwnDict ownDictForStores
  repeat (first | with_reducible refine PySem.OEX.store_in_old hns hw hz ?_ | with_reducible refine wpAny_loadPart_at hx ?_ | with_reducible refine hcls.at ?_ | wp_step)
  intro h' tk' hn' hs
  exact hq h' tk' (fun b o hb ho => (hs.2 b hb).trans ho) hn'
end
theorem xcls {K : PySem.W.Frag} {C : Addr} {B newId initId : String} {bm : List Value} (T : XC K C B newId initId bm) : ∃ cd, PySem.W.clsIn K C = some cd ∧ cd.mro = .ref C :: bm ∧ cd.hasDict = true := by
  obtain ⟨nm, q, N, bs, sn, sub, ab, col, dd, k0, k1, k2, k3, k5, hC⟩ := T.cls
  exact ⟨_, by unfold PySem.W.clsIn; rw [hC], rfl, rfl⟩
section
variable {X : Cx} {pins : List (Addr × Obj)} {σ : L2.St} {H : Hp} {s : Shared} {a C dx : Addr} {f : Str} {y : V} {u : Value} {fs : List (Str × V)} {Q : Unit → Shared → Prop} {E : Value → Shared → Prop} {A : Around} {B newId initId : String} {bm : List Value}
/-- self.f = y, the first one -/
theorem ost_x0 (T : XC X.K C B newId initId bm) (I : Inv X pins σ H s) (e : H a = some (exo a C none)) (hno : PySem.W.findIn X.K (.ref C) f = some none) (ry : L2.RelV y u)
    (h : ∀ dx s', H dx = none → dx ≠ a → Inv X pins σ (upd (upd H dx (exd dx [(f, y)])) a (exo a C (some dx))) s' → Q () s') : wpAny (model X.prog X.w) A (setAttr (.ref a) f u) Q E s := by
  obtain ⟨cd, hcl, hm, hh⟩ := xcls T
  obtain ⟨t1, ho⟩ := exo_at I.hok e
  obtain ⟨hp, g, d, t, os⟩ := s
  refine PySem.W.set_plain I.kIn (ox := { cls := .ref C, dict := none, data := .fields #[.ref t1, .none, .none, .none, .bool false, .none] }) (od := none) ⟨ho, rfl, rfl, trivial⟩ T.sa ?_
  refine osa_x0 T.b I.kIn ho hcl hm hh hno (fun h' tk' dx k dn dne hx hn => ?_)
  have hnd : H dx = none := I.hok.fresh dn
  have nd : ∀ {b : Addr} {o : Obj}, hp.get? b = some o → b ≠ dx := fun {b o} q => Nat.ne_of_lt (Nat.lt_of_lt_of_le (Heap.lt_size q) dn)
  have na : ∀ {b : Addr}, H b = none → b ≠ a := fun {b} n z => by
    rw [z, e] at n
    cases n
  have Un1 : Un X.fs [] H (upd (upd H dx (exd dx [(f, y)])) a (exo a C (some dx))) hp h' := {
    keep := fun b o q n _ _ => k b o (na n) q
    slot := fun b o q n _ _ => ⟨o.slots, k b o (na n) q⟩
    free := fun b o q n _ => by rw [upd_ne (na n), upd_ne (nd q)]; exact n
    there := fun b o q _ => by
      by_cases hb : b = a
      · exact ⟨_, by rw [hb]; exact hx⟩
      · exact ⟨o, k b o hb q⟩
    tups := fun b xs q => by rw [upd_ne (at_ne e q exo_tup), upd_ne (ne_of_none q hnd)]; exact q
    frzs := fun b o v q => by rw [upd_ne (at_ne e q exo_frz), upd_ne (ne_of_none q hnd)]; exact q
    tbls := fun b ps q => ⟨#[], by rw [upd_ne (at_ne e q exo_tbl), upd_ne (ne_of_none q hnd), q]; simp⟩ }
  refine h dx _ hnd dne (I.un (t' := tk') Un1 fun b o q => ?_)
  by_cases hb : b = a
  · subst hb
    rw [upd_same] at q
    cases q
    exact exo_ok hx
  · rw [upd_ne hb] at q
    by_cases hd : b = dx
    · subst hd
      rw [upd_same] at q
      cases q
      exact exd_ok hn (relO_put (fs := []) ry fun g => True.intro)
    · rw [upd_ne hd] at q
      exact (I.hok b o q).stay (fun c v hc z => k c v (by
          rcases hc with hc | hc
          · rw [hc]
            exact hb
          · exact at_ne e hc exo_own) z)
        (fun c hc => by rw [upd_ne (at_ne e hc exo_own), upd_ne (ne_of_none hc hnd)]; exact hc) (fun c xs hc => by rw [upd_ne (at_ne e hc exo_tup), upd_ne (ne_of_none hc hnd)]; exact hc)
/-- self.f = y, a further one -/
theorem ost_x1 (T : XC X.K C B newId initId bm) (I : Inv X pins σ H s) (e : H a = some (exo a C (some dx))) (ed : H dx = some (exd dx fs)) (hl : fs.length ≤ 900) (hno : PySem.W.findIn X.K (.ref C) f = some none) (ry : L2.RelV y u)
    (h : ∀ s', Inv X pins σ (upd H dx (exd dx ((f, y) :: fs))) s' → Q () s') : wpAny (model X.prog X.w) A (setAttr (.ref a) f u) Q E s := by
  obtain ⟨cd, hcl, hm, hh⟩ := xcls T
  obtain ⟨t1, ho⟩ := exo_at I.hok e
  obtain ⟨mA, hns, rel⟩ := exd_at I.hok ed
  have hw := within_of rel
  obtain ⟨hp, g, d, t, os⟩ := s
  obtain ⟨oD, _, _, hoD, _, _⟩ := hns.count hw
  refine PySem.W.set_plain I.kIn (ox := { cls := .ref C, dict := some dx, data := .fields #[.ref t1, .none, .none, .none, .bool false, .none] }) (od := some oD) ⟨ho, rfl, rfl, hoD⟩ T.sa ?_
  refine osa_x1 T.b I.kIn ho hns hw (by rw [List.length_map]; omega) hcl hm hh hno (fun h' tk' k hn => ?_)
  have hd : ∃ o, h'.get? dx = some o := by
    obtain ⟨o, _, _, e', _⟩ := hn
    exact ⟨o, e'⟩
  exact h _ (I.write (t' := tk') (x := dx) (e := dx) (o := exd dx ((f, y) :: fs)) (by rw [ed]; exact True.intro) (.inl rfl) k hd (exd_ok hn (relO_put ry rel)))
end
end DL

set_option Elab.async false
set_option linter.all false
set_option maxRecDepth 100000
set_option maxHeartbeats 4000000
/-! EY: super().__init__(..) in an own exception's __init__. -/
namespace DL
open PySem PySem.Spec PyProof.Rows
/-- where super() stands -/
structure SupE (X : L2.Cx) (C f cc cda : Addr) (me : Str) : Prop where
  ks : X.env.kindOf "super" = some .globalImplicit
  kc : X.env.kindOf "__class__" = some .free
  ka : X.env.kindOf me = some .local
  func : X.env.func = some f
  fo : ∃ oc od osl fd ar, X.K.lookup f = some ⟨oc, od, .func fd, osl⟩ ∧ (fd.params.posonlyargs ++ fd.params.args).head? = some ar ∧ ar.arg = me
  code : X.env.code = .ref cda
  co : ∃ ccl cdd vs ccs file tf, X.K.lookup cda = some ⟨ccl, cdd, .fields vs, ccs⟩ ∧ vs[2]? = some (.str file tf) ∧ ((X.prog.main.file : Str) == file) = true
  top : (X.prog.main.scope.names.lookup ("super" : Str)).isSome = false
  cell : X.env.cells.lookup ("__class__" : Str) = some cc
  cel : ∃ cl cld csl, X.K.lookup cc = some ⟨cl, cld, .cell (some (.ref C)), csl⟩
  gl : X.mg "super" = none
  loc : X.N[0]? = some me
  st : PySem.W.nsIn X.K cStatics "thirdparty.any" = some none
section
variable {X : L2.Cx} {pins : List (Addr × Obj)} {σ : L2.St} {H : L2.Hp} {s : Shared} {a C f cc cda : Addr} {self : Str} {B newId initId : String} {bm : List Value} {e : Expr} {es : List Expr} {ta : L2.TA} {p0 p1 ap pos pos' : Pos} {body : List Stmt} {Q : L2.Hp → Prop} {pl : Sem Bool}
theorem sup_at (S : SupE X C f cc cda self) (T : XC X.K C B newId initId bm) (I : L2.Inv X pins σ H s) (hσ : σ[0]? = some (some (.ref a))) (ea : H a = some (L2.exo a C none)) {Q : Value → Shared → Prop} {whole : Sem Value}
    (h : ∀ h', h'.get? s.heap.objs.size = some { cls := .type "super", dict := none, data := .fields #[.ref C, .ref a, .ref C], slots := #[] } → (∀ y o, s.heap.get? y = some o → h'.get? y = some o) → Q (.ref s.heap.objs.size) { s with heap := h' }) :
    _root_.PySem.wpAt (model X.prog X.w) X.A (.func body X.env) (attributeBase (.Call (.Name "super" p0) [] [] p1) "__init__" X.env whole) Q X.xe s := by
  obtain ⟨oc, od, osl, fd, ar, hf, hp, har⟩ := S.fo
  obtain ⟨ccl, cdd, vs, ccs, file, tf, hco, hvs, hfile⟩ := S.co
  obtain ⟨cl, cld, csl, hcel⟩ := S.cel
  obtain ⟨cd, hcl, hm, hh⟩ := xcls T
  obtain ⟨t1, hx⟩ := L2.exo_at I.hok ea
  have XK : X.K.In s.heap := I.kIn
  obtain ⟨oD, hD1, hD2⟩ : ∃ oD, s.heap.get? C = some oD ∧ oD.data = .cls cd := by
    unfold PySem.W.clsIn at hcl
    split at hcl
    · rename_i c d cd' sl ho
      cases hcl
      exact ⟨_, XK _ _ ho, rfl⟩
    · cases hcl
  obtain ⟨mb, b1, b2⟩ := I.mod.blt
  obtain ⟨m, hns, hlook⟩ := I.loc
  obtain ⟨u, ru, hu⟩ := hlook 0 self (.ref a) S.loc hσ (.inl S.ka)
  have hma : m self = some (.ref a) := by
    have e1 : u = .ref a := ru
    subst e1
    rcases hu with ⟨_, q⟩ | ⟨q, _⟩
    · exact q
    · rw [S.ka] at q
      rcases q with q | q <;> cases q
  subst har
  refine ks_wpAt_super_base S.ks S.kc (by decide) S.func (XK _ _ hf) rfl hp S.code (XK _ _ hco) rfl hvs hfile S.top ?_
  have hne : ∀ c, ({ cls := .ref C, dict := none, data := .fields #[.ref t1, .none, .none, .none, .bool false, .none] } : Obj).data ≠ .cls c := fun c z => by cases z
  have hsub : PySem.W.mroIn X.K C (.ref C) = some true := by unfold PySem.W.mroIn; rw [hcl, Option.bind_some, hm, if_neg (show ¬ (List.isEmpty (Value.ref C :: bm) = true) from Bool.false_ne_true), List.contains_cons]; simp
  refine PySem.W.ks_loadName_global I.ok.kind S.ks (Calls.loadGlobal_builtin (by rw [I.ok.glob]; exact I.mod.glob.keeps I.bk) S.gl (by rw [I.ok.blt]; exact b1.keeps I.bk) ((b2 _ (by decide +kernel)).trans (by rfl)) ⟨rfl, ?_⟩)
  refine wpAny_loadName_free I.ok.kind S.kc S.cell ⟨_, XK _ _ hcel, rfl⟩ ?_
  refine wpAny_loadName_local I.ok.kind S.ka hns hma ?_
  refine ks_wpAny_isType_cls hD1 hD2 ⟨rfl, ?_⟩
  obtain ⟨hp2, g, d, t, os⟩ := s
  exact ks_wpAny_call_super hD1 hD2 hx rfl hne (PySem.W.looks_mroIn XK hsub) fun h' e1 k => h h' e1 k
theorem sup_stmt (S : SupE X C f cc cda self) (T : XC X.K C B newId initId bm) (hn : PySem.W.subIn X.K (.ref C) (.type B) = some true) (ha : L2.PA X (e :: es) ta) (I : L2.Inv X pins σ H s) (hσ : σ[0]? = some (some (.ref a))) (ea : H a = some (L2.exo a C none))
    (h : ta σ H fun vs H1 => vs.length ≤ 1000 ∧ H1 a = some (L2.exo a C none) ∧ Q H1)
    (hc : eval (.Call (.Attribute (.Call (.Name "super" p0) [] [] p1) "__init__" ap) (e :: es) [] pos) X.env = (do
      let ov ← attributeBase (.Call (.Name "super" p0) [] [] p1) "__init__" X.env (eval (.Call (.Name "super" p0) [] [] p1) X.env)
      standAt ap.atName
      let (f, first) ← holding [ov] (getMethod ov "__init__" pl)
      callWith pos f first (backTo pos (starEach (e :: es) X.env)) []) := by rfl)
    (he : starEach (e :: es) X.env = (false, eval e X.env) :: starEach es X.env := by rfl) (hpl : (backTo pos (starEach es X.env)).any (·.1) = false := by rfl) :
    _root_.PySem.wpAt (model X.prog X.w) X.A (.func body X.env) (eval (.Call (.Attribute (.Call (.Name "super" p0) [] [] p1) "__init__" ap) (e :: es) [] pos) X.env) (fun _ s' => ∃ H', L2.Inv X pins σ H' s' ∧ Q H') X.xe s := by
  obtain ⟨cd, hcl, hm, hh⟩ := xcls T
  refine ks_wpAt_MethodCall (sup_at S T I hσ ea fun h' hso k => ?_) hc
  have I1 : L2.Inv X pins σ H { s with heap := h' } := I.kept k
  obtain ⟨t1, hx⟩ := L2.exo_at I1.hok ea
  have XK : X.K.In h' := I1.kIn
  have lt : ∀ {b o}, h'.get? b = some o → b < h'.objs.size := fun q => Heap.lt_size q
  have hI : PySem.W.Looks (model X.prog X.w) h' (isInstance (.ref a) (.type B)) true := (PySem.W.InstAt.type (od := none) ⟨hx, rfl, rfl, trivial⟩).andThen (PySem.W.looks_subIn XK hn)
  have hac : a ≠ C := PySem.W.ks_ne XK (odx := none) ⟨hx, rfl, rfl, trivial⟩ hcl
  obtain ⟨hp0, g, d, t, os⟩ := s
  refine PySem.W.kxs_getMethod T.b.X hso (PySem.W.looks_opaque XK S.st) (l₀ := cd.mro) (fun A Q E s k q => wpAny_bind ((PySem.W.looks_clsIn XK hcl) A _ E s k (wpAny_pure q))) rfl XK (by rw [hm, show ((Value.ref C :: bm).dropWhile (· != .ref C)).drop 1 = bm from by simp [List.dropWhile_cons]]; exact T.b.along _) hI hac (by decide) ?_
  have fp := I1.fpOk (Nat.le_refl _) (I1.hok.fresh (Nat.le_refl _))
  have I2 : L2.Inv X pins σ H ⟨h'.push (PySem.W.kxs_mw initId a), g, d, t + 1, os⟩ := I1.kept (t' := t + 1) fun b o q => Heap.get?_push_of_some _ q
  have hu : (h'.push (PySem.W.kxs_mw initId a)).get? h'.objs.size = some (PySem.W.kxs_mw initId a) := Heap.get?_push_at rfl rfl
  have I3 : L2.Inv X (pins ++ [(h'.objs.size, PySem.W.kxs_mw initId a)]) σ H ⟨h'.push (PySem.W.kxs_mw initId a), g, d, t + 1, os⟩ := I2.pins_of fun p hp => (List.mem_append.mp hp).elim (fun z => I2.pin p (List.mem_append_right _ z)) fun z => by
    rw [List.mem_singleton] at z
    subst z
    obtain ⟨f0, f1, f2, _⟩ := fp
    exact ⟨hu, f0, f1, f2, fun v q => by cases q⟩
  show wpAny _ _ (callWith pos (.ref h'.objs.size) [] (backTo pos (starEach (e :: es) X.env)) []) _ _ _
  have hpl2 : (backTo pos (starEach (e :: es) X.env)).any (·.1) = false := by rw [he]; show (false || (backTo pos (starEach es X.env)).any (·.1)) = false; rw [hpl]; rfl
  refine PySem.W.kxs_callWith (i := initId) (x := a) hpl2 ?_
  have key : wpAny (model X.prog X.w) X.A (spliced (backTo pos (starEach (e :: es) X.env))) (fun vs s₁ => PySem.W.KxsAt initId h'.objs.size a s₁.heap ∧ wpAny (model X.prog X.w) X.A (call (.ref h'.objs.size) vs) (fun _ s' => ∃ H', L2.Inv X pins σ H' s' ∧ Q H') X.xe s₁) X.xe ⟨h'.push (PySem.W.kxs_mw initId a), g, d, t + 1, os⟩ := by
    refine L2.thn (ha.run pos (pins ++ [(h'.objs.size, PySem.W.kxs_mw initId a)]) _ σ H _ I3 h) fun us s1 ⟨vs, H1, I4, r1, hz, ea1, q⟩ => ?_
    have hu1 : s1.heap.get? h'.objs.size = some (PySem.W.kxs_mw initId a) := (I4.pin _ (List.mem_append_right _ (List.mem_append_right _ (List.mem_singleton.mpr rfl)))).1
    refine ⟨hu1, ?_⟩
    have I5 : L2.Inv X pins σ H1 s1 := I4.unpinned
    obtain ⟨t2, hx1⟩ := L2.exo_at I5.hok ea1
    obtain ⟨nm, qn, N, bs, sn, sub, ab, col, dd, k0, k1, k2, k3, k5, hC⟩ := T.cls
    have hC1 := I5.kIn _ _ hC
    have hus : us.length ≤ sizeLine := by
      rw [← Paired.length r1, sizeLine_eq]
      omega
    obtain ⟨h1, g1, d1, tk1, os1⟩ := s1
    refine wpAny_call (codeAny_of_tree ?_)
    show wpAny _ X.A.in1 (callAny (.ref h'.objs.size) ⟨us, []⟩) _ _ _
    simp only [callAny]
    refine wpAny_bind (wpAny_load hu1 ?_)
    simp only [PySem.W.kxs_mw, show (Value.type "method-wrapper" == Value.type "method" || Value.type "method-wrapper" == Value.type "builtin_function_or_method" || Value.type "method-wrapper" == Value.type "method-wrapper") = true by decide, if_true]
    refine PySem.W.KFB.if_so (by decide) ?_
    refine wpAny_bind (PySem.W.check_bound_init T.b.F.toExcCallFacts hC1 hx1 rfl ?_)
    refine wpAny_bind (wpAny_pure (wpAny_pure ?_))
    refine ⟨PySem.plainId_quiet T.b.F.init.plain _, codeAny_builtin T.b.F.initEntry ?_⟩
    refine PySem.W.exc_init_tree (cls := .ref C) (t0 := t2) (dv := none) (c2 := .none) (c3 := .none) (b4 := .bool false) hx1 hus fun h2 k4 e4 _ => ?_
    have J := I5.write (t' := tk1) (x := a) (e := a) (o := L2.exo a C none) (by rw [ea1]; exact True.intro) (.inl rfl) k4 ⟨_, e4⟩ (L2.exo_ok e4)
    have eu : L2.upd H1 a (L2.exo a C none) = H1 := by
      funext b
      by_cases hb : b = a
      · rw [hb, L2.upd_same, ea1]
      · rw [L2.upd_ne hb]
    rw [eu] at J
    exact ⟨H1, J, q⟩
  rw [he] at key ⊢
  exact PySem.Calls.evalArgs_plain key
end
end DL

set_option Elab.async false
set_option linter.all false
set_option maxRecDepth 100000
set_option maxHeartbeats 4000000
/-! EZ: an __init__ whose first statement is super().__init__(..). -/
namespace DL
open PySem PySem.Spec PyProof.Rows
/-- the def at f, as the top has left it: it knows its class C by a cell -/
structure XFn (K : PySem.W.Frag) (f C : Addr) (F : NdefX.NF) (cc : Addr) : Prop where
  lk : ∃ oc od doc pm ctv osl, K.lookup f = some ⟨oc, od, .func (F.fd doc pm ctv), osl⟩
  cl : F.cl = [(("__class__" : Str), cc)]
  cd : PySem.W.codeIn K (.ref F.c) F.qual = true
  cel : ∃ cl cld csl, K.lookup cc = some ⟨cl, cld, .cell (some (.ref C)), csl⟩
section
variable {P : Program} {w : World} {K : PySem.W.Frag} {mg : Str → Option Value} {base : Heap} {CX : L2.CXT} {N ps : List Str} {F : NdefX.NF} {f C cc : Addr} {k : Nat} {sp : L2.Sp}
theorem fnX_of (T : XFn K f C F cc) (S : NdefX.NScope N ps ["__class__"] F.scope) (len : ∀ vs H Q E, sp vs H Q E → vs.length = ps.length)
    (hbody : ∀ (A : Around) (outer : List Env) (s s1 : Shared) (H : L2.Hp) (vs : List L2.V) (Q : L2.VK) (E : L2.XK), A.guards = some [] → L2.Room k (A.deeper (NdefX.envF F f s.heap.objs.size)) → sp vs H Q E → L2.Inv (NdefX.ncx CX P w K mg base N F f A outer s H E) [] (NdefX.startF N vs [some (.ref C)]) H s1 →
      _root_.PySem.wpAt (model P w) (A.deeper (NdefX.envF F f s.heap.objs.size)) (.func F.body (NdefX.envF F f s.heap.objs.size)) (execs F.body (NdefX.envF F f s.heap.objs.size))
        (fun fl s' => ∃ H' σ', L2.Inv (NdefX.ncx CX P w K mg base N F f A outer s H E) [] σ' H' s' ∧ Q .non H' ∧ fl = .next) (NdefX.ncx CX P w K mg base N F f A outer s H E).xe s1) :
    ∀ (A : Around) (outer : List Env) (s : Shared) (H : L2.Hp) (args : Args) (us : List Value) (vs : List L2.V) (Q : L2.VK) (E : L2.XK), A.guards = some [] → L2.Room (k + 1) A → L2.Env0 P w K mg base A outer s H → (∀ doc pm ctv : Value, bindArgs (F.fd doc pm ctv) args = pure (ps.zip us)) → L2.Vals vs us → sp vs H Q E →
      codeAny (model P w) A (.call (.ref f) args) (L2.CR CX outer P w H s Q E) s := by
  intro A outer s H args us vs Q E hgd hr e0 hb r hsp
  have hl := len _ _ _ _ hsp
  have KX : K.In s.heap := e0.mod.kin.keeps fun b o e => (e0.bs b o e).1
  have lim : s.heap.NoLimit := e0.mod.nolimit.keeps fun b o e => (e0.bs b o e).1
  obtain ⟨oc, od, doc, pm, ctv, osl, lk⟩ := T.lk
  obtain ⟨cl, cld, csl, hcel⟩ := T.cel
  refine ks_codeAny_call_defAt (fd := F.fd doc pm ctv) (body := F.body) (binds := ps.zip us) hr.depth (KX _ _ lk) rfl lim (PySem.W.codeRec_of KX T.cd) rfl ?_ S.nocell (fun ⟨n, _⟩ hy => S.par n (List.of_mem_zip hy).1) (fun h₁ hns kp => ?_) S.co S.gen S.kind
  · exact .of_eq (hb doc pm ctv)
  · have c1 : ∀ y c, F.cl.lookup y = some c → y = "__class__" ∧ c = cc := fun y c e => by
      rw [T.cl] at e
      by_cases h : y = ("__class__" : Str)
      · subst h
        simp [List.lookup] at e
        exact ⟨rfl, e.symm⟩
      · have : (y == ("__class__" : Str)) = false := by simpa using h
        simp [List.lookup, this] at e
    have c2 : s.heap.IsCell cc (some (.ref C)) := ⟨_, KX _ _ hcel, rfl⟩
    have cells : NdefX.CellsAt F.cl ["__class__"] [some (.ref C)] s.heap H := by
      refine ⟨rfl, fun y c e => ?_, fun x y c e1 e2 => (c1 x c e1).1.trans (c1 y c e2).1.symm, fun i y hi => ?_⟩
      · obtain ⟨_, rfl⟩ := c1 y c e
        exact ⟨(e0.bs _ _ (e0.mod.kin _ _ hcel)).2, _, c2⟩
      · cases i with
        | succ i => simp at hi
        | zero =>
          simp at hi
          subst hi
          exact ⟨cc, by rw [T.cl]; simp [List.lookup], fun v hv => by simp at hv; subst hv; exact ⟨_, rfl, c2⟩⟩
    have I : L2.Inv (NdefX.ncx CX P w K mg base N F f A outer s H E) [] (NdefX.startF N vs [some (.ref C)]) H { s with heap := h₁, toks := s.toks + (ps.zip us).length } := NdefX.inv_startN S hr.hd e0 hl r cells hns kp
    have q := hbody A outer s _ H vs Q E hgd (hr.deeper _) hsp I
    refine ks_wpAt_mono q (fun fl s' hs => ?_) fun e s' hs => hs
    obtain ⟨H', σ', J, hq, rfl⟩ := hs
    exact ⟨.non, H', J.os, J.bare, J.base, J.hok, rfl, hq⟩
theorem fnX_init {B newId initId : String} {bm : List Value} {me : Str} {e : Expr} {es : List Expr} {rest : List Stmt} {p0 p1 ap pos pos' : Pos} {pl : Sem Bool} (T : XFn K f C F cc) (S : NdefX.NScope N ps ["__class__"] F.scope) (len : ∀ vs H Q E, sp vs H Q E → vs.length = ps.length)
    (SE : ∀ (A : Around) (outer : List Env) (s : Shared) (H : L2.Hp) (E : L2.XK), SupE (NdefX.ncx CX P w K mg base N F f A outer s H E) C f cc F.c me) (XT : XC K C B newId initId bm) (hn : PySem.W.subIn K (.ref C) (.type B) = some true)
    (hF : F.body = .Expr (.Call (.Attribute (.Call (.Name "super" p0) [] [] p1) "__init__" ap) (e :: es) [] pos) pos' :: rest)
    (hc : ∀ env : Env, eval (.Call (.Attribute (.Call (.Name "super" p0) [] [] p1) "__init__" ap) (e :: es) [] pos) env = (do
      let ov ← attributeBase (.Call (.Name "super" p0) [] [] p1) "__init__" env (eval (.Call (.Name "super" p0) [] [] p1) env)
      standAt ap.atName
      let (f, first) ← holding [ov] (getMethod ov "__init__" pl)
      callWith pos f first (backTo pos (starEach (e :: es) env)) []))
    (hsw : ∀ env : Env, swapsWith (.Call (.Attribute (.Call (.Name "super" p0) [] [] p1) "__init__" ap) (e :: es) [] pos) none pos'.line env = pure false)
    (he : ∀ env : Env, starEach (e :: es) env = (false, eval e env) :: starEach es env) (hpl : ∀ env : Env, (backTo pos (starEach es env)).any (·.1) = false)
    (hbody : ∀ (A : Around) (outer : List Env) (s : Shared) (H : L2.Hp) (vs : List L2.V) (Q : L2.VK) (E : L2.XK), A.guards = some [] → L2.Room k (A.deeper (NdefX.envF F f s.heap.objs.size)) → sp vs H Q E → ∃ a ta t, vs[0]? = some (.ref a) ∧ H a = some (L2.exo a C none) ∧
      L2.PA (NdefX.ncx CX P w K mg base N F f A outer s H E) (e :: es) ta ∧ L2.PSs (NdefX.ncx CX P w K mg base N F f A outer s H E) rest t ∧
      ta (NdefX.startF N vs [some (.ref C)]) H fun ws H1 => ws.length ≤ 1000 ∧ H1 a = some (L2.exo a C none) ∧ t { nx := fun _ H' => Q .non H', rt := fun _ _ => False } (NdefX.startF N vs [some (.ref C)]) H1) :
    ∀ (A : Around) (outer : List Env) (s : Shared) (H : L2.Hp) (args : Args) (us : List Value) (vs : List L2.V) (Q : L2.VK) (E : L2.XK), A.guards = some [] → L2.Room (k + 1) A → L2.Env0 P w K mg base A outer s H → (∀ doc pm ctv : Value, bindArgs (F.fd doc pm ctv) args = pure (ps.zip us)) → L2.Vals vs us → sp vs H Q E →
      codeAny (model P w) A (.call (.ref f) args) (L2.CR CX outer P w H s Q E) s := by
  refine fnX_of T S len fun A outer s s1 H vs Q E hgd hr hsp I => ?_
  obtain ⟨a, ta, t, h0, ea, hPA, hPS, hq⟩ := hbody A outer s H vs Q E hgd hr hsp
  have hσ : (NdefX.startF N vs [some (.ref C)])[0]? = some (some (.ref a)) := by
    unfold NdefX.startF
    cases vs with
    | nil => cases h0
    | cons v r => simp at h0; subst h0; rfl
  rw [hF]
  refine ks_wpAt_execs_cons (ks_wpAt_Expr_any (hi := by unfold interactive; rw [show (NdefX.envF F f s.heap.objs.size).scope.kind = .function from S.kind]; rfl) (hs := hsw _) (ks_wpAt_mono (sup_stmt (SE A outer s H E) XT hn hPA I hσ ea hq (hc _) (he _) (hpl _)) (fun _ s2 h2 => ?_) fun _ _ h => h))
  obtain ⟨H2, I2, q2⟩ := h2
  refine wpAt_of_wpAny (wpAny_mono (hPS.run [] s2 _ H2 _ I2 q2) (fun fl s' hs => ?_) fun _ _ h => h)
  cases fl with
  | next =>
    obtain ⟨σ', H', J, q⟩ := hs
    exact ⟨H', σ', J, q, rfl⟩
  | ret u =>
    obtain ⟨_, _, _, _, _, q⟩ := hs
    exact False.elim q
  | brk =>
    obtain ⟨_, _, _, q⟩ := hs
    exact False.elim q
  | cont =>
    obtain ⟨_, _, _, q⟩ := hs
    exact False.elim q
end
section
variable {X : L2.Cx} {C : Addr} {B newId initId : String} {bm : List Value} {o e : Expr} {to te : L2.TE} {f : Str} {p' pos : Pos}
/-- self.f = e, self an exception -/
def tOstX (C : Addr) (f : Str) (to te : L2.TE) : L2.TS := fun D σ H => te σ H fun y H1 => to σ H1 fun x H2 => ∃ a, x = .ref a ∧
  ((H2 a = some (L2.exo a C none) ∧ ∀ dx, H2 dx = none → dx ≠ a → D.nx σ (L2.upd (L2.upd H2 dx (L2.exd dx [(f, y)])) a (L2.exo a C (some dx)))) ∨
    ∃ (dx : Addr) (fs : List (Str × L2.V)), H2 a = some (L2.exo a C (some dx)) ∧ H2 dx = some (L2.exd dx fs) ∧ fs.length ≤ 900 ∧ D.nx σ (L2.upd H2 dx (L2.exd dx ((f, y) :: fs))))
theorem ps_ostX (T : XC X.K C B newId initId bm) (hno : PySem.W.findIn X.K (.ref C) f = some none) (ho : L2.PE X o to) (he : L2.PE X e te) (hs : swapsWith e (some (.Attribute o f p')) pos.line X.env = pure false := by rfl) : L2.PS X (.Assign [.Attribute o f p'] e pos) (tOstX C f to te) := by
  refine ⟨fun pins s σ H D I h => ?_⟩
  refine plainObj_wpAny_Assign_Attribute (L2.thn (he.run pins s σ H _ I h) fun v s1 ⟨y, H1, I1, r1, q1⟩ => L2.thn (ho.run pins s1 σ H1 _ I1 q1) fun u s2 ⟨x, H2, I2, r2, a, ex, q⟩ => ?_) hs
  subst ex
  obtain rfl : u = Value.ref a := r2
  rcases q with ⟨ea, q⟩ | ⟨dx, fs, ea, ed, hl, q⟩
  · exact ost_x0 T I2 ea hno r1 fun dx s' n ne J => ⟨σ, _, J, q dx n ne⟩
  · exact ost_x1 T I2 ea ed hl hno r1 fun s' J => ⟨σ, _, J, q⟩
end
end DL

set_option Elab.async false
set_option linter.all false
set_option maxRecDepth 100000
set_option maxHeartbeats 4000000
/-! FA: own exceptions over data: isinstance, fields, how an __init__ ends. -/
namespace DL
open PySem PySem.Spec PyProof.Rows L2
open Evl (Ex)
/-- .. and what the top says of looking into its instances -/
structure XV (K : PySem.W.Frag) (C : Addr) (B newId initId : String) (bm : List Value) : Prop extends XC K C B newId initId bm where
  ga : PySem.W.findIn K (.ref C) "__getattribute__" = some (some (.builtin "BaseException.__getattribute__"))
  gg : PySem.W.findIn K (.ref C) "__getattr__" = some none
  ac : PySem.W.findIn K (.ref C) "__class__" = some (some (.builtin "object.__class__"))
  gt : PySem.W.specialIn K (.builtin "object.__class__") "__get__" = some (some (.builtin "getset_descriptor.__get__"))
  tk : PySem.W.takesIn K (.builtin "object.__class__") = some true
def ExC (K : PySem.W.Frag) (C : Addr) : Prop := ∃ B ni ii bm, XV K C B ni ii bm
/-- the classes of an instance of the class at C -/
def mroT (K : PySem.W.Frag) (C : Addr) : List Value := match PySem.W.clsIn K C with
  | some cd => cd.mro
  | none => []
section
variable {K : PySem.W.Frag} {C D : Addr} {B ni ii : String} {bm : List Value}
theorem XC.mro (T : XC K C B ni ii bm) : mroT K C = .ref C :: bm := by
  obtain ⟨cd, h1, h2, _⟩ := xcls T
  unfold mroT
  rw [h1]
  exact h2
theorem XC.mroIn (T : XC K C B ni ii bm) (c : Value) : PySem.W.mroIn K C c = some ((mroT K C).contains c) := by
  obtain ⟨cd, h1, h2, _⟩ := xcls T
  unfold PySem.W.mroIn mroT
  rw [h1, Option.bind_some]
  dsimp only
  rw [h2, if_neg (show ¬ (List.isEmpty (Value.ref C :: bm) = true) from Bool.false_ne_true)]
theorem XC.hasDict (T : XC K C B ni ii bm) : PySem.W.hasDictIn K C = true := by
  obtain ⟨cd, h1, _, h3⟩ := xcls T
  unfold PySem.W.hasDictIn
  rw [h1]
  exact h3
theorem XC.isCls (T : XC K C B ni ii bm) : (PySem.W.clsIn K C).isSome = true := by
  obtain ⟨cd, h1, _, h3⟩ := xcls T
  rw [h1]
  rfl
theorem XV.kit (T : XV K C B ni ii bm) (x : Addr) (ox : Obj) (od : Option Obj) : PySem.W.KitX K (.ref x) (.ref C) (fun h => PySem.W.InstAt h x ox C od) :=
  PySem.W.kitx_exc T.isCls T.ga T.gg T.exC T.ac T.gt T.tk (by rw [T.mroIn, T.mro, List.contains_cons, T.b.obj, Bool.or_true])
theorem kit_xt (T : XC K C B ni ii bm) {t : String} (h : PySem.W.kitMeta t = true) : PySem.W.kitOne K (.ref C) (.type t) = some ((mroT K C).contains (.type t)) := by
  unfold PySem.W.kitOne PySem.W.kitCls
  rw [if_neg (show ¬ ((Value.ref C == Value.type t) = true) from fun z => by cases beq_iff_eq.mp z)]
  dsimp only
  rw [if_pos h]
  exact T.mroIn _
theorem kit_xc (T : XC K C B ni ii bm) {B' ni' ii' : String} {bm' : List Value} (T' : XC K D B' ni' ii' bm') (hb : bm.all (fun v => match v with | .type _ => true | _ => false) = true) : PySem.W.kitOne K (.ref C) (.ref D) = some (decide (C = D)) := by
  unfold PySem.W.kitOne PySem.W.kitCls
  by_cases h : C = D
  · subst h
    rw [if_pos (by simp)]
    simp
  · rw [if_neg (fun z => h (Value.ref.inj (beq_iff_eq.mp z)))]
    dsimp only
    rw [if_pos (by rw [T'.isCls, T'.tyC]; rfl)]
    refine (T.mroIn _).trans ?_
    rw [T.mro, List.contains_cons]
    have e1 : (Value.ref D == Value.ref C) = false := by
      refine Bool.eq_false_iff.mpr fun z => h ?_
      exact (Value.ref.inj (beq_iff_eq.mp z)).symm
    have e2 : bm.contains (Value.ref D) = false := by
      refine Bool.eq_false_iff.mpr fun z => ?_
      have m := List.contains_iff_mem.mp z
      have := List.all_eq_true.mp hb _ m
      cases this
    rw [e1, e2]
    simp [h]
end
theorem XBase.types {B ni ii : String} {bm : List Value} (h : bm = [.type "ValueError", .type "Exception", .type "BaseException", .type "object"]) : bm.all (fun v => match v with | .type _ => true | _ => false) = true := by rw [h]; rfl
section
variable {X : Cx}
/-- an instance, in the heap -/
theorem x_inst {K : PySem.W.Frag} {F H : Hp} {M : Mem} {P : Program} {w : World} {h : Heap} {a C : Addr} {fs : List (Str × PyData)} (hok : HOk P w H h) (at0 : At K F M H) (x : XAt K F a C fs) :
    ∃ ox od, PySem.W.InstAt h a ox C od ∧ ((fs = [] ∧ od = none) ∨ ∃ dx vs mA o, od = some o ∧ H dx = some (exd dx vs) ∧ h.get? dx = some o ∧ h.Ns1 dx mA ∧ (∀ f, RelO (vs.lookup f) (mA f)) ∧ All2 (fun (p : Str × PyData) (q : Str × V) => p.1 = q.1 ∧ Dq K F q.2 p.2) fs vs) := by
  rcases x with ⟨h1, h2⟩ | ⟨dx, vs, h1, h2, h3⟩
  · obtain ⟨t1, ho⟩ := exo_at hok (at0.ex _ _ h2)
    exact ⟨_, none, ⟨ho, rfl, rfl, trivial⟩, .inl ⟨h1, rfl⟩⟩
  · obtain ⟨t1, ho⟩ := exo_at hok (at0.ex _ _ h1)
    obtain ⟨mA, hns, rel⟩ := exd_at hok (at0.ex _ _ h2)
    obtain ⟨oD, _, _, hoD, _, _⟩ := hns.count (within_of rel)
    exact ⟨_, some oD, ⟨ho, rfl, rfl, hoD⟩, .inr ⟨dx, vs, mA, oD, rfl, at0.ex _ _ h2, hoD, hns, rel, h3⟩⟩
/-! ### isinstance(e, C) -/
def rIsx (K : PySem.W.Frag) : List V → Hp → VK → Prop := fun xs H Q => ∃ F M a C fs c u b, At K F M H ∧ XAt K F a C fs ∧ ExC K C ∧ xs = [.ref a, c] ∧ ClsV c u ∧ PySem.W.kitOne K (.ref C) u = some b ∧ Q (.bl b) H
theorem call_isx : CallR X (.builtin "isinstance") (rIsx X.K) := by
  intro pins s σ H xs us Q I r h
  obtain ⟨F, M, a, C, fs, c, u, b, at0, xa, ⟨B, ni, ii, bm, T⟩, rfl, k, e, q⟩ := h
  obtain ⟨u1, u2, rfl, r1, r2⟩ := vals2 r
  have e2 := k.eq r2
  subst e2
  cases (show u1 = Value.ref a from r1)
  obtain ⟨ox, od, J, _⟩ := x_inst I.hok at0 xa
  exact PySem.W.kia_one (T.kit a ox od) I.kIn J e (fun z => by cases z) fun tk => ⟨.bl b, H, I.tok tk, rfl, q⟩
def rIsxT (K : PySem.W.Frag) : List V → Hp → VK → Prop := fun xs H Q => ∃ F M a C fs tp cs us b, At K F M H ∧ XAt K F a C fs ∧ ExC K C ∧ xs = [.ref a, .ref tp] ∧ H tp = some (.tup cs) ∧ Paired ClsV cs us ∧ PySem.W.kitAny K (.ref C) us = some b ∧ Q (.bl b) H
theorem call_isxT : CallR X (.builtin "isinstance") (rIsxT X.K) := by
  intro pins s σ H xs us Q I r h
  obtain ⟨F, M, a, C, fs, tp, cs, ws, b, at0, xa, ⟨B, ni, ii, bm, T⟩, rfl, hT, k, e, q⟩ := h
  obtain ⟨u1, u2, rfl, r1, r2⟩ := vals2 r
  cases (show u1 = Value.ref a from r1)
  cases (show u2 = Value.ref tp from r2)
  obtain ⟨ox, od, J, _⟩ := x_inst I.hok at0 xa
  obtain ⟨_, its, rv, o, h1, h2, n, h3⟩ := (show ObjOk X.prog X.w H s.heap tp (.tup cs) from I.hok tp _ hT)
  have e3 := ClsV.all k rv
  subst e3
  obtain ⟨oc, od', dt, sl⟩ := o
  simp only at h2 h3
  subst h2 h3
  exact PySem.W.kia_tup (T.kit a ox od) I.kIn J h1 e (fun z => by cases z) fun tk => ⟨.bl b, H, I.tok tk, rfl, q⟩
abbrev gIsx (K : PySem.W.Frag) : WCl := fun rs M R => match rs with
  | [.e C _, .v (.ty t)] => ExC K C ∧ PySem.W.kitMeta t = true ∧ R (.b ((mroT K C).contains (.type t))) M
  | [.e C _, .v (.ref D)] => ExC K C ∧ ∃ b, PySem.W.kitOne K (.ref C) (.ref D) = some b ∧ R (.b b) M
  | _ => False
theorem c_isx : CaD X (.builtin "isinstance") (gIsx X.K) := caD_of fun F H M vs rs R Q at0 i1 h1 po => by
  unfold gIsx at h1
  split at h1
  · obtain ⟨v, u, rfl, i2, i3⟩ := isAll2 i1
    have i4 : u = .ty _ := i3
    subst i4
    obtain ⟨a, rfl, xa⟩ := i2
    obtain ⟨hC, hm, hR⟩ := h1
    obtain ⟨_, _, _, _, T⟩ := id hC
    exact ⟨_, call_isx, F, M, a, _, _, .ty _, _, _, at0, xa, hC, rfl, .ty _, kit_xt T.toXC hm, po _ F H _ M hR (Go.refl at0) (.bl _)⟩
  · obtain ⟨v, u, rfl, i2, i3⟩ := isAll2 i1
    have i4 : u = .ref _ := i3
    subst i4
    obtain ⟨a, rfl, xa⟩ := i2
    obtain ⟨hC, b, hb, hR⟩ := h1
    exact ⟨_, call_isx, F, M, a, _, _, .ref _, _, b, at0, xa, hC, rfl, .own _, hb, po _ F H _ M hR (Go.refl at0) (.bl _)⟩
  · exact h1.elim
/-- an own class, by its name -/
theorem pd_cls {x : Str} {C : Addr} {pos : Pos} (hg : Gl X x) (hm : X.mg x = some (.ref C)) (hd : (x == ("__debug__" : Str)) = false := by decide) : PD X (.Name x pos) (wC (.v (.ref C))) :=
  pe_imp (pe_glob (v := .ref C) hg hm rfl hd) fun st H Q ⟨F, dl, M, R, so, at0, hw, po⟩ => po _ F H _ M hw (Go.refl at0) rfl
/-- isinstance(e, (S, T)), two built-in classes -/
abbrev wIsx2 (K : PySem.W.Frag) (S T : String) (we : WE) : WE := fun dl M R => we dl M fun r M1 => match r with
  | .e C _ => ExC K C ∧ PySem.W.kitMeta S = true ∧ PySem.W.kitMeta T = true ∧ R (.b ((mroT K C).contains (.type S) || (mroT K C).contains (.type T))) M1
  | _ => False
theorem pd_isx2 {K : PySem.W.Frag} {S T : String} {xs xt : Str} {e : Expr} {we : WE} {p ps pt pp pos : Pos} {k : Nat} (he : PD X e we) (hg : Gl X "isinstance") (hm : X.mg "isinstance" = none)
    (gS : Gl X xs) (mS : X.mg xs = none) (vS : bootBuiltins xs = some (.type S)) (gT : Gl X xt) (mT : X.mg xt = none) (vT : bootBuiltins xt = some (.type T))
    (nS : xs ≠ "__name__" := by decide) (dS : (xs == ("__debug__" : Str)) = false := by decide) (nT : xt ≠ "__name__" := by decide) (dT : (xt == ("__debug__" : Str)) = false := by decide)
    (he1 : starEach [e, .Tuple [.Name xs ps, .Name xt pt] k pp] X.env = (false, eval e X.env) :: starEach [.Tuple [.Name xs ps, .Name xt pt] k pp] X.env := by rfl)
    (hpl : (backTo pos (starEach [.Tuple [.Name xs ps, .Name xt pt] k pp] X.env)).any (·.1) = false := by rfl)
    (he2 : starEach [.Tuple [.Name xs ps, .Name xt pt] k pp] X.env = (false, eval (.Tuple [.Name xs ps, .Name xt pt] k pp) X.env) :: starEach [] X.env := by rfl)
    (he3 : starEach [.Name xs ps, .Name xt pt] X.env = (false, eval (.Name xs ps) X.env) :: starEach [.Name xt pt] X.env := by rfl)
    (he4 : starEach [.Name xt pt] X.env = (false, eval (.Name xt pt) X.env) :: starEach [] X.env := by rfl) (hK : X.K = K := by rfl) :
    PD X (.Call (.Name "isinstance" p) [e, .Tuple [.Name xs ps, .Name xt pt] k pp] [] pos) (wIsx2 K S T we) := by
  subst hK
  refine pe_imp (pe_callB call_isxT hg hm (by decide +kernel) (pa_cons he (pa_cons (pe_tup (pa_cons (pe_bltn (v := .ty S) gS mS vS rfl nS dS) (pa_cons (pe_bltn (v := .ty T) gT mT vT rfl nT dT) pa_nil he4) he3)) pa_nil he2) he1) (by decide) (by decide) he1 hpl) fun st H Q ⟨F, dl, M, R, so, at0, hw, po⟩ => ?_
  refine tD_to so at0 hw fun v F1 H1 r M1 h1 g1 so1 at1 i1 => ?_
  split at h1
  · obtain ⟨a, rfl, xa⟩ := i1
    obtain ⟨hC, mS', mT', hR⟩ := h1
    obtain ⟨_, _, _, _, TX⟩ := id hC
    refine ⟨by show 2 ≤ sizeLine; decide, fun q hq => ?_⟩
    have at2 : At X.K F1 M1 (upd H1 q (.tup [.ty S, .ty T])) := at1.hid (at1.freeF hq) (at1.freeM hq)
    have g2 : Go X.K F1 M1 H1 F1 M1 (upd H1 q (.tup [.ty S, .ty T])) := ⟨Ex.refl _, at2, fun a o z1 z2 z3 => ⟨by rw [upd_ne (ne_of_none z1 hq)]; exact z1, z2, z3⟩⟩
    refine ⟨F1, M1, a, _, _, q, [.ty S, .ty T], [.type S, .type T], _, at2, xa, hC, rfl, upd_same, .cons (.ty S) (.cons (.ty T) .nil), ?_, po _ F1 _ _ M1 hR (g1.trans g2) (.bl _)⟩
    refine kitAny_cons (kit_xt TX.toXC mS') (fun e1 => kitAny_cons (kit_xt TX.toXC mT') (fun e2 => ?_) fun e2 => ?_) fun e1 => ?_
    · rw [e1, e2]; exact kitAny_nil
    · rw [e1, e2]; rfl
    · rw [e1]; rfl
  · exact h1.elim
/-! ### e.f -/
def lkX : List (Str × PyData) → Str → Option PyData
  | [], _ => none
  | (g, x) :: r, f => if f == g then some x else lkX r f
theorem lkX_all {K : PySem.W.Frag} {F : Hp} : ∀ {fs : List (Str × PyData)} {vs : List (Str × V)} {f : Str} {x : PyData}, All2 (fun (p : Str × PyData) (q : Str × V) => p.1 = q.1 ∧ Dq K F q.2 p.2) fs vs → lkX fs f = some x → ∃ v, vs.lookup f = some v ∧ Dq K F v x
  | [], _, f, x, .nil, h => by cases h
  | (g, y) :: r, (g', v) :: vs, f, x, .cons h t, hx => by
    obtain ⟨e, i⟩ := h
    have e : g = g' := e
    subst e
    cases hb : (f == g) with
    | true =>
      have e1 : lkX ((g, y) :: r) f = some y := by rw [lkX, hb]; rfl
      have e2 : List.lookup f ((g, v) :: vs) = some v := by rw [List.lookup, hb]
      rw [e1] at hx
      cases hx
      exact ⟨v, e2, i⟩
    | false =>
      have e1 : lkX ((g, y) :: r) f = lkX r f := by rw [lkX, hb]; rfl
      have e2 : List.lookup f ((g, v) :: vs) = List.lookup f vs := by rw [List.lookup, hb]
      rw [e1] at hx
      obtain ⟨u, h1, h2⟩ := lkX_all t hx
      exact ⟨u, by rw [e2]; exact h1, h2⟩
abbrev wFldX (K : PySem.W.Frag) (f : Str) (wo : WE) : WE := fun dl M R => wo dl M fun r M1 => match r with
  | .e C fs => ExC K C ∧ PySem.W.findIn K (.ref C) f = some none ∧ ∃ x, lkX fs f = some x ∧ R (.d x) M1
  | _ => False
theorem pd_fldX {o : Expr} {wo : WE} {f : Str} {pos : Pos} (ho : PD X o wo) (hb : attributeBase o f X.env (eval o X.env) = eval o X.env := by rfl) : PD X (.Attribute o f pos) (wFldX X.K f wo) := by
  refine ⟨fun pins s st H Q I h => ?_⟩
  obtain ⟨F, dl, M, R, so, at0, hw, po⟩ := h
  refine attr_of hb (thn (ho.run pins s st H _ I (tD_to (Q := fun v H1 => ∃ F1 M1 a C fs x, v = .ref a ∧ At X.K F1 M1 H1 ∧ XAt X.K F1 a C fs ∧ ExC X.K C ∧ PySem.W.findIn X.K (.ref C) f = some none ∧ lkX fs f = some x ∧ ∀ y, Dq X.K F1 y x → Q y H1) so at0 hw fun v F1 H1 r M1 h1 g1 so1 at1 i1 => ?_)) fun u s1 hh => ?_)
  · split at h1
    · obtain ⟨a, rfl, xa⟩ := i1
      obtain ⟨hC, hno, x, hx, hR⟩ := h1
      exact ⟨F1, M1, a, _, _, x, rfl, at1, xa, hC, hno, hx, fun y iy => po y F1 H1 _ M1 hR g1 iy⟩
    · exact h1.elim
  · obtain ⟨v, H1, I1, rv, F1, M1, a, C, fs, x, rfl, at1, xa, ⟨B, ni, ii, bm, T⟩, hno, hx, q⟩ := hh
    obtain rfl : u = Value.ref a := rv
    obtain ⟨ox, od, J, hc⟩ := x_inst I1.hok at1 xa
    rcases hc with ⟨rfl, _⟩ | ⟨dx, vs, mA, o, rfl, eH, ho', hns, rel, hall⟩
    · cases hx
    · obtain ⟨y, ly, iy⟩ := lkX_all hall hx
      obtain ⟨od2, ho2, hl⟩ := lookIn_ns hns
      rw [ho'] at ho2
      cases ho2
      obtain ⟨u, hu, ru⟩ := RelO.some_of (v := y) (o := mA f) (by rw [← ly]; exact rel f)
      exact PySem.HandSPX.exc_get I1.kIn J T.ga T.gg T.exC (PySem.W.findObj_own T.hasDict hno rfl (by rw [hl, hu])) (handed_of ru) ⟨y, H1, I1.tok _, ru, q y iy⟩
end
end DL

set_option Elab.async false
set_option linter.all false
set_option maxRecDepth 100000
set_option maxHeartbeats 4000000
/-! FB: own exceptions over data: C(e, ..). -/
namespace DL
open PySem PySem.Spec PyProof.Rows L2
open Evl (Ex)
/-- which fields the __init__ makes of which arguments -/
abbrev XSp := List PyData → List (Str × PyData) → Prop
def spX (K : PySem.W.Frag) (C : Addr) (n : Nat) (xs : XSp) : Sp := fun vs H Q _ => ∃ (a : Addr) (ws : List V) (H1 F : Hp) (M : Mem) (ds : List PyData) (fs : List (Str × PyData)),
  vs = .ref a :: ws ∧ H1 a = none ∧ H = upd H1 a (exo a C none) ∧ At K F M H1 ∧ DqAll K F ws ds ∧ ds.length = n ∧ xs ds fs ∧ ∀ H' F', Go K F M H1 F' M H' → XAt K F' a C fs → Q .non H'
section
variable {K : PySem.W.Frag} {F0 F H1 H2 : Hp} {M : Mem} {a C dx : Addr}
theorem go_exo (h0 : At K F0 M H1) (hn : H1 a = none) {o : HO} : At K F0 M (upd H1 a o) := h0.hid (h0.freeF hn) (h0.freeM hn)
/-- the exception is finished -/
theorem xdone (hn : H1 a = none) (h0 : At K F0 M H1) (g : Go K F0 M (upd H1 a (exo a C none)) F M H2) (hdx : H2 dx = none) (ne : dx ≠ a) {fs : List (Str × PyData)} {vs : List (Str × V)}
    (hall : All2 (fun (p : Str × PyData) (q : Str × V) => p.1 = q.1 ∧ Dq K F q.2 p.2) fs vs) :
    H2 a = some (exo a C none) ∧ ∃ F', Go K F0 M H1 F' M (upd (upd H2 dx (exd dx vs)) a (exo a C (some dx))) ∧ XAt K F' a C fs := by
  obtain ⟨ea, fa, ma⟩ := g.fr a _ upd_same (h0.freeF hn) (h0.freeM hn)
  have fd : F dx = none := g.at'.freeF hdx
  have md : M dx = none := g.at'.freeM hdx
  have eF : Ex F (upd (upd F dx (exd dx vs)) a (exo a C (some dx))) := fun b o q => by
    rw [upd_ne (ne_of_none q fa), upd_ne (ne_of_none q fd)]
    exact q
  refine ⟨ea, _, ⟨g.ex.trans eF, ⟨fun b o q => ?_, fun b o q => ?_⟩, fun b o h1 h2 h3 => ?_⟩, .inr ⟨dx, vs, upd_same, ?_, ?_⟩⟩
  · by_cases hb : b = a
    · subst hb; rw [upd_same] at q ⊢; exact q
    · rw [upd_ne hb] at q ⊢
      by_cases hd : b = dx
      · subst hd; rw [upd_same] at q ⊢; exact q
      · rw [upd_ne hd] at q ⊢
        exact g.at'.ex b o q
  · have hb : b ≠ a := neM q ma
    have hd : b ≠ dx := neM q md
    obtain ⟨q1, q2⟩ := g.at'.mem b o q
    exact ⟨by rw [upd_ne hb, upd_ne hd]; exact q1, mis_mono eF (by rw [upd_ne hb, upd_ne hd]) q2⟩
  · have hb : b ≠ a := ne_of_none h1 hn
    obtain ⟨q1, q2, q3⟩ := g.fr b o (by rw [upd_ne hb]; exact h1) h2 h3
    have hd : b ≠ dx := ne_of_none q1 hdx
    exact ⟨by rw [upd_ne hb, upd_ne hd]; exact q1, by rw [upd_ne hb, upd_ne hd]; exact q2, q3⟩
  · rw [upd_ne ne]; exact upd_same
  · exact hall.imp fun p q z => ⟨z.1, dq_mono eF z.2⟩
end
section
variable {P : Program} {w : World} {K : PySem.W.Frag} {mg : Str → Option Value} {base : Heap} {F : NdefX.NF} {f C cc : Addr} {B ni ii : String} {bm : List Value} {k : Nat}
/-- what an __init__'s call does -/
def RunX (P : Program) (w : World) (K : PySem.W.Frag) (mg : Str → Option Value) (base : Heap) (k : Nat) (C f : Addr) (F : NdefX.NF) (ps : List Str) (n : Nat) (xs : XSp) : Prop :=
  ∀ (A : Around) (outer : List Env) (s : Shared) (H : Hp) (args : Args) (us : List Value) (vs : List V) (Q : VK) (E : XK), A.guards = some [] → Room k A → Env0 P w K mg base A outer s H → (∀ doc pm ctv : Value, bindArgs (F.fd doc pm ctv) args = pure (ps.zip us)) → Vals vs us → spX K C n xs vs H Q E →
    codeAny (model P w) A (.call (.ref f) args) (CR CX0 outer P w H s Q E) s
theorem spX_len {n : Nat} {xs : XSp} {vs : List V} {H : Hp} {Q : VK} {E : XK} (h : spX K C n xs vs H Q E) : vs.length = n + 1 := by
  obtain ⟨a, ws, H1, F, M, ds, fs, rfl, _, _, _, i, e, _⟩ := h
  rw [List.length_cons, dqAll_len i, e]
abbrev xOne (f : Str) (g : PyData → PyData → Prop) : XSp := fun ds fs => ∃ d d', ds = [d] ∧ g d d' ∧ fs = [(f, d')]
abbrev xTwo (f g : Str) : XSp := fun ds fs => ∃ a b, ds = [a, b] ∧ fs = [(g, b), (f, a)]
variable {me p p2 fl fl2 : Str} {p0 p1 ap pos pos' q0 q1 q2 q3 m0 m1 m2 m3 ps2 ps3 : Pos} {pl : Sem Bool}
/-- super().__init__(p); self.fl = p -/
theorem initX_a (T : XFn K f C F cc) (S : NdefX.NScope [me, p, "__class__"] [me, p] ["__class__"] F.scope) (SE : ∀ (A : Around) (outer : List Env) (s : Shared) (H : Hp) (E : XK), SupE (NdefX.ncx CX0 P w K mg base [me, p, "__class__"] F f A outer s H E) C f cc F.c me)
    (XT : XC K C B ni ii bm) (hn : PySem.W.subIn K (.ref C) (.type B) = some true) (hno : PySem.W.findIn K (.ref C) fl = some none)
    (hF : F.body = [.Expr (.Call (.Attribute (.Call (.Name "super" p0) [] [] p1) "__init__" ap) [.Name p q0] [] pos) pos', .Assign [.Attribute (.Name me m0) fl m1] (.Name p q1) ps2])
    (hme : (me == ("__debug__" : Str)) = false) (hme2 : (me == ("__classdict__" : Str)) = false) (hp : (p == ("__debug__" : Str)) = false) (hp2 : (p == ("__classdict__" : Str)) = false)
    (hc : ∀ env : Env, eval (.Call (.Attribute (.Call (.Name "super" p0) [] [] p1) "__init__" ap) [.Name p q0] [] pos) env = (do
      let ov ← attributeBase (.Call (.Name "super" p0) [] [] p1) "__init__" env (eval (.Call (.Name "super" p0) [] [] p1) env)
      standAt ap.atName
      let (f, first) ← holding [ov] (getMethod ov "__init__" pl)
      callWith pos f first (backTo pos (starEach [.Name p q0] env)) []))
    (hsw : ∀ env : Env, swapsWith (.Call (.Attribute (.Call (.Name "super" p0) [] [] p1) "__init__" ap) [.Name p q0] [] pos) none pos'.line env = pure false)
    (he : ∀ env : Env, starEach [.Name p q0] env = (false, eval (.Name p q0) env) :: starEach [] env) (hpl : ∀ env : Env, (backTo pos (starEach [] env)).any (·.1) = false)
    (hs : ∀ env : Env, swapsWith (.Name p q1) (some (.Attribute (.Name me m0) fl m1)) ps2.line env = pure false) : RunX P w K mg base (k + 1) C f F [me, p] 1 (xOne fl fun d d' => d' = d) := by
  refine fnX_init (k := k) (sp := spX K C 1 (xOne fl fun d d' => d' = d)) T S (fun vs H Q E h => spX_len h) SE XT hn hF hc hsw he hpl fun A outer s H vs Q E hgd hr h => ?_
  obtain ⟨a, ws, H1, F0, M, ds, fs, rfl, ha, rfl, at0, iall, hl, ⟨d, d', rfl, rfl, rfl⟩, hq⟩ := h
  cases iall with
  | cons i1 t =>
  cases t
  rename_i y
  have vm : Vis F.scope me := .inl (S.par me (by simp))
  have vp : Vis F.scope p := .inl (S.par p (by simp))
  refine ⟨a, _, _, rfl, upd_same, pa_cons (pe_var (i := 1) rfl vp hp hp2) pa_nil (he _), pss_cons (ps_ostX XT hno (pe_var (i := 0) rfl vm hme hme2) (pe_var (i := 1) rfl vp hp hp2) (hs _)) pss_nil, ?_⟩
  refine ⟨y, rfl, by show 1 ≤ 1000; decide, upd_same, ?_⟩
  refine ⟨y, rfl, .ref a, rfl, a, rfl, .inl ⟨upd_same, fun dx hdx ne => ?_⟩⟩
  obtain ⟨_, F', g, x⟩ := xdone (C := C) ha at0 (Go.refl (go_exo at0 ha)) hdx ne (fs := [(fl, d')]) (vs := [(fl, y)]) (.cons ⟨rfl, i1⟩ .nil)
  exact hq _ F' g x
/-- super().__init__(p); self.fl = g(p), g a def of the module -/
theorem initX_b {cn : Cn} {gg : PyData → PyData → Prop} {ex : Expr} (T : XFn K f C F cc) (S : NdefX.NScope [me, p, "__class__"] [me, p] ["__class__"] F.scope) (SE : ∀ (A : Around) (outer : List Env) (s : Shared) (H : Hp) (E : XK), SupE (NdefX.ncx CX0 P w K mg base [me, p, "__class__"] F f A outer s H E) C f cc F.c me)
    (XT : XC K C B ni ii bm) (hn : PySem.W.subIn K (.ref C) (.type B) = some true) (hno : PySem.W.findIn K (.ref C) fl = some none)
    (hF : F.body = [.Expr (.Call (.Attribute (.Call (.Name "super" p0) [] [] p1) "__init__" ap) [.Name p q0] [] pos) pos', .Assign [.Attribute (.Name me m0) fl m1] ex ps2])
    (hex : ∀ (A : Around) (outer : List Env) (s : Shared) (H : Hp) (E : XK), A.guards = some [] → Room k (A.deeper (NdefX.envF F f s.heap.objs.size)) → PD (NdefX.ncx CX0 P w K mg base [me, p, "__class__"] F f A outer s H E) ex (wCall cn (wCons (wVar 1) wNil)))
    (hcn : ∀ d d' M R, gg d d' → R (.d d') M → cn [.d d] M R)
    (hme : (me == ("__debug__" : Str)) = false) (hme2 : (me == ("__classdict__" : Str)) = false) (hp : (p == ("__debug__" : Str)) = false) (hp2 : (p == ("__classdict__" : Str)) = false)
    (hc : ∀ env : Env, eval (.Call (.Attribute (.Call (.Name "super" p0) [] [] p1) "__init__" ap) [.Name p q0] [] pos) env = (do
      let ov ← attributeBase (.Call (.Name "super" p0) [] [] p1) "__init__" env (eval (.Call (.Name "super" p0) [] [] p1) env)
      standAt ap.atName
      let (f, first) ← holding [ov] (getMethod ov "__init__" pl)
      callWith pos f first (backTo pos (starEach [.Name p q0] env)) []))
    (hsw : ∀ env : Env, swapsWith (.Call (.Attribute (.Call (.Name "super" p0) [] [] p1) "__init__" ap) [.Name p q0] [] pos) none pos'.line env = pure false)
    (he : ∀ env : Env, starEach [.Name p q0] env = (false, eval (.Name p q0) env) :: starEach [] env) (hpl : ∀ env : Env, (backTo pos (starEach [] env)).any (·.1) = false)
    (hs : ∀ env : Env, swapsWith ex (some (.Attribute (.Name me m0) fl m1)) ps2.line env = pure false) : RunX P w K mg base (k + 1) C f F [me, p] 1 (xOne fl gg) := by
  refine fnX_init (k := k) (sp := spX K C 1 (xOne fl gg)) T S (fun vs H Q E h => spX_len h) SE XT hn hF hc hsw he hpl fun A outer s H vs Q E hgd hr h => ?_
  obtain ⟨a, ws, H1, F0, M, ds, fs, rfl, ha, rfl, at0, iall, hl, ⟨d, d', rfl, hg, rfl⟩, hq⟩ := h
  cases iall with
  | cons i1 t =>
  cases t
  rename_i y
  have vm : Vis F.scope me := .inl (S.par me (by simp))
  have vp : Vis F.scope p := .inl (S.par p (by simp))
  refine ⟨a, _, _, rfl, upd_same, pa_cons (pe_var (i := 1) rfl vp hp hp2) pa_nil (he _), pss_cons (ps_ostX XT hno (pe_var (i := 0) rfl vm hme hme2) (hex A outer s _ E hgd hr) (hs _)) pss_nil, ?_⟩
  refine ⟨y, rfl, by show 1 ≤ 1000; decide, upd_same, ?_⟩
  refine ⟨F0, [some (.v (.ref a)), some (.d d), some (.v (.ref C))], M, fun r M' => r = .d d' ∧ M' = M, .cons ⟨_, rfl, rfl⟩ (.cons ⟨_, rfl, i1⟩ (.cons ⟨_, rfl, rfl⟩ .nil)), go_exo at0 ha, ?_, ?_⟩
  · exact ⟨.d d, rfl, hcn d d' M _ hg ⟨rfl, rfl⟩⟩
  · rintro v F1 H2 r M' ⟨rfl, rfl⟩ g i
    refine ⟨.ref a, rfl, a, rfl, .inl ⟨?_, fun dx hdx ne => ?_⟩⟩
    · exact (g.fr a _ upd_same (at0.freeF ha) (at0.freeM ha)).1
    · obtain ⟨_, F', g2, x⟩ := xdone (C := C) ha at0 g hdx ne (fs := [(fl, d')]) (vs := [(fl, v)]) (.cons ⟨rfl, i⟩ .nil)
      exact hq _ F' g2 x
/-- super().__init__(p, p2); self.fl = p; self.fl2 = p2 -/
theorem initX_c (T : XFn K f C F cc) (S : NdefX.NScope [me, p, p2, "__class__"] [me, p, p2] ["__class__"] F.scope) (SE : ∀ (A : Around) (outer : List Env) (s : Shared) (H : Hp) (E : XK), SupE (NdefX.ncx CX0 P w K mg base [me, p, p2, "__class__"] F f A outer s H E) C f cc F.c me)
    (XT : XC K C B ni ii bm) (hn : PySem.W.subIn K (.ref C) (.type B) = some true) (hno : PySem.W.findIn K (.ref C) fl = some none) (hno2 : PySem.W.findIn K (.ref C) fl2 = some none)
    (hF : F.body = [.Expr (.Call (.Attribute (.Call (.Name "super" p0) [] [] p1) "__init__" ap) [.Name p q0, .Name p2 q2] [] pos) pos', .Assign [.Attribute (.Name me m0) fl m1] (.Name p q1) ps2, .Assign [.Attribute (.Name me m2) fl2 m3] (.Name p2 q3) ps3])
    (hme : (me == ("__debug__" : Str)) = false) (hme2 : (me == ("__classdict__" : Str)) = false) (hp : (p == ("__debug__" : Str)) = false) (hp2 : (p == ("__classdict__" : Str)) = false) (hpp : (p2 == ("__debug__" : Str)) = false) (hpp2 : (p2 == ("__classdict__" : Str)) = false)
    (hc : ∀ env : Env, eval (.Call (.Attribute (.Call (.Name "super" p0) [] [] p1) "__init__" ap) [.Name p q0, .Name p2 q2] [] pos) env = (do
      let ov ← attributeBase (.Call (.Name "super" p0) [] [] p1) "__init__" env (eval (.Call (.Name "super" p0) [] [] p1) env)
      standAt ap.atName
      let (f, first) ← holding [ov] (getMethod ov "__init__" pl)
      callWith pos f first (backTo pos (starEach [.Name p q0, .Name p2 q2] env)) []))
    (hsw : ∀ env : Env, swapsWith (.Call (.Attribute (.Call (.Name "super" p0) [] [] p1) "__init__" ap) [.Name p q0, .Name p2 q2] [] pos) none pos'.line env = pure false)
    (he : ∀ env : Env, starEach [.Name p q0, .Name p2 q2] env = (false, eval (.Name p q0) env) :: starEach [.Name p2 q2] env) (he2 : ∀ env : Env, starEach [.Name p2 q2] env = (false, eval (.Name p2 q2) env) :: starEach [] env) (hpl : ∀ env : Env, (backTo pos (starEach [.Name p2 q2] env)).any (·.1) = false)
    (hs : ∀ env : Env, swapsWith (.Name p q1) (some (.Attribute (.Name me m0) fl m1)) ps2.line env = pure false) (hs2 : ∀ env : Env, swapsWith (.Name p2 q3) (some (.Attribute (.Name me m2) fl2 m3)) ps3.line env = pure false) : RunX P w K mg base (k + 1) C f F [me, p, p2] 2 (xTwo fl fl2) := by
  refine fnX_init (k := k) (sp := spX K C 2 (xTwo fl fl2)) T S (fun vs H Q E h => spX_len h) SE XT hn hF hc hsw he hpl fun A outer s H vs Q E hgd hr h => ?_
  obtain ⟨a, ws, H1, F0, M, ds, fs, rfl, ha, rfl, at0, iall, hl, ⟨d, d2, rfl, rfl⟩, hq⟩ := h
  cases iall with
  | cons i1 t =>
  cases t with
  | cons i2 t =>
  cases t
  rename_i y y2
  have vm : Vis F.scope me := .inl (S.par me (by simp))
  have vp : Vis F.scope p := .inl (S.par p (by simp))
  have vp2 : Vis F.scope p2 := .inl (S.par p2 (by simp))
  refine ⟨a, _, _, rfl, upd_same, pa_cons (pe_var (i := 1) rfl vp hp hp2) (pa_cons (pe_var (i := 2) rfl vp2 hpp hpp2) pa_nil (he2 _)) (he _), pss_cons (ps_ostX XT hno (pe_var (i := 0) rfl vm hme hme2) (pe_var (i := 1) rfl vp hp hp2) (hs _)) (pss_cons (ps_ostX XT hno2 (pe_var (i := 0) rfl vm hme hme2) (pe_var (i := 2) rfl vp2 hpp hpp2) (hs2 _)) pss_nil), ?_⟩
  refine ⟨y, rfl, y2, rfl, by show 2 ≤ 1000; decide, upd_same, ?_⟩
  refine ⟨y, rfl, .ref a, rfl, a, rfl, .inl ⟨upd_same, fun dx hdx ne => ?_⟩⟩
  refine ⟨y2, rfl, .ref a, rfl, a, rfl, .inr ⟨dx, _, upd_same, (upd_ne ne).trans upd_same, by show 1 ≤ 900; decide, ?_⟩⟩
  obtain ⟨_, F', g, x⟩ := xdone (C := C) ha at0 (Go.refl (go_exo at0 ha)) hdx ne (fs := [(fl2, d2), (fl, d)]) (vs := [(fl2, y2), (fl, y)]) (.cons ⟨rfl, i2⟩ (.cons ⟨rfl, i1⟩ .nil))
  have e : upd (upd (upd (upd H1 a (exo a C none)) dx (exd dx [(fl, y)])) a (exo a C (some dx))) dx (exd dx [(fl2, y2), (fl, y)]) = upd (upd (upd H1 a (exo a C none)) dx (exd dx [(fl2, y2), (fl, y)])) a (exo a C (some dx)) := by
    funext b
    unfold upd
    by_cases hb : b = dx
    · subst hb; simp [ne]
    · by_cases hc : b = a
      · subst hc; simp [hb]
      · simp [hb, hc]
  rw [← e] at g
  exact hq _ F' g x
end
/-- an own exception class under its name, its __init__ walked -/
structure HasX (P : Program) (w : World) (K : PySem.W.Frag) (mg : Str → Option Value) (base : Heap) (k : Nat) (C : Addr) (x : Str) (F : NdefX.NF) (ps : List Str) (n : Nat) (xs : XSp) : Prop where
  ex : ∃ B ni ii bm f, XV K C B ni ii bm ∧ mg x = some (.ref C) ∧ PySem.W.findIn K (.ref C) "__init__" = some (some (.ref f)) ∧ PySem.W.typeIn K (.ref f) = some (.type "function") ∧ RunX P w K mg base k C f F ps n xs
theorem HasX.exC {P : Program} {w : World} {K : PySem.W.Frag} {mg : Str → Option Value} {base : Heap} {k : Nat} {C : Addr} {x : Str} {F : NdefX.NF} {ps : List Str} {n : Nat} {xs : XSp} (h : HasX P w K mg base k C x F ps n xs) : ExC K C := by
  obtain ⟨_, _, _, _, _, T, _⟩ := h.ex
  exact ⟨_, _, _, _, T⟩
section
variable {X : Cx} {k n : Nat} {C : Addr} {x : Str} {F : NdefX.NF} {ps : List Str} {xs : XSp} {e : Expr} {es : List Expr} {wa : WA} {p pos : Pos}
abbrev wMkX (C : Addr) (n : Nat) (xs : XSp) (wa : WA) : WE := fun dl M R => wa dl M fun rs M1 => ∃ ds fs, datOf rs = some ds ∧ ds.length = n ∧ xs ds fs ∧ R (.e C fs) M1
/-- C(e, ..) -/
theorem pd_mkX (G : HasX X.prog X.w X.K X.mg X.base k C x F ps n xs) (hgd : X.A.guards = some []) (hr : Room (k + 1) X.A) (hg : Gl X x) (hps : ps.length = n + 1) (hn : n ≤ 1000)
    (hb : ∀ (doc pm ctv : Value) (us : List Value), us.length = ps.length → bindArgs (F.fd doc pm ctv) ⟨us, []⟩ = pure (ps.zip us)) (ha : PDA X (e :: es) wa)
    (hdb : (x == ("__debug__" : Str)) = false := by decide) (he : starEach (e :: es) X.env = (false, eval e X.env) :: starEach es X.env := by rfl) (hpl : (backTo pos (starEach es X.env)).any (·.1) = false := by rfl) :
    PD X (.Call (.Name x p) (e :: es) [] pos) (wMkX C n xs wa) := by
  obtain ⟨B, ni, ii, bm, f, T, hm, iC, tI, run⟩ := G.ex
  obtain ⟨nm, q, N, bs, sn, sub, ab, col, dd, k0, k1, k2, k3, k5, hC⟩ := T.cls
  refine ⟨fun pins s st H Q I h => ?_⟩
  obtain ⟨F0, dl, M, R, so, at0, hw, po⟩ := h
  refine wpAny_Call_Name_kw (ld_glob I hg hm ?_ hdb)
  refine PySem.W.callWith_K (h₀ := X.base) I.ok.mod.kin T.kC (thn (PA.run ha pos pins s st H _ I (tDA_to (Q := fun vs H' => ∃ F1 M1 ds fs, At X.K F1 M1 H' ∧ DqAll X.K F1 vs ds ∧ ds.length = n ∧ xs ds fs ∧ ∀ a F2 H2, Go X.K F1 M1 H' F2 M1 H2 → XAt X.K F2 a C fs → Q (.ref a) H2) so at0 hw fun vs F1 H1 rs M1 h1 g1 so1 at1 i1 => ?_)) fun us s1 ⟨vs, H1, I1, r1, hh⟩ => ⟨I1.kIn, ?_⟩) he hpl
  · obtain ⟨ds, fs, hd, hl, hx, hR⟩ := h1
    rw [datOf_eq hd] at i1
    exact ⟨F1, M1, ds, fs, at1, dqAll_of i1, hl, hx, fun a F2 H2 g xa => po _ F2 H2 _ M1 hR (g1.trans g) ⟨a, rfl, xa⟩⟩
  · obtain ⟨F1, M1, ds, fs, at1, i1, hl, hx, hq⟩ := hh
    show wpAny _ _ (call (.ref C) us) _ _ _
    obtain ⟨hp, g, dr, tk, os⟩ := s1
    have hsz : hp.objs.size ≤ hp.objs.size + 1 := Nat.le_succ _
    have hnn : H1 (hp.objs.size + 1) = none := I1.hok.fresh hsz
    have kk : ∀ b o, hp.get? b = some o → ((hp.push (PySem.W.kdv_tup us)).push (PySem.HandSPX.excO C hp.objs.size)).get? b = some o := fun b o e => Heap.get?_push_of_some _ (Heap.get?_push_of_some _ e)
    have hget : ((hp.push (PySem.W.kdv_tup us)).push (PySem.HandSPX.excO C hp.objs.size)).get? (hp.objs.size + 1) = some (PySem.HandSPX.excO C hp.objs.size) := by heap_get
    have I2 : Inv X pins st (upd H1 (hp.objs.size + 1) (exo (hp.objs.size + 1) C none)) ⟨(hp.push (PySem.W.kdv_tup us)).push (PySem.HandSPX.excO C hp.objs.size), g, dr, tk, os⟩ :=
      I1.laid (t' := tk) (a := hp.objs.size + 1) (o := exo (hp.objs.size + 1) C none) kk hsz (exo_ok hget)
    have lu : us.length = n := by rw [← r1.length, dqAll_len i1, hl]
    have hus : us.length ≤ sizeLine := by rw [lu, sizeLine_eq]; omega
    refine wpAny_call (PySem.HandSPX.call_own T.b.F (fun Y => rfl) (I1.kIn _ _ hC) (PySem.W.looks_findIn I1.kIn iC) (fun self => PySem.W.bind_fn I1.kIn self tI) hus
      (codeAny_mono (run _ X.stack _ _ ⟨Value.ref (hp.objs.size + 1) :: us, []⟩ (Value.ref (hp.objs.size + 1) :: us) (V.ref (hp.objs.size + 1) :: vs) (fun v H2 => v = V.non ∧ Q (.ref (hp.objs.size + 1)) H2) E0 (by exact hgd) (hr.make C us []) (I2.env0.make C us [])
        (fun doc pm ctv => hb doc pm ctv _ (by rw [List.length_cons, lu, hps])) (.cons rfl r1) ⟨_, vs, H1, F1, M1, ds, fs, rfl, hnn, rfl, at1, i1, hl, hx, fun H' F' g x => ⟨rfl, hq _ F' H' g x⟩⟩) fun r s' hq' => ?_))
    cases r with
    | error er => exact False.elim hq'
    | ok fl =>
      cases fl with
      | ret u =>
        obtain ⟨v, H', I3, rv, ev, q3⟩ := I2.after hq'
        subst ev
        exact ⟨rv, V.ref (hp.objs.size + 1), H', I3, rfl, q3⟩
      | next => exact False.elim hq'
      | brk => exact False.elim hq'
      | cont => exact False.elim hq'
end
/-- an own exception class without an __init__ of its own -/
structure HasX0 (K : PySem.W.Frag) (mg : Str → Option Value) (C : Addr) (x : Str) : Prop where
  ex : ∃ B ni ii bm, XV K C B ni ii bm ∧ mg x = some (.ref C) ∧ PySem.W.excIn K C bm ni = true
section
variable {X : Cx} {C : Addr} {x : Str} {p pos : Pos}
/-- C() -/
theorem pd_mkX0 (G : HasX0 X.K X.mg C x) (hg : Gl X x) (hdb : (x == ("__debug__" : Str)) = false := by decide) : PD X (.Call (.Name x p) [] [] pos) (fun _ M R => R (.e C []) M) := by
  obtain ⟨B, ni, ii, bm, T, hm, hx⟩ := G.ex
  refine ⟨fun pins s st H Q I h => ?_⟩
  obtain ⟨F0, dl, M, R, so, at0, hw, po⟩ := h
  refine wpAny_Call_Name_kw (ld_glob I hg hm ?_ hdb)
  refine PySem.W.callWith_K0 I.kIn T.kC ?_
  show wpAny _ _ (call (.ref C) []) _ _ _
  obtain ⟨bm', N, nm, qn, bs, hdct, sn, sub, ab, col, dd, k0, k1, k2, k3, k5, mN, hC, hN, hni, TT⟩ := exc_obj I.kIn hx
  refine wpAny_call_exc_subT T.b.F TT hC hN hni (fun h' e hmk => ?_) (by show 0 ≤ sizeLine; exact Nat.zero_le _)
  obtain ⟨t, he, _, _⟩ := hmk.there
  have hn : H e = none := I.hok.gone hmk.new
  have ne : ∀ {b : Addr} {o : Obj}, s.heap.get? b = some o → b ≠ e := fun {b o} q z => by
    rw [z, hmk.new] at q
    cases q
  obtain ⟨hp, g, d, tk, os⟩ := s
  have U : Un X.fs [] H (upd H e (exo e C none)) hp h' := {
    keep := fun b o q _ _ _ => hmk.keeps b o q
    slot := fun b o q _ _ _ => ⟨o.slots, hmk.keeps b o q⟩
    free := fun b o q n _ => by rw [upd_ne (ne q)]; exact n
    there := fun b o q _ => ⟨o, hmk.keeps b o q⟩
    tups := fun b xs q => by rw [upd_ne (ne_of_none q hn)]; exact q
    frzs := fun b o v q => by rw [upd_ne (ne_of_none q hn)]; exact q
    tbls := fun b ps q => ⟨#[], by rw [upd_ne (ne_of_none q hn), q]; simp⟩ }
  have J := I.un (t' := tk) U fun b o q => by
    by_cases hb : b = e
    · subst hb
      rw [upd_same] at q
      cases q
      exact exo_ok he
    · rw [upd_ne hb] at q
      exact (I.hok b o q).stay (fun c v hc z => hmk.keeps c v z) (fun c hc => by rw [upd_ne (ne_of_none hc hn)]; exact hc) (fun c xs hc => by rw [upd_ne (ne_of_none hc hn)]; exact hc)
  have gl := Go.laid at0 (o := exo e C none) hn
  exact ⟨.ref e, _, J, rfl, po _ _ _ _ M hw gl ⟨e, rfl, .inl ⟨rfl, upd_same⟩⟩⟩
end
end DL

set_option Elab.async false
set_option linter.all false
set_option maxRecDepth 100000
set_option maxHeartbeats 4000000
/-! FC: own exceptions over data: C(k = v, ..). -/
namespace DL
open PySem PySem.Spec PyProof.Rows L2
open Evl (Ex)
section
variable {prog : Program} {w : World} {A : Around} {R : Result → Shared → Prop} {h : Heap} {g : Array GenState} {d : Drawn} {t : Nat} {os : OsState}
variable {nm q : Str} {C N f : Addr} {bs bm : List Value} {hdct : Bool} {sn : List Str} {sub : List Value} {ab : Bool} {col : Option Bool} {dd : Option Addr} {k0 k1 k2 k3 k5 : Option Value} {B ni ii : String} {kw : List (Str × Value)}
theorem newK (F : ExcBaseFacts B ni ii bm) (hC : h.get? C = some (excClassObj nm q C N bs bm hdct sn sub ab col dd k0 k1 k2 k3 k5 ni))
    (hq : R (.ok (.ret (.ref (h.objs.size + 1)))) ⟨(h.push (PySem.W.kdv_tup [])).push (PySem.HandSPX.excO C h.objs.size), g, d, t, os⟩) : codeAny (model prog w) A (.builtin ni ⟨[.ref C], kw⟩) R ⟨h, g, d, t, os⟩ := by
  have ends := F.ends
  have cB : (Value.ref C :: bm).contains (.type B) = true := by rw [List.contains_cons, F.hasB, Bool.or_true]
  have cA : (Value.ref C :: bm).contains (.type "AttributeError") = false := by rw [List.contains_cons, F.noAttr]; rfl
  have cN : (Value.ref C :: bm).contains (.type "NameError") = false := by rw [List.contains_cons, F.noName]; rfl
  refine codeAny_builtinAt F.entry ?_
  unfold Builtin.«BaseException.__new__»
  refine _root_.PySem.wpAt_bind ?_
  show _root_.PySem.wpAt _ _ _ (stack >>= _) _ _ _
  refine _root_.PySem.wpAt_bind (_root_.PySem.wpAt_stack fun p below => _root_.PySem.wpAt_of_wpAny ?_)
  wp_walk
  refine _root_.PySem.wpAt_of_wpAny ?_
  rw [F.owner]
  repeat (first | with_reducible refine wpAny_madeHere_exc F.canon hC ?_ | with_reducible refine wpAny_loadPart_at hC ?_ | (with_reducible refine wpAny_isSubtype_exc hC ?_; first | rw [cB] | rw [cA] | rw [cN]) | wp_step)
  show R _ _
  rw [Heap.size_push]
  exact hq
theorem checkK (F : ExcBaseFacts B ni ii bm) {M : Model} {E : Value → Shared → Prop} {Q : Unit → Shared → Prop} (hC : h.get? C = some (excClassObj nm q C N bs bm hdct sn sub ab col dd k0 k1 k2 k3 k5 ni)) (hq : Q () ⟨h, g, d, t, os⟩) :
    wpAny M A (checkBuiltinCall ni ⟨[.ref C], kw⟩) Q E ⟨h, g, d, t, os⟩ := by
  have cont : (Value.ref C :: bm).contains (.type B) = true := by rw [List.contains_cons, F.hasB, Bool.or_true]
  have noS := F.noStar
  simp only [checkBuiltinCall, F.newKind, F.newSplit, F.newRow]
  repeat (first | refine wpAny_loadPart_at hC ?_ | (refine wpAny_isSubtype_exc hC ?_; rw [cont]) | refine wpAny_staticBase_exc hC ?_ | refine wpAny_madeBy_exc hC ?_ | simp only [bne_self_eq_false, Bool.false_eq_true, if_false] | wp_step)
  exact hq
theorem tcallK (F : ExcBaseFacts B ni ii bm) {E : Value → Shared → Prop} {Q : Fin → Shared → Prop} (hC : h.get? C = some (excClassObj nm q C N bs bm hdct sn sub ab col dd k0 k1 k2 k3 k5 ni))
    (hi : PySem.W.Looks (model prog w) h (typeLookup (.ref C) "__init__") (some (.ref f))) (hb : ∀ self, PySem.W.Looks (model prog w) h (bindSpecial (.ref f) self) (.ref f, [self]))
    (hq : codeAny (model prog w) A (.call (.ref f) ⟨[.ref (h.objs.size + 1)], kw⟩)
      (fun r s' => match r with | .ok (.ret v) => v = .none ∧ Q (.done (.ret (.ref (h.objs.size + 1)))) s' | .ok _ => False | .error e => E e s')
      ⟨(h.push (PySem.W.kdv_tup [])).push (PySem.HandSPX.excO C h.objs.size), g, d, t, os⟩) :
    wpAny (model prog w) A (Builtin.«type.__call__» ⟨[.ref C], kw⟩) Q E ⟨h, g, d, t, os⟩ := by
  repeat (first | with_reducible refine wpAny_loadPart_at hC ?_ | with_reducible refine wpAny_madeBy_exc hC ?_ | wp_step)
  refine codeAny_call_builtin_code (Code.quiet_builtin _ F.quiet) (checkK F hC ?_)
  refine newK F hC ?_
  show wpAny _ _ _ _ _ _
  have k : ∀ b o, h.get? b = some o → ((h.push (PySem.W.kdv_tup [])).push (PySem.HandSPX.excO C h.objs.size)).get? b = some o := fun b o e => Heap.get?_push_of_some _ (Heap.get?_push_of_some _ e)
  have hC1 := k _ _ hC
  have got : ((h.push (PySem.W.kdv_tup [])).push (PySem.HandSPX.excO C h.objs.size)).get? (h.objs.size + 1) = some (PySem.HandSPX.excO C h.objs.size) := by heap_get
  have cC : (Value.ref C :: bm).contains (.ref C) = true := by simp
  have i1 := hi.keeps k
  have b1 := (hb (.ref (h.objs.size + 1))).keeps k
  unfold isInstance
  repeat (first | with_reducible refine wpAny_loadPart_at got ?_ | (with_reducible refine wpAny_isSubtype_exc hC1 ?_; rw [cC]) | wp_step)
  show wpAny _ _ (typeLookup (.ref C) _) _ _ _
  refine i1.at ?_
  refine wpAny_holding (wpAny_bind (b1.at ?_))
  refine wpAny_bind (wpAny_call (codeAny_mono hq fun r s' z => ?_))
  rcases r with e | (v | _ | _ | _) <;> first | exact z | exact z.elim | skip
  obtain ⟨rfl, z⟩ := z
  first
    | exact wpAny_pure (wpAny_pure z)
    | (wp_walk; exact z)
theorem ownK {K : PySem.W.Frag} (X : K.In h) (T : XC K C B ni ii bm) (F : ExcBaseFacts B ni ii bm) (hC : h.get? C = some (excClassObj nm q C N bs bm hdct sn sub ab col dd k0 k1 k2 k3 k5 ni))
    (hi : PySem.W.Looks (model prog w) h (typeLookup (.ref C) "__init__") (some (.ref f))) (hb : ∀ self, PySem.W.Looks (model prog w) h (bindSpecial (.ref f) self) (.ref f, [self]))
    (hq : codeAny (model prog w) (A.under (.builtin "type.__call__" ⟨[.ref C], kw⟩)) (.call (.ref f) ⟨[.ref (h.objs.size + 1)], kw⟩) (PySem.W.InitBack (h.objs.size + 1) R)
      ⟨(h.push (PySem.W.kdv_tup [])).push (PySem.HandSPX.excO C h.objs.size), g, d, t, os⟩) :
    codeAny (model prog w) A (.call (.ref C) ⟨[], kw⟩) R ⟨h, g, d, t, os⟩ := by
  have f1 := tc_lookup
  have f2 := tc_bind (.ref C)
  have hTy : (⟨h, g, d, t, os⟩ : Shared).TypeIs (.ref C) "type" := ⟨_, hC, rfl⟩
  have typ : PySem.W.Looks (model prog w) h (isInstance (.ref C) (.type "type")) true := (PySem.W.looks_typeIn X T.tyC).andThen (PySem.W.Looks.of_pure (by kernel_rfl))
  refine codeAny_of_tree ?_
  show wpAny _ _ (callAny (.ref C) _) _ _ _
  repeat (any_goals (first | assumption | with_reducible refine wpAny_loadPart_at hC ?_ | wp_step))
  refine ⟨rfl, ?_⟩
  refine codeAny_call_builtin_at (Code.quiet_builtin _ (by decide +kernel)) entry_typeCall (PySem.W.check_slot tc_kind tc_split typ (PySem.W.tc_args _ _ _) (tcallK F hC hi hb ?_))
  refine codeAny_mono hq fun r s' z => ?_
  rcases r with e | (v | _ | _ | _) <;> exact z
end
section
variable {X : Cx} {k n : Nat} {C : Addr} {x : Str} {F : NdefX.NF} {me : Str} {ps ks : List Str} {xs : XSp} {wa : WA} {p pos : Pos} {kws : List Keyword}
abbrev wMkXK (C : Addr) (n : Nat) (xs : XSp) (pm : {A : Type} → List A → List A) (wa : WA) : WE := fun dl M R => wa dl M fun rs M1 => ∃ ds fs, datOf (pm rs) = some ds ∧ ds.length = n ∧ xs ds fs ∧ R (.e C fs) M1
/-- C(k = v, ..) -/
theorem pd_mkXK (pm : {A : Type} → List A → List A) (G : HasX X.prog X.w X.K X.mg X.base k C x F (me :: ps) n xs) (hgd : X.A.guards = some []) (hr : Room (k + 1) X.A) (hg : Gl X x) (hkw : PDK X kws wa)
    (hb : ∀ (doc pmv ctv self : Value) (ws : List Value), (pm ws).length = n → bindArgs (F.fd doc pmv ctv) ⟨[self], ks.zip ws⟩ = pure ((me :: ps).zip (self :: pm ws)))
    (hpm : ∀ {A B : Type} (R : A → B → Prop) (as : List A) (bs : List B), Paired R as bs → Paired R (pm as) (pm bs)) (hpm2 : ∀ {A B : Type} (R : A → B → Prop) (as : List A) (bs : List B), All2 R as bs → All2 R (pm as) (pm bs))
    (hall : (backToKw pos (keywordEach kws X.env)).all (·.1.isSome) = true := by rfl) (hks : (backToKw pos (keywordEach kws X.env)).filterMap (·.1) = ks := by rfl) (hdb : (x == ("__debug__" : Str)) = false := by decide)
    (hpl : ((backTo pos (starEach [] X.env)).any (·.1) || (backToKw pos (keywordEach kws X.env)).any (·.1.isNone)) = false := by rfl) : PD X (.Call (.Name x p) [] kws pos) (wMkXK C n xs pm wa) := by
  obtain ⟨B, ni, ii, bm, f, T, hm, iC, tI, run⟩ := G.ex
  obtain ⟨nm, q, N, bs, sn, sub, ab, col, dd, k0, k1, k2, k3, k5, hC⟩ := T.cls
  refine ⟨fun pins s st H Q I h => ?_⟩
  obtain ⟨F0, dl, M, R, so, at0, hw, po⟩ := h
  refine wpAny_Call_Name_kw (ld_glob I hg hm ?_ hdb)
  refine PySem.W.callWith_KW0 (h₀ := X.base) I.ok.mod.kin T.kC hall ?_ hpl
  refine thn (L2.PK.run hkw pos pins s st H _ I (tDA_to (Q := fun vs H' => ∃ F1 M1 ds fs, At X.K F1 M1 H' ∧ DqAll X.K F1 (pm vs) ds ∧ ds.length = n ∧ xs ds fs ∧ ∀ a F2 H2, Go X.K F1 M1 H' F2 M1 H2 → XAt X.K F2 a C fs → Q (.ref a) H2) so at0 hw fun vs F1 H1 rs M1 h1 g1 so1 at1 i1 => ?_)) fun ws s1 ⟨zs, H1, I1, rz, hh⟩ => ⟨I1.kIn, ?_⟩
  · obtain ⟨ds, fs, hd, hl, hx, hR⟩ := h1
    have i2 := hpm2 _ _ _ i1
    have e1 : pm rs = ds.map Sl.d := datOf_eq hd
    rw [e1] at i2
    exact ⟨F1, M1, ds, fs, at1, dqAll_of i2, hl, hx, fun a F2 H2 g xa => po _ F2 H2 _ M1 hR (g1.trans g) ⟨a, rfl, xa⟩⟩
  · obtain ⟨F1, M1, ds, fs, at1, i1, hl, hx, hq⟩ := hh
    rw [hks]
    obtain ⟨hp, g, dr, tk, os⟩ := s1
    have hsz : hp.objs.size ≤ hp.objs.size + 1 := Nat.le_succ _
    have hnn : H1 (hp.objs.size + 1) = none := I1.hok.fresh hsz
    have kk : ∀ b o, hp.get? b = some o → ((hp.push (PySem.W.kdv_tup [])).push (PySem.HandSPX.excO C hp.objs.size)).get? b = some o := fun b o e => Heap.get?_push_of_some _ (Heap.get?_push_of_some _ e)
    have got : ((hp.push (PySem.W.kdv_tup [])).push (PySem.HandSPX.excO C hp.objs.size)).get? (hp.objs.size + 1) = some (PySem.HandSPX.excO C hp.objs.size) := by heap_get
    have I2 : Inv X pins st (upd H1 (hp.objs.size + 1) (exo (hp.objs.size + 1) C none)) ⟨(hp.push (PySem.W.kdv_tup [])).push (PySem.HandSPX.excO C hp.objs.size), g, dr, tk, os⟩ :=
      I1.laid (t' := tk) (a := hp.objs.size + 1) (o := exo (hp.objs.size + 1) C none) kk hsz (exo_ok got)
    have rv := hpm _ _ _ rz
    have lu : (pm ws).length = n := by rw [← rv.length, dqAll_len i1, hl]
    refine wpAny_call (ownK I1.kIn T.toXC T.b.F (I1.kIn _ _ hC) (PySem.W.looks_findIn I1.kIn iC) (fun self => PySem.W.bind_fn I1.kIn self tI)
      (codeAny_mono (run _ X.stack _ _ ⟨[Value.ref (hp.objs.size + 1)], ks.zip ws⟩ (Value.ref (hp.objs.size + 1) :: pm ws) (V.ref (hp.objs.size + 1) :: pm zs) (fun v H2 => v = V.non ∧ Q (.ref (hp.objs.size + 1)) H2) E0 (by exact hgd) (hr.make C [] (ks.zip ws)) (I2.env0.make C [] (ks.zip ws))
        (fun doc pmv ctv => hb doc pmv ctv _ ws lu) (.cons rfl rv) ⟨_, pm zs, H1, F1, M1, ds, fs, rfl, hnn, rfl, at1, i1, hl, hx, fun H' F' g x => ⟨rfl, hq _ F' H' g x⟩⟩) fun r s' hq' => ?_))
    cases r with
    | error er => exact False.elim hq'
    | ok fl =>
      cases fl with
      | ret u =>
        obtain ⟨v, H', I3, rv, ev, q3⟩ := I2.after hq'
        subst ev
        exact ⟨rv, V.ref (hp.objs.size + 1), H', I3, rfl, q3⟩
      | next => exact False.elim hq'
      | brk => exact False.elim hq'
      | cont => exact False.elim hq'
end
end DL

set_option Elab.async false
set_option linter.all false
set_option maxRecDepth 100000
set_option maxHeartbeats 4000000
/-! FD: a for over a tuple with changeable parts. -/
namespace DL
open PySem PySem.Spec L2
open Evl (Ex)
section
variable {X : Cx}
abbrev wiTM (we : WE) : WI := fun dl M T => we dl M fun r M1 => match r with
  | .v (.ref p) => ∃ ss, M1 p = some (.tup ss) ∧ T ss (fun M => M p = some (.tup ss)) M1
  | _ => False
theorem pdi_tupM {tg e : Expr} {we : WE} (he : PD X e we) : PDI X tg e (wiTM we) :=
  pi_imp (pi_tup he) fun st H Q ⟨F, dl, M, T, so, at0, hw, po⟩ =>
    tD_to so at0 hw fun v F1 H1 r M1 h1 g1 so1 at1 i1 => by
      split at h1
      · rename_i p
        have i2 : v = .ref p := i1
        subst i2
        obtain ⟨ss, m, hT⟩ := h1
        obtain ⟨vs, q1, q2⟩ := tupM_at at1 m
        refine ⟨p, rfl, ⟨vs, q1⟩, po F1 M1 H1 _ _ _ hT g1 (wk_tup fun F' M' H' e at' c => ?_)⟩
        exact tupM_at at' c
      · exact h1.elim
/-! ### enumerate of a list of exceptions -/
def enumX (es : List (Addr × List (Str × PyData))) : List Sl := (es.zipIdx 0).map fun (p : (Addr × List (Str × PyData)) × Nat) => Sl.pe (.int (p.2 : Int)) p.1.1 p.1.2
abbrev xsS (es : List (Addr × List (Str × PyData))) : List Sl := es.map fun p => Sl.e p.1 p.2
abbrev wiEnumX (wa : WA) : WI := fun dl M T => wa dl M fun rs M1 => match rs with
  | [.v (.ref p)] => ∃ es, M1 p = some (.lst (xsS es)) ∧ T (enumX es) (fun M => M p = some (.lst (xsS es))) M1
  | _ => False
theorem enumX_get {es : List (Addr × List (Str × PyData))} {i : Nat} {r : Sl} (h : (enumX es)[i]? = some r) : ∃ q, es[i]? = some q ∧ r = .pe (.int (i : Int)) q.1 q.2 := by
  unfold enumX at h
  rw [List.getElem?_map] at h
  obtain ⟨q, h1, rfl⟩ := Option.map_eq_some_iff.mp h
  rw [List.getElem?_zipIdx] at h1
  obtain ⟨d, h2, rfl⟩ := Option.map_eq_some_iff.mp h1
  exact ⟨d, h2, by simp⟩
theorem enumX_len (es : List (Addr × List (Str × PyData))) : (enumX es).length = es.length := by unfold enumX; rw [List.length_map, List.length_zipIdx]
variable {e : Expr} {elts : List Expr} {kk : Nat} {tpos p pos : Pos}
theorem pdi_enumX {wa : WA} (hg : Gl X "enumerate") (hm : X.mg "enumerate" = none) (ha : PDA X [e] wa) (hs : starEach [e] X.env = [(false, eval e X.env)] := by rfl) : PDI X (.Tuple elts kk tpos) (.Call (.Name "enumerate" p) [e] [] pos) (wiEnumX wa) :=
  pi_imp (pi_enum hg hm ha hs) fun st H Q ⟨F, dl, M, T, so, at0, hw, po⟩ =>
    tDA_to so at0 hw fun vs F1 H1 rs M1 h1 g1 so1 at1 i1 => by
      split at h1
      · rename_i pp
        obtain ⟨v, rfl, i2⟩ := isAll1 i1
        have i3 : v = .ref pp := i2
        subst i3
        obtain ⟨es, m, hT⟩ := h1
        obtain ⟨_, us, q1, q2⟩ := at1.mem pp _ m
        have get : ∀ {F : Hp} {us : List V} {i : Nat} {q : Addr × List (Str × PyData)}, IsAll X.K F (xsS es) us → es[i]? = some q → ∃ b, us[i]? = some (.ref b) ∧ XAt X.K F b q.1 q.2 := fun {F us i q} hall hq => by
          obtain ⟨u, z1, b, rfl, z2⟩ := hall.get (i := i) (a := Sl.e q.1 q.2) (by rw [List.getElem?_map, hq]; rfl)
          exact ⟨b, z1, z2⟩
        refine ⟨pp, us, rfl, SqL.of q1, po F1 M1 H1 _ _ _ hT g1 ⟨fun F M H i e at0 c hi => ?_, fun F M H i x H' r e at0 c y hr => ?_, fun F M H e at0 c => ?_⟩⟩
        · rw [enumX_len] at hi
          obtain ⟨_, us2, w1, w2⟩ := at0.mem pp _ c
          obtain ⟨b, z1, z2⟩ := get (i := i) w2 (List.getElem?_eq_getElem hi)
          exact ⟨us2, .ref b, SqL.of w1, z1⟩
        · obtain ⟨Tp, xv, rfl, hT, rfl, hx⟩ := y
          obtain ⟨q, hq, rfl⟩ := enumX_get hr
          obtain ⟨_, us2, w1, w2⟩ := at0.mem pp _ c
          obtain ⟨b, z1, z2⟩ := get (i := i) w2 hq
          have hxv := hx us2 (SqL.of w1)
          rw [z1] at hxv
          obtain rfl : V.ref b = xv := Option.some.inj hxv
          have g := Go.laid at0 (o := .tup [.int (i : Int), V.ref b]) hT
          exact ⟨_, g, _, _, _, rfl, .inl (.inl upd_same), .int _, z2.mono g.ex⟩
        · rw [enumX_len]
          obtain ⟨_, us2, w1, w2⟩ := at0.mem pp _ c
          refine ⟨us2, SqL.of w1, ?_⟩
          have := w2.length
          rw [List.length_map] at this
          omega
      · exact h1.elim
/-- k, e = a pair of a datum and an exception -/
def gPe (ws : WGs) : WG := fun r dl M R => match r with
  | .pe d C fs => ws [.d d, .e C fs] dl M R
  | _ => False
theorem pdg_pe {es : List Expr} {k n : Nat} {ws : WGs} (hn2 : n = 2) (hc : X.calm = true) (h : PDGs X es ws) (hn : (assignEach es X.env).length = n := by rfl) (hst : (assignEach es X.env).findIdx? (·.1) = none := by rfl) : PDG X (.Tuple es k pos) (gPe ws) :=
  pg_imp (pg_tup hc h hn hst) fun v st H Q ⟨F, dl, M, r, R, so, at0, i1, hw, po⟩ => by
    subst hn2
    unfold gPe at hw
    split at hw
    · rename_i d C fs
      obtain ⟨a, v, b, rfl, h1, h2, h3⟩ := i1
      exact ⟨a, _, rfl, Evl.ex_t at0.ex h1, rfl, F, dl, M, [.d d, .e C fs], _, so, at0, .cons h2 (.cons ⟨b, rfl, h3⟩ .nil), hw, po⟩
    · exact hw.elim
theorem gPe_go {ws : WGs} {dl : Env'} {M : Mem} {R : Env' → Mem → Prop} {d : PyData} {C : Addr} {fs : List (Str × PyData)} (h : ws [.d d, .e C fs] dl M R) : gPe ws (.pe d C fs) dl M R := h
end
end DL

set_option Elab.async false
set_option linter.all false
set_option maxRecDepth 100000
set_option maxHeartbeats 4000000
/-! HD: the small head: what the top has left, looked at by one Hook; the law's end over it. -/
namespace DL
open PySem PySem.Spec PyProof.Rows L2
open Evl (Ex)
/-- the items of a tuple of the top -/
def tupIn (K : PySem.W.Frag) (u : Value) : List Value × Bool := match u with
  | .ref a => (match K.lookup a with
    | some ⟨.type c, none, .seq its _, _⟩ => (its.toList, decide (c = "tuple") && decide (its.size ≤ sizeLine))
    | _ => ([], false))
  | _ => ([], false)
theorem tupIn_ok {K : PySem.W.Frag} {u : Value} (h : (tupIn K u).2 = true) : ∃ a its n sl, u = .ref a ∧ K.lookup a = some ⟨.type "tuple", none, .seq its n, sl⟩ ∧ its.size ≤ sizeLine ∧ (tupIn K u).1 = its.toList := by
  unfold tupIn at h ⊢
  split at h
  · rename_i a
    split at h
    · rename_i c its n sl q
      obtain ⟨h1, h2⟩ := He.ba (show (decide (c = "tuple") && decide (its.size ≤ sizeLine)) = true from h)
      have e := of_decide_eq_true h1
      subst e
      exact ⟨a, its, n, sl, rfl, q, of_decide_eq_true h2, by simp only [q]⟩
    · cases h
  · cases h
mutual
def datB (K : PySem.W.Frag) : PyData → Value → Bool
  | .none, u => He.relB .non u
  | .bool b, u => He.relB (.bl b) u
  | .int i, u => He.relB (.int i) u
  | .str x, u => He.relB (.str x) u
  | .tuple ds, u => (tupIn K u).2 && datBs K ds (tupIn K u).1
  | .list _, _ => false
  | .dict _, _ => false
def datBs (K : PySem.W.Frag) : List PyData → List Value → Bool
  | [], us => us.isEmpty
  | d :: ds, us => !us.isEmpty && (datB K d (us.headD .none) && datBs K ds (us.drop 1))
end
mutual
theorem datB_ok {K : PySem.W.Frag} : ∀ {d : PyData} {u : Value}, datB K d u = true → ∃ v, RelV v u ∧ ∀ F, Dq K F v d
  | .none, u, h => ⟨.non, He.relB_ok (by rw [datB] at h; exact h), fun F => .non⟩
  | .bool b, u, h => ⟨.bl b, He.relB_ok (by rw [datB] at h; exact h), fun F => .bl b⟩
  | .int i, u, h => ⟨.int i, He.relB_ok (by rw [datB] at h; exact h), fun F => .int i⟩
  | .str x, u, h => ⟨.str x, He.relB_ok (by rw [datB] at h; exact h), fun F => .str x⟩
  | .tuple ds, u, h => by
    rw [datB] at h
    obtain ⟨h1, h2⟩ := He.ba h
    obtain ⟨a, its, n, sl, rfl, q, hz, e⟩ := tupIn_ok h1
    rw [e] at h2
    obtain ⟨vs, r, q2⟩ := datBs_ok h2
    exact ⟨.ref a, rfl, dk_tup q r hz q2⟩
  | .list _, u, h => by rw [datB] at h; cases h
  | .dict _, u, h => by rw [datB] at h; cases h
theorem datBs_ok {K : PySem.W.Frag} : ∀ {ds : List PyData} {us : List Value}, datBs K ds us = true → ∃ vs, Vals vs us ∧ ∀ F, DqAll K F vs ds
  | [], us, h => by
    rw [datBs] at h
    cases us with
    | nil => exact ⟨[], .nil, fun F => .nil⟩
    | cons u us => cases h
  | d :: ds, us, h => by
    rw [datBs] at h
    obtain ⟨h0, h⟩ := He.ba h
    cases us with
    | nil => cases h0
    | cons u us =>
      obtain ⟨h1, h2⟩ := He.ba h
      obtain ⟨v, a, b⟩ := datB_ok (u := u) h1
      obtain ⟨vs, a2, b2⟩ := datBs_ok (us := us) h2
      exact ⟨v :: vs, .cons a a2, fun F => .cons (b F) (b2 F)⟩
end
/-- what is looked at -/
inductive Ft where
  | fa (f : He.Fa)
  | dat (x : Str) (d : PyData)
  | tst (t : PySem.W.Frag → Bool)
def Ft.ok (K : PySem.W.Frag) : Ft → Bool
  | .fa f => f.ok K
  | .dat x d => (match PySem.W.nsIn K mainGlobals x with
    | some (some (.ref a)) => datB K d (.ref a)
    | _ => false)
  | .tst t => t K
theorem dat_ok {K : PySem.W.Frag} {h : Heap} {mg : Str → Option Value} {x : Str} {d : PyData} (X : K.In h) (G : h.Ns mainGlobals mg) (c : (Ft.dat x d).ok K = true) : GD K mg x d := by
  have c2 : (match PySem.W.nsIn K mainGlobals x with
    | some (some (.ref a)) => datB K d (.ref a)
    | _ => false) = true := c
  split at c2
  · rename_i a e
    obtain ⟨v, r, q⟩ := datB_ok c2
    cases v with
    | ref b =>
      have e2 : (Value.ref a) = .ref b := r
      cases e2
      exact ⟨a, PySem.W.mg_of X G e, q⟩
    | non => cases (show (Value.ref a) = .none from r)
    | bl b => cases (show (Value.ref a) = .bool b from r)
    | int i => obtain ⟨t, e2⟩ := (show ∃ t, (Value.ref a) = .int i t from r); cases e2
    | str i => obtain ⟨t, e2⟩ := (show ∃ t, (Value.ref a) = .str i t from r); cases e2
    | ty n => cases (show (Value.ref a) = .type n from r)
    | byt b => obtain ⟨t, e2⟩ := (show ∃ t, (Value.ref a) = .bytes b t from r); cases e2
    | flt b => obtain ⟨t, e2⟩ := (show ∃ t, (Value.ref a) = .float b t from r); cases e2
  · cases c2
def obsX (fs : List Ft) (fn : List He.DefD) (K : PySem.W.Frag) : He.AlD := ((fs.all fun f => f.ok K) && fn.all fun d => d.ok K, fn.map fun d => He.fnW K d.at_)
def SaysX (fs : List Ft) (fn : List He.DefD) (K : PySem.W.Frag) : Prop := obsX fs fn K = He.valD fn
/-- the addresses that the facts ask for: the module's names; classes' tables, methods; code, defaults; items of constants -/
def refL (g : Addr → Option Obj) (a : Addr) : List Addr := match g a with
  | some ⟨_, _, .seq its _, _⟩ => its.toList.flatMap He.refV
  | some ⟨_, _, .dict es _, _⟩ => es.toList.flatMap fun e => He.refV e.val
  | some ⟨_, _, .func fd, _⟩ => He.refV fd.code ++ (He.refV fd.defaults ++ He.refV fd.kwdefaults)
  | some ⟨_, _, .cls cd, _⟩ => [cd.ns]
  | _ => []
def isFnO (g : Addr → Option Obj) (a : Addr) : Bool := match g a with
  | some ⟨_, _, .func _, _⟩ => true
  | _ => false
def isSeqO (g : Addr → Option Obj) (a : Addr) : Bool := match g a with
  | some ⟨_, _, .seq _ _, _⟩ => true
  | _ => false
def isClsO (g : Addr → Option Obj) (a : Addr) : Bool := match g a with
  | some ⟨_, _, .cls _, _⟩ => true
  | _ => false
def asX (g : Addr → Option Obj) (deep : Nat) : List Addr :=
  let G := refL g mainGlobals
  let C := (G.filter (isClsO g)).flatMap (refL g)
  let M := C.flatMap (refL g)
  let cd := (G.filter (isFnO g)).flatMap (refL g) ++ (M.filter (isFnO g)).flatMap (refL g)
  let T0 := G.filter (isSeqO g) ++ cd.filter (isSeqO g)
  let T1 := match deep with
    | 0 => []
    | _ + 1 => T0.flatMap (refL g)
  mainGlobals :: (G ++ (C ++ (M ++ (cd ++ T1))))
def obsXG (n : Nat) (fs : List Ft) (fn : List He.DefD) (g : Addr → Option Obj) : He.AlD := obsX fs fn (He.frG g (asX g n))
def hookX (n : Nat) (fs : List Ft) (fn : List He.DefD) : PySem.W.Hook where
  α := He.AlD
  obs := fun s => obsXG n fs fn s.heap.get?
  val := fun _ => He.valD fn
  says := fun _ h => ∃ K : PySem.W.Frag, K.In h ∧ SaysX fs fn K
  of := fun _ _ e => ⟨_, He.frG_in, e⟩
  keeps := fun _ _ _ ⟨K, hK, c⟩ k => ⟨K, PySem.W.Frag.In.keeps hK k, c⟩
theorem obsXG_eq {n : Nat} {fs : List Ft} {fn : List He.DefD} {g : Addr → Option Obj} {s : Shared} (h : ∀ a, g a = s.heap.get? a) : obsXG n fs fn g = (hookX n fs fn).obs s := by
  have e : g = s.heap.get? := funext h
  rw [e] <;> rfl
section
variable {fs : List Ft} {fn : List He.DefD} {K : PySem.W.Frag}
theorem SaysX.fact (c : SaysX fs fn K) (i : Nat) {f : Ft} (h : fs[i]? = some f := by rfl) : f.ok K = true := by
  have c1 := (He.ba (show ((fs.all fun f => f.ok K) && fn.all fun d => d.ok K) = true from congrArg (fun z : He.AlD => z.1) c)).1
  exact List.all_eq_true.mp c1 f (List.mem_of_getElem? h)
theorem SaysX.def_ (c : SaysX fs fn K) (i : Nat) {d : He.DefD} (h : fn[i]? = some d := by rfl) : ∃ fd, FunD K d.name d.qual d.params d.body d.scope (d.dvs K) (d.kws K) (He.fAd K d.at_) fd := by
  have c2 := (He.ba (show ((fs.all fun f => f.ok K) && fn.all fun d => d.ok K) = true from congrArg (fun z : He.AlD => z.1) c)).2
  have e : fn.map (fun d => He.fnW K d.at_) = fn.map He.DefD.val := congrArg (fun z : He.AlD => z.2) c
  have e2 : (fn.map fun d => He.fnW K d.at_)[i]? = (fn.map He.DefD.val)[i]? := by rw [e]
  rw [List.getElem?_map, List.getElem?_map, h] at e2
  exact He.DefD.funD (Option.some.inj e2) (List.all_eq_true.mp c2 d (List.mem_of_getElem? h))
end
theorem fun_ofD {K : PySem.W.Frag} {x qual : Str} {st : Stmt} {f : Addr} {fd : FuncData} (h : FunD K x qual (defArgs st) (defBody st) (defScope st) [] [] f fd) : Fun K x qual st f fd := by
  obtain ⟨oc, od, dV, kV, doc, pm, an, cdv, ct, osl, rfl, lk, hcd, hd, _⟩ := h.ex
  rcases hd with ⟨_, rfl⟩ | ⟨q, _⟩
  · exact ⟨⟨oc, od, kV, doc, pm, an, cdv, ct, osl, rfl, lk, hcd⟩, h.kp⟩
  · exact absurd rfl q
/-- a def of the top, one of its methods, as looked at -/
abbrev dF (x : Str) (st : Stmt) : He.DefD := ⟨(x, none), x, x, defArgs st, defBody st, defScope st, [], []⟩
abbrev dM (C m qual : Str) (st : Stmt) : He.DefD := ⟨(C, some m), m, qual, defArgs st, defBody st, defScope st, [], []⟩
abbrev dM1 (C m qual : Str) (st : Stmt) : He.DefD := ⟨(C, some m), m, qual, defArgs st, defBody st, defScope st, [.adr (He.dflAt (C, some m) 0)], []⟩
section
variable {fs : List Ft} {fn : List He.DefD} {K : PySem.W.Frag} {h : Heap} {mg : Str → Option Value} {x C m qual : Str} {st : Stmt}
theorem defAt_x (X : K.In h) (G : h.Ns mainGlobals mg) (c : SaysX fs fn K) (i j : Nat) (hi : fs[i]? = some (.fa (.glo x)) := by rfl) (hj : fn[j]? = some (dF x st) := by rfl) : DefAt K mg x st := by
  obtain ⟨fd, F⟩ := c.def_ j hj
  exact ⟨_, fd, He.glo_ok X G (c.fact i hi), fun_ofD F⟩
theorem methAt_x (c : SaysX fs fn K) (i j : Nat) (hi : fs[i]? = some (.fa (.meth C m)) := by rfl) (hj : fn[j]? = some (dM C m qual st) := by rfl) : MethAt K (He.ga K C) m qual st := by
  obtain ⟨fd, F⟩ := c.def_ j hj
  exact ⟨_, fd, He.meth_ok (c.fact i hi), fun_ofD F⟩
theorem initA_x (c : SaysX fs fn K) (i j : Nat) (hi : fs[i]? = some (.fa (.mkr C)) := by rfl) (hj : fn[j]? = some (dM C "__init__" qual st) := by rfl) : InitA K (He.ga K C) qual st := by
  obtain ⟨fd, F⟩ := c.def_ j hj
  exact ⟨_, fd, He.mkr_ok (c.fact i hi), fun_ofD F⟩
theorem initD_x (c : SaysX fs fn K) (i j : Nat) (hi : fs[i]? = some (.fa (.mkr C)) := by rfl) (hj : fn[j]? = some (dM1 C "__init__" qual st) := by rfl) : InitD K (He.ga K C) qual st := by
  obtain ⟨fd, F⟩ := c.def_ j hj
  exact ⟨_, fd, _, He.mkr_ok (c.fact i hi), F⟩
theorem free_x (X : K.In h) (G : h.Ns mainGlobals mg) (c : SaysX fs fn K) (i : Nat) (hi : fs[i]? = some (.fa (.free x)) := by rfl) : mg x = none := He.free_ok X G (c.fact i hi)
theorem int_x {z : Int} (X : K.In h) (G : h.Ns mainGlobals mg) (c : SaysX fs fn K) (i : Nat) (hi : fs[i]? = some (.fa (.int x z)) := by rfl) : ∃ t, mg x = some (.int z t) := He.int_ok X G (c.fact i hi)
theorem str_x {z : Str} (X : K.In h) (G : h.Ns mainGlobals mg) (c : SaysX fs fn K) (i : Nat) (hi : fs[i]? = some (.fa (.str x z)) := by rfl) : ∃ t, mg x = some (.str z t) := He.str_ok X G (c.fact i hi)
theorem dat_x {d : PyData} (X : K.In h) (G : h.Ns mainGlobals mg) (c : SaysX fs fn K) (i : Nat) (hi : fs[i]? = some (.dat x d) := by rfl) : GD K mg x d := dat_ok X G (c.fact i hi)
theorem cls_x (c : SaysX fs fn K) (i : Nat) (hi : fs[i]? = some (.fa (.cls C)) := by rfl) : Cls K (He.ga K C) := He.cls_ok (c.fact i hi)
theorem glo_x (X : K.In h) (G : h.Ns mainGlobals mg) (c : SaysX fs fn K) (i : Nat) (hi : fs[i]? = some (.fa (.glo C)) := by rfl) : mg C = some (.ref (He.ga K C)) := He.glo_ok X G (c.fact i hi)
theorem noat_x (c : SaysX fs fn K) (i : Nat) (hi : fs[i]? = some (.fa (.noat C m)) := by rfl) : NoAttr K (He.ga K C) m := He.noat_ok (c.fact i hi)
end
theorem law_endE {l : PySem.W.OpenLaw} {n lv : Nat} {q : Program} {loose : List Str} {XP : (Str → Option Value) → Heap → Prop} {YP : World → Heap → Prop} {d : DefRec} {cn : Cn} {x : Str}
    (most : l.most = some n) (few : n ≤ sizeLine) (nodef : d.params.defaults = []) (room : Room lv callerA)
    (F : ∀ (w : World) (mg : Str → Option Value) (fa : Addr) (h : Heap), YP w h → h.Ns mainGlobals mg → mg d.name = some (.ref fa) → ∃ K : PySem.W.Frag, K.In h ∧ ∃ fd : FuncData, (∀ (s : Shared) (u : Value), BindsTo s fd ⟨[u], []⟩ [(x, u)]) ∧ ∀ base : Heap, FnD l.prog w K mg base lv fa fd [x] cn)
    (prm : ∀ ns : List Int, ns.length ≤ n → cn [.r ns] (fun _ => none) fun r _ => r = .b true) : PySem.W.WalkO q loose XP YP l.row.toRowW d [] (fun f vs => PySem.call f vs) := by
  refine Att.attach_call most nodef fun w s0 s mg mb fa o pm cd doc ad us ns G Y ho hd hcd hmg scr inl len g5 => ?_
  obtain ⟨K, KX, fd, bnd, hF⟩ := F w mg fa _ Y G.T.g hmg
  have rv := vals_ints inl
  have lu := inl.length
  have core := fun H => law_core (P := l.prog) (w := w) (us := us) (ns := ns) H KX G.T.g G.T.b G.T.builtins G.T.nolimit g5 scr room hF bnd (prm ns len)
  cases e : K.lookup ad with
  | some ob =>
    have e2 := KX ad ob e
    rw [scr] at e2
    cases e2
    refine core (fun _ => none) (fun _ => .inl rfl) (.inr ⟨_, us.toArray, _, e, rfl, rfl, rfl, ?_, by simpa using rv⟩) (fun c u z => nomatch (show (none : Option HO) = some u from z)) (fun c z => absurd rfl z) fun z => absurd rfl z
    rw [List.size_toArray, lu]; omega
  | none =>
    let H : Hp := fun c => if c = ad then some (.frz { cls := .type "list", data := .seq us.toArray } (.lst (ns.map V.int))) else none
    have at1 : H ad = some (.frz { cls := .type "list", data := .seq us.toArray } (.lst (ns.map V.int))) := if_pos rfl
    have at2 : ∀ c, c ≠ ad → H c = none := fun c hc => if_neg hc
    refine core H (fun c => ?_) (.inl (.inr ⟨_, at1⟩)) (fun c u z => ?_) (fun c z => ?_) fun _ => e
    · by_cases hc : c = ad
      · subst hc; exact .inr ⟨_, _, at1⟩
      · exact .inl (at2 c hc)
    · by_cases hc : c = ad
      · subst hc
        rw [at1] at z
        cases z
        exact ⟨scr, by rw [List.length_map]; omega, us, _, rv, scr⟩
      · rw [at2 c hc] at z; cases z
    · by_cases hc : c = ad
      · exact hc
      · exact absurd (at2 c hc) z
end DL

set_option Elab.async false
set_option linter.all false
set_option maxRecDepth 100000
set_option maxHeartbeats 4000000
/-! HX: the small head, own exceptions: what the top has left of their classes, of their __init__s. -/
namespace DL
open PySem PySem.Spec PyProof.Rows L2
/-- the __init__ of an own exception class: the class, its qualified name, its statement -/
structure XDef where
  cls : Str
  qual : Str
  st : Stmt
abbrev XW : Type := Option (Str × Str × Arguments × FuncBody × Scope × Addr × List Str × Addr × Value × Value)
def xw (K : PySem.W.Frag) (C : Str) : XW := match K.lookup (He.fAd K (C, some "__init__")) with
  | some ⟨_, _, .func fd, _⟩ => some (fd.name, fd.qualname, fd.params, fd.body, fd.scope, fd.globals, fd.closure.map (·.1), fd.builtins, fd.defaults, fd.kwdefaults)
  | _ => none
def XDef.val (d : XDef) : XW := some ("__init__", d.qual, defArgs d.st, .stmts (defBody d.st), defScope d.st, mainGlobals, ["__class__"], builtinsNs, .none, .none)
/-- the code object's file -/
def codeFile (K : PySem.W.Frag) (c : Addr) (file : Str) : Bool := match K.lookup c with
  | some ⟨_, _, .fields vs, _⟩ => (match (vs[2]? : Option Value) with
    | some (Value.str y _) => file == y
    | _ => false)
  | _ => false
def isCell (K : PySem.W.Frag) (c C : Addr) : Bool := match K.lookup c with
  | some ⟨_, _, .cell (some (.ref D)), _⟩ => decide (D = C)
  | _ => false
def xdOk (file : Str) (K : PySem.W.Frag) (d : XDef) : Bool := match K.lookup (He.fAd K (d.cls, some "__init__")) with
  | some ⟨_, _, .func fd, _⟩ => fd.annotations.isNone && (match fd.code, fd.closure with
    | .ref c, [(_, cc)] => PySem.W.codeIn K (.ref c) d.qual && (codeFile K c file && isCell K cc (He.ga K d.cls))
    | _, _ => false)
  | _ => false
/-- .. as a function with a captured cell -/
def nfX (d : XDef) (cc c : Addr) : NdefX.NF := ⟨"__init__", d.qual, defArgs d.st, defBody d.st, defScope d.st, [("__class__", cc)], c⟩
theorem isCell_ok {K : PySem.W.Frag} {c C : Addr} (h : isCell K c C = true) : ∃ cl cld csl, K.lookup c = some ⟨cl, cld, .cell (some (.ref C)), csl⟩ := by
  unfold isCell at h
  split at h
  · rename_i a b D e q
    have e := of_decide_eq_true h
    subst e
    exact ⟨_, _, _, q⟩
  · cases h
theorem codeFile_ok {K : PySem.W.Frag} {c : Addr} {file : Str} (h : codeFile K c file = true) : ∃ ccl cdd vs ccs y t, K.lookup c = some ⟨ccl, cdd, .fields vs, ccs⟩ ∧ vs[2]? = some (.str y t) ∧ (file == y) = true := by
  unfold codeFile at h
  split at h
  · rename_i q
    split at h
    · rename_i y t q2
      exact ⟨_, _, _, _, y, t, q, q2, h⟩
    · cases h
  · cases h
theorem xfn_of {K : PySem.W.Frag} {d : XDef} {file : Str} (e : xw K d.cls = d.val) (c : xdOk file K d = true) : ∃ cc co, XFn K (He.fAd K (d.cls, some "__init__")) (He.ga K d.cls) (nfX d cc co) cc ∧ codeFile K co file = true := by
  unfold xdOk at c
  unfold xw at e
  cases q : K.lookup (He.fAd K (d.cls, some "__init__")) with
  | none =>
    rw [q] at c
    cases c
  | some o =>
    obtain ⟨oc, od, dt, osl⟩ := o
    rw [q] at c e
    cases dt with
    | func fd =>
      obtain ⟨n1, n2, n3, n4, n5, n6, n7, n8, n9, n10, n11, n12, n13, n14, n15⟩ := fd
      have e2 : (some (n1, n2, n3, n4, n5, n6, n7.map (·.1), n15, n8, n9) : XW) = d.val := e
      unfold XDef.val at e2
      simp only [Option.some.injEq, Prod.mk.injEq] at e2
      obtain ⟨h1, h2, h3, h4, h5, h6, h7, h8, h9, h10⟩ := e2
      subst h1 h2 h3 h4 h5 h6 h8 h9 h10
      obtain ⟨ca, cb⟩ := He.ba c
      dsimp only at ca cb
      split at cb
      · rename_i _ _ c0 s0 cc
        obtain ⟨c1, c2⟩ := He.ba cb
        obtain ⟨c3, c4⟩ := He.ba c2
        cases n12 with
        | some a => cases ca
        | none =>
          have e7 : s0 = "__class__" := by
            simp at h7
            exact h7
          subst e7
          exact ⟨cc, c0, ⟨⟨oc, od, n10, n11, n14, osl, q⟩, rfl, c1, isCell_ok c4⟩, c3⟩
      · cases cb
    | _ => cases c
/-- a class over a base, as it stands -/
def xcIn (K : PySem.W.Frag) (C : Addr) (bm : List Value) (newId : String) : Bool := match K.lookup C with
  | some ⟨.type t, _, .cls cd, sl⟩ => (match sl.toList with
    | [_, _, _, _, some (.builtin n), _] => decide (t = "type") && (decide (cd.mro = .ref C :: bm) && (decide (n = newId) && (!cd.hasDel && cd.hasDict)))
    | _ => false)
  | _ => false
theorem xcIn_ok {K : PySem.W.Frag} {C : Addr} {bm : List Value} {newId : String} (h : xcIn K C bm newId = true) : ∃ nm q N bs sn sub ab col dd k0 k1 k2 k3 k5, K.lookup C = some (excClassObj nm q C N bs bm true sn sub ab col dd k0 k1 k2 k3 k5 newId) := by
  unfold xcIn at h
  split at h
  · rename_i t dd cd sl ho
    split at h
    · rename_i k0 k1 k2 k3 n k5 hs
      obtain ⟨h1, h⟩ := He.ba h
      obtain ⟨h2, h⟩ := He.ba h
      obtain ⟨h3, h⟩ := He.ba h
      obtain ⟨h4, h5⟩ := He.ba h
      have e1 := of_decide_eq_true h1
      have e2 := of_decide_eq_true h2
      have e3 := of_decide_eq_true h3
      subst e1 e3
      obtain ⟨nm, bs, mro, ns, qn, hd, sn, sub, ab, col, del⟩ := cd
      dsimp only at e2 h4 h5
      subst e2 h5
      have e4 : del = false := by simpa using h4
      subst e4
      have hsl : sl = #[k0, k1, k2, k3, some (.builtin n), k5] := by
        obtain ⟨l⟩ := sl
        simp only at hs
        rw [hs]
      subst hsl
      exact ⟨nm, qn, ns, bs, sn, sub, ab, col, dd, k0, k1, k2, k3, k5, ho⟩
    · cases h
  · cases h
def xvB (x : Str) (B newId : String) (bm : List Value) (K : PySem.W.Frag) : Bool :=
  xcIn K (He.ga K x) bm newId && (He.eqO (PySem.W.findIn K (.ref (He.ga K x)) "__setattr__") (some (some (.builtin "object.__setattr__"))) && (decide (PySem.W.subIn K (.ref (He.ga K x)) (.type "BaseException") = some true) && (decide (PySem.W.typeIn K (.ref (He.ga K x)) = some (.type "type")) && (PySem.W.keepIn K (.ref (He.ga K x)) &&
    (He.eqO (PySem.W.findIn K (.ref (He.ga K x)) "__getattribute__") (some (some (.builtin "BaseException.__getattribute__"))) && (He.eqO (PySem.W.findIn K (.ref (He.ga K x)) "__getattr__") (some none) && (He.eqO (PySem.W.findIn K (.ref (He.ga K x)) "__class__") (some (some (.builtin "object.__class__"))) &&
      (He.eqO (PySem.W.specialIn K (.builtin "object.__class__") "__get__") (some (some (.builtin "getset_descriptor.__get__"))) && (decide (PySem.W.takesIn K (.builtin "object.__class__") = some true) && decide (PySem.W.subIn K (.ref (He.ga K x)) (.type B) = some true))))))))))
theorem xvB_ok {K : PySem.W.Frag} {x : Str} {B newId initId : String} {bm : List Value} (b : XBase B newId initId bm) (h : xvB x B newId bm K = true) : XV K (He.ga K x) B newId initId bm ∧ PySem.W.subIn K (.ref (He.ga K x)) (.type B) = some true := by
  obtain ⟨h1, h⟩ := He.ba h
  obtain ⟨h2, h⟩ := He.ba h
  obtain ⟨h3, h⟩ := He.ba h
  obtain ⟨h4, h⟩ := He.ba h
  obtain ⟨h5, h⟩ := He.ba h
  obtain ⟨h6, h⟩ := He.ba h
  obtain ⟨h7, h⟩ := He.ba h
  obtain ⟨h8, h⟩ := He.ba h
  obtain ⟨h9, h⟩ := He.ba h
  obtain ⟨h10, h11⟩ := He.ba h
  exact ⟨{ b := b, cls := xcIn_ok h1, sa := He.eqO_ok h2, exC := of_decide_eq_true h3, tyC := of_decide_eq_true h4, kC := h5, ga := He.eqO_ok h6, gg := He.eqO_ok h7, ac := He.eqO_ok h8, gt := He.eqO_ok h9, tk := of_decide_eq_true h10 }, of_decide_eq_true h11⟩
/-- where super() may stand -/
def statB (K : PySem.W.Frag) : Bool := He.eqO (PySem.W.nsIn K cStatics "thirdparty.any") (some none)
/-! ### the hook -/
abbrev AlX : Type := He.AlD × (Bool × List XW)
def obsY (fs : List Ft) (fn : List He.DefD) (file : Str) (xn : List XDef) (K : PySem.W.Frag) : AlX := (obsX fs fn K, xn.all (xdOk file K), xn.map fun d => xw K d.cls)
def valY (fn : List He.DefD) (xn : List XDef) : AlX := (He.valD fn, true, xn.map XDef.val)
def SaysY (fs : List Ft) (fn : List He.DefD) (file : Str) (xn : List XDef) (K : PySem.W.Frag) : Prop := obsY fs fn file xn K = valY fn xn
def cellL (g : Addr → Option Obj) (a : Addr) : List Addr := match g a with
  | some ⟨_, _, .func fd, _⟩ => fd.closure.map (·.2)
  | _ => []
def asY (g : Addr → Option Obj) (deep : Nat) : List Addr :=
  let G := refL g mainGlobals
  let C := (G.filter (isClsO g)).flatMap (refL g)
  let M := C.flatMap (refL g)
  cStatics :: ((M.filter (isFnO g)).flatMap (cellL g) ++ asX g deep)
def obsYG (n : Nat) (fs : List Ft) (fn : List He.DefD) (file : Str) (xn : List XDef) (g : Addr → Option Obj) : AlX := obsY fs fn file xn (He.frG g (asY g n))
def hookY (n : Nat) (fs : List Ft) (fn : List He.DefD) (file : Str) (xn : List XDef) : PySem.W.Hook where
  α := AlX
  obs := fun s => obsYG n fs fn file xn s.heap.get?
  val := fun _ => valY fn xn
  says := fun _ h => ∃ K : PySem.W.Frag, K.In h ∧ SaysY fs fn file xn K
  of := fun _ _ e => ⟨_, He.frG_in, e⟩
  keeps := fun _ _ _ ⟨K, hK, c⟩ k => ⟨K, PySem.W.Frag.In.keeps hK k, c⟩
theorem obsYG_eq {n : Nat} {fs : List Ft} {fn : List He.DefD} {file : Str} {xn : List XDef} {g : Addr → Option Obj} {s : Shared} (h : ∀ a, g a = s.heap.get? a) : obsYG n fs fn file xn g = (hookY n fs fn file xn).obs s := by
  have e : g = s.heap.get? := funext h
  rw [e] <;> rfl
section
variable {fs : List Ft} {fn : List He.DefD} {file : Str} {xn : List XDef} {K : PySem.W.Frag} {h : Heap} {mg : Str → Option Value} {x : Str} {B newId initId : String} {bm : List Value} {d : XDef}
theorem SaysY.toX (c : SaysY fs fn file xn K) : SaysX fs fn K := congrArg (fun z : AlX => z.1) c
theorem SaysY.xdef (c : SaysY fs fn file xn K) (i : Nat) (h : xn[i]? = some d := by rfl) : ∃ cc co, XFn K (He.fAd K (d.cls, some "__init__")) (He.ga K d.cls) (nfX d cc co) cc ∧ codeFile K co file = true := by
  have c2 : xn.all (xdOk file K) = true := congrArg (fun z : AlX => z.2.1) c
  have e : xn.map (fun d => xw K d.cls) = xn.map XDef.val := congrArg (fun z : AlX => z.2.2) c
  have e2 : (xn.map fun d => xw K d.cls)[i]? = (xn.map XDef.val)[i]? := by rw [e]
  rw [List.getElem?_map, List.getElem?_map, h] at e2
  exact xfn_of (Option.some.inj e2) (List.all_eq_true.mp c2 d (List.mem_of_getElem? h))
end
/-- what is known of an own exception class with an __init__ -/
structure XCls (K : PySem.W.Frag) (mg : Str → Option Value) (file : Str) (C : Addr) (cc co : Addr) (B newId initId : String) (bm : List Value) (d : XDef) : Prop where
  v : XV K C B newId initId bm
  s : PySem.W.subIn K (.ref C) (.type B) = some true
  g : mg d.cls = some (.ref C)
  f : ∃ f, PySem.W.findIn K (.ref C) "__init__" = some (some (.ref f)) ∧ PySem.W.typeIn K (.ref f) = some (.type "function") ∧ XFn K f C (nfX d cc co) cc
  cf : codeFile K co file = true
theorem xcls_x {fs : List Ft} {fn : List He.DefD} {file : Str} {xn : List XDef} {K : PySem.W.Frag} {h : Heap} {mg : Str → Option Value} {d : XDef} {B newId initId : String} {bm : List Value} (X : K.In h) (G : h.Ns mainGlobals mg) (c : SaysY fs fn file xn K) (b : XBase B newId initId bm) (i j l k : Nat)
    (hi : fs[i]? = some (.fa (.glo d.cls)) := by rfl) (hj : fs[j]? = some (.tst (xvB d.cls B newId bm)) := by rfl) (hl : fs[l]? = some (.fa (.meth d.cls "__init__")) := by rfl) (hk : xn[k]? = some d := by rfl) : ∃ cc co, XCls K mg file (He.ga K d.cls) cc co B newId initId bm d := by
  obtain ⟨v, s⟩ := xvB_ok b (c.toX.fact j hj)
  have m := He.meth_ok (c.toX.fact l hl)
  obtain ⟨cc, co, F, cf⟩ := c.xdef k hk
  exact ⟨cc, co, v, s, He.glo_ok X G (c.toX.fact i hi), ⟨_, m.at_, beq_iff_eq.mp m.fn, F⟩, cf⟩
/-- the place of super() in such an __init__ -/
theorem XCls.sup {K : PySem.W.Frag} {mg : Str → Option Value} {file : Str} {C cc co : Addr} {B newId initId : String} {bm : List Value} {d : XDef} (T : XCls K mg file C cc co B newId initId bm d) {P : Program} {w : World} {base : Heap} {N : List Str} {me : Str} {f : Addr} (hf : XFn K f C (nfX d cc co) cc)
    (hP : P.main.file = file) (top : (P.main.scope.names.lookup ("super" : Str)).isSome = false) (gl : mg "super" = none) (st : statB K = true)
    (ks : (defScope d.st).names.lookup ("super" : Str) = some .globalImplicit) (kc : (defScope d.st).names.lookup ("__class__" : Str) = some .free) (ka : (defScope d.st).names.lookup me = some .local) (loc : N[0]? = some me)
    (ha : (((defArgs d.st).posonlyargs ++ (defArgs d.st).args).head?.map (·.arg)) = some me) (A : Around) (outer : List Env) (s : Shared) (H : Hp) (E : XK) :
    SupE (NdefX.ncx CX0 P w K mg base N (nfX d cc co) f A outer s H E) C f cc (nfX d cc co).c me := by
  obtain ⟨oc, od, doc, pm, ctv, osl, lk⟩ := hf.lk
  obtain ⟨ccl, cdd, vs, ccs, y, t, q1, q2, q3⟩ := codeFile_ok T.cf
  refine { ks := ks, kc := kc, ka := ka, func := rfl, fo := ?_, code := rfl, co := ⟨ccl, cdd, vs, ccs, y, t, q1, q2, ?_⟩, top := top, cell := rfl, cel := hf.cel, gl := gl, loc := loc, st := He.eqO_ok st }
  · cases e : ((defArgs d.st).posonlyargs ++ (defArgs d.st).args).head? with
    | none => rw [e] at ha; cases ha
    | some ar =>
      rw [e] at ha
      exact ⟨oc, od, osl, _, ar, lk, e, Option.some.inj ha⟩
  · show ((P.main.file : Str) == y) = true
    rw [hP]
    exact q3
end DL

set_option Elab.async false
set_option linter.all false
set_option maxRecDepth 100000
set_option maxHeartbeats 4000000
namespace LW
open PySem PySem.Spec L2 DL
abbrev PG : Program := PySem.Challenge.pw_splitstays_k08_errors
def top (i : Nat) : Stmt := PG.main.body.getD i (.Pass ⟨0, 0, 0, 0⟩)
abbrev s_tupled : Stmt := top 2
abbrev N_tupled : List Str := ["thing", "part"]
theorem sc_tupled : FnScope N_tupled ["thing"] (defScope s_tupled) := ⟨rfl, rfl, rfl, by decide +kernel, rfl, by decide +kernel, by decide +kernel⟩
abbrev s__law_box : Stmt := top 19
abbrev N__law_box : List Str := ["_law_script", "_law_k", "_law_cell"]
theorem sc__law_box : FnScope N__law_box ["_law_script", "_law_k"] (defScope s__law_box) := ⟨rfl, rfl, rfl, by decide +kernel, rfl, by decide +kernel, by decide +kernel⟩
abbrev s__law_take : Stmt := top 20
abbrev N__law_take : List Str := ["_law_box_here", "_law_below", "_law_once", "_law_far", "_law_twice", "_law_found"]
theorem sc__law_take : FnScope N__law_take ["_law_box_here", "_law_below"] (defScope s__law_take) := ⟨rfl, rfl, rfl, by decide +kernel, rfl, by decide +kernel, by decide +kernel⟩
abbrev s__law_cells : Stmt := top 21
abbrev N__law_cells : List Str := ["_law_script", "_law_most", "_law_cells_here", "_law_k", "_law_cell"]
theorem sc__law_cells : FnScope N__law_cells ["_law_script", "_law_most"] (defScope s__law_cells) := ⟨rfl, rfl, rfl, by decide +kernel, rfl, by decide +kernel, by decide +kernel⟩
abbrev s__law_of : Stmt := top 22
abbrev N__law_of : List Str := ["_law_box_here", "_law_some"]
theorem sc__law_of : FnScope N__law_of ["_law_box_here", "_law_some"] (defScope s__law_of) := ⟨rfl, rfl, rfl, by decide +kernel, rfl, by decide +kernel, by decide +kernel⟩
abbrev s__law_same : Stmt := top 23
abbrev N__law_same : List Str := ["_law_found", "_law_due_so"]
theorem sc__law_same : FnScope N__law_same ["_law_found", "_law_due_so"] (defScope s__law_same) := ⟨rfl, rfl, rfl, by decide +kernel, rfl, by decide +kernel, by decide +kernel⟩
abbrev s__law_lists : Stmt := top 24
abbrev N__law_lists : List Str := ["_law_matter", "_law_bit"]
theorem sc__law_lists : FnScope N__law_lists ["_law_matter"] (defScope s__law_lists) := ⟨rfl, rfl, rfl, by decide +kernel, rfl, by decide +kernel, by decide +kernel⟩
abbrev s__law_sorts : Stmt := top 25
abbrev N__law_sorts : List Str := ["_law_error", "_law_found"]
theorem sc__law_sorts : FnScope N__law_sorts ["_law_error"] (defScope s__law_sorts) := ⟨rfl, rfl, rfl, by decide +kernel, rfl, by decide +kernel, by decide +kernel⟩
abbrev s__law_right : Stmt := top 26
abbrev N__law_right : List Str := ["_law_box_here", "_law_tale", "_law_made", "_law_bases", "_law_named", "_law_narrow", "_law_n", "_law_many", "_law_at", "_law_error", "_law_due_so", "_law_a", "_law_b", "_law_c", "_law_d", "_law_e", "_law_f", "_law_g", "_law_h", "_law_i", "_law_its", "_law_k"]
theorem sc__law_right : FnScope N__law_right ["_law_box_here"] (defScope s__law_right) := ⟨rfl, rfl, rfl, by decide +kernel, rfl, by decide +kernel, by decide +kernel⟩
abbrev s_law : Stmt := top 27
abbrev N_law : List Str := ["_law_script", "_law_cells_here", "_law_k", "_law_box_here", "_law_turn"]
theorem sc_law : FnScope N_law ["_law_script"] (defScope s_law) := ⟨rfl, rfl, rfl, by decide +kernel, rfl, by decide +kernel, by decide +kernel⟩
theorem hb_tupled : ∀ (kV doc pm : Value) (an : Option Addr) (cdv ct : Value) (us : List Value), us.length = (["thing"] : List Str).length → bindArgs (PySem.W.fnOf "tupled" "tupled" (defArgs s_tupled) (defBody s_tupled) (defScope s_tupled) .none kV doc pm an cdv ct) ⟨us, []⟩ = pure ((["thing"] : List Str).zip us) := fun _ _ _ _ _ _ us hl => match us, hl with | [_], _ => rfl
theorem hb__law_box : ∀ (kV doc pm : Value) (an : Option Addr) (cdv ct : Value) (us : List Value), us.length = (["_law_script", "_law_k"] : List Str).length → bindArgs (PySem.W.fnOf "_law_box" "_law_box" (defArgs s__law_box) (defBody s__law_box) (defScope s__law_box) .none kV doc pm an cdv ct) ⟨us, []⟩ = pure ((["_law_script", "_law_k"] : List Str).zip us) := fun _ _ _ _ _ _ us hl => match us, hl with | [_, _], _ => rfl
theorem hb__law_take : ∀ (kV doc pm : Value) (an : Option Addr) (cdv ct : Value) (us : List Value), us.length = (["_law_box_here", "_law_below"] : List Str).length → bindArgs (PySem.W.fnOf "_law_take" "_law_take" (defArgs s__law_take) (defBody s__law_take) (defScope s__law_take) .none kV doc pm an cdv ct) ⟨us, []⟩ = pure ((["_law_box_here", "_law_below"] : List Str).zip us) := fun _ _ _ _ _ _ us hl => match us, hl with | [_, _], _ => rfl
theorem hb__law_cells : ∀ (kV doc pm : Value) (an : Option Addr) (cdv ct : Value) (us : List Value), us.length = (["_law_script", "_law_most"] : List Str).length → bindArgs (PySem.W.fnOf "_law_cells" "_law_cells" (defArgs s__law_cells) (defBody s__law_cells) (defScope s__law_cells) .none kV doc pm an cdv ct) ⟨us, []⟩ = pure ((["_law_script", "_law_most"] : List Str).zip us) := fun _ _ _ _ _ _ us hl => match us, hl with | [_, _], _ => rfl
theorem hb__law_of : ∀ (kV doc pm : Value) (an : Option Addr) (cdv ct : Value) (us : List Value), us.length = (["_law_box_here", "_law_some"] : List Str).length → bindArgs (PySem.W.fnOf "_law_of" "_law_of" (defArgs s__law_of) (defBody s__law_of) (defScope s__law_of) .none kV doc pm an cdv ct) ⟨us, []⟩ = pure ((["_law_box_here", "_law_some"] : List Str).zip us) := fun _ _ _ _ _ _ us hl => match us, hl with | [_, _], _ => rfl
theorem hb__law_same : ∀ (kV doc pm : Value) (an : Option Addr) (cdv ct : Value) (us : List Value), us.length = (["_law_found", "_law_due_so"] : List Str).length → bindArgs (PySem.W.fnOf "_law_same" "_law_same" (defArgs s__law_same) (defBody s__law_same) (defScope s__law_same) .none kV doc pm an cdv ct) ⟨us, []⟩ = pure ((["_law_found", "_law_due_so"] : List Str).zip us) := fun _ _ _ _ _ _ us hl => match us, hl with | [_, _], _ => rfl
theorem hb__law_lists : ∀ (kV doc pm : Value) (an : Option Addr) (cdv ct : Value) (us : List Value), us.length = (["_law_matter"] : List Str).length → bindArgs (PySem.W.fnOf "_law_lists" "_law_lists" (defArgs s__law_lists) (defBody s__law_lists) (defScope s__law_lists) .none kV doc pm an cdv ct) ⟨us, []⟩ = pure ((["_law_matter"] : List Str).zip us) := fun _ _ _ _ _ _ us hl => match us, hl with | [_], _ => rfl
theorem hb__law_sorts : ∀ (kV doc pm : Value) (an : Option Addr) (cdv ct : Value) (us : List Value), us.length = (["_law_error"] : List Str).length → bindArgs (PySem.W.fnOf "_law_sorts" "_law_sorts" (defArgs s__law_sorts) (defBody s__law_sorts) (defScope s__law_sorts) .none kV doc pm an cdv ct) ⟨us, []⟩ = pure ((["_law_error"] : List Str).zip us) := fun _ _ _ _ _ _ us hl => match us, hl with | [_], _ => rfl
theorem hb__law_right : ∀ (kV doc pm : Value) (an : Option Addr) (cdv ct : Value) (us : List Value), us.length = (["_law_box_here"] : List Str).length → bindArgs (PySem.W.fnOf "_law_right" "_law_right" (defArgs s__law_right) (defBody s__law_right) (defScope s__law_right) .none kV doc pm an cdv ct) ⟨us, []⟩ = pure ((["_law_box_here"] : List Str).zip us) := fun _ _ _ _ _ _ us hl => match us, hl with | [_], _ => rfl
theorem hb_law : ∀ (kV doc pm : Value) (an : Option Addr) (cdv ct : Value) (us : List Value), us.length = (["_law_script"] : List Str).length → bindArgs (PySem.W.fnOf "law" "law" (defArgs s_law) (defBody s_law) (defScope s_law) .none kV doc pm an cdv ct) ⟨us, []⟩ = pure ((["_law_script"] : List Str).zip us) := fun _ _ _ _ _ _ us hl => match us, hl with | [_], _ => rfl
abbrev bm_LookupError : List Value := [.type "LookupError", .type "Exception", .type "BaseException", .type "object"]
abbrev bm_OverflowError : List Value := [.type "OverflowError", .type "ArithmeticError", .type "Exception", .type "BaseException", .type "object"]
abbrev bm_RuntimeError : List Value := [.type "RuntimeError", .type "Exception", .type "BaseException", .type "object"]
abbrev bm_ValueError : List Value := [.type "ValueError", .type "Exception", .type "BaseException", .type "object"]
abbrev s_NoMark___init__ : Stmt := inClass (top 4) 0
abbrev xd_NoMark : XDef := ⟨"NoMark", "NoMark.__init__", s_NoMark___init__⟩
theorem hx_NoMark (cc co : Addr) : ∀ (doc pm ctv : Value) (us : List Value), us.length = (["self", "mark"] : List Str).length → bindArgs ((nfX xd_NoMark cc co).fd doc pm ctv) ⟨us, []⟩ = pure ((["self", "mark"] : List Str).zip us) := fun _ _ _ us hl => match us, hl with | [_, _], _ => rfl
abbrev s_BadText___init__ : Stmt := inClass (top 5) 0
abbrev xd_BadText : XDef := ⟨"BadText", "BadText.__init__", s_BadText___init__⟩
theorem hx_BadText (cc co : Addr) : ∀ (doc pm ctv : Value) (us : List Value), us.length = (["self", "line"] : List Str).length → bindArgs ((nfX xd_BadText cc co).fd doc pm ctv) ⟨us, []⟩ = pure ((["self", "line"] : List Str).zip us) := fun _ _ _ us hl => match us, hl with | [_, _], _ => rfl
abbrev s_BadLine___init__ : Stmt := inClass (top 6) 0
abbrev xd_BadLine : XDef := ⟨"BadLine", "BadLine.__init__", s_BadLine___init__⟩
theorem hx_BadLine (cc co : Addr) : ∀ (doc pm ctv : Value) (us : List Value), us.length = (["self", "line"] : List Str).length → bindArgs ((nfX xd_BadLine cc co).fd doc pm ctv) ⟨us, []⟩ = pure ((["self", "line"] : List Str).zip us) := fun _ _ _ us hl => match us, hl with | [_, _], _ => rfl
abbrev s_Impossible___init__ : Stmt := inClass (top 7) 0
abbrev xd_Impossible : XDef := ⟨"Impossible", "Impossible.__init__", s_Impossible___init__⟩
theorem hx_Impossible (cc co : Addr) : ∀ (doc pm ctv : Value) (us : List Value), us.length = (["self", "paper"] : List Str).length → bindArgs ((nfX xd_Impossible cc co).fd doc pm ctv) ⟨us, []⟩ = pure ((["self", "paper"] : List Str).zip us) := fun _ _ _ us hl => match us, hl with | [_, _], _ => rfl
abbrev s_NoTransaction___init__ : Stmt := inClass (top 8) 0
abbrev xd_NoTransaction : XDef := ⟨"NoTransaction", "NoTransaction.__init__", s_NoTransaction___init__⟩
theorem hx_NoTransaction (cc co : Addr) : ∀ (doc pm ctv : Value) (us : List Value), us.length = (["self", "number"] : List Str).length → bindArgs ((nfX xd_NoTransaction cc co).fd doc pm ctv) ⟨us, []⟩ = pure ((["self", "number"] : List Str).zip us) := fun _ _ _ us hl => match us, hl with | [_, _], _ => rfl
abbrev s_NoRow___init__ : Stmt := inClass (top 9) 0
abbrev xd_NoRow : XDef := ⟨"NoRow", "NoRow.__init__", s_NoRow___init__⟩
theorem hx_NoRow (cc co : Addr) : ∀ (doc pm ctv : Value) (us : List Value), us.length = (["self", "key"] : List Str).length → bindArgs ((nfX xd_NoRow cc co).fd doc pm ctv) ⟨us, []⟩ = pure ((["self", "key"] : List Str).zip us) := fun _ _ _ us hl => match us, hl with | [_, _], _ => rfl
abbrev s_Held___init__ : Stmt := inClass (top 10) 0
abbrev xd_Held : XDef := ⟨"Held", "Held.__init__", s_Held___init__⟩
theorem hx_Held (cc co : Addr) : ∀ (doc pm ctv : Value) (us : List Value), us.length = (["self", "key", "number"] : List Str).length → bindArgs ((nfX xd_Held cc co).fd doc pm ctv) ⟨us, []⟩ = pure ((["self", "key", "number"] : List Str).zip us) := fun _ _ _ us hl => match us, hl with | [_, _, _], _ => rfl
abbrev s_NotBare___init__ : Stmt := inClass (top 11) 0
abbrev xd_NotBare : XDef := ⟨"NotBare", "NotBare.__init__", s_NotBare___init__⟩
theorem hx_NotBare (cc co : Addr) : ∀ (doc pm ctv : Value) (us : List Value), us.length = (["self", "page"] : List Str).length → bindArgs ((nfX xd_NotBare cc co).fd doc pm ctv) ⟨us, []⟩ = pure ((["self", "page"] : List Str).zip us) := fun _ _ _ us hl => match us, hl with | [_, _], _ => rfl
abbrev s_TooFar___init__ : Stmt := inClass (top 17) 0
abbrev xd_TooFar : XDef := ⟨"TooFar", "TooFar.__init__", s_TooFar___init__⟩
theorem hx_TooFar (cc co : Addr) : ∀ (doc pm ctv : Value) (us : List Value), us.length = (["self", "lsn"] : List Str).length → bindArgs ((nfX xd_TooFar cc co).fd doc pm ctv) ⟨us, []⟩ = pure ((["self", "lsn"] : List Str).zip us) := fun _ _ _ us hl => match us, hl with | [_, _], _ => rfl
theorem kx_BadLine_Id (cc co : Addr) : ∀ (doc pmv ctv self : Value) (ws : List Value), (pmId ws).length = 1 → bindArgs ((nfX xd_BadLine cc co).fd doc pmv ctv) ⟨[self], (["line"] : List Str).zip ws⟩ = pure ((["self", "line"] : List Str).zip (self :: pmId ws)) := fun _ _ _ _ ws hl => match ws, hl with | [_], _ => rfl
theorem kx_BadText_Id (cc co : Addr) : ∀ (doc pmv ctv self : Value) (ws : List Value), (pmId ws).length = 1 → bindArgs ((nfX xd_BadText cc co).fd doc pmv ctv) ⟨[self], (["line"] : List Str).zip ws⟩ = pure ((["self", "line"] : List Str).zip (self :: pmId ws)) := fun _ _ _ _ ws hl => match ws, hl with | [_], _ => rfl
theorem kx_Held_Swap (cc co : Addr) : ∀ (doc pmv ctv self : Value) (ws : List Value), (pmSwap ws).length = 2 → bindArgs ((nfX xd_Held cc co).fd doc pmv ctv) ⟨[self], (["number", "key"] : List Str).zip ws⟩ = pure ((["self", "key", "number"] : List Str).zip (self :: pmSwap ws)) := fun _ _ _ _ ws hl => match ws, hl with | [_, _], _ => rfl
theorem kx_Impossible_Id (cc co : Addr) : ∀ (doc pmv ctv self : Value) (ws : List Value), (pmId ws).length = 1 → bindArgs ((nfX xd_Impossible cc co).fd doc pmv ctv) ⟨[self], (["paper"] : List Str).zip ws⟩ = pure ((["self", "paper"] : List Str).zip (self :: pmId ws)) := fun _ _ _ _ ws hl => match ws, hl with | [_], _ => rfl
theorem kx_NoMark_Id (cc co : Addr) : ∀ (doc pmv ctv self : Value) (ws : List Value), (pmId ws).length = 1 → bindArgs ((nfX xd_NoMark cc co).fd doc pmv ctv) ⟨[self], (["mark"] : List Str).zip ws⟩ = pure ((["self", "mark"] : List Str).zip (self :: pmId ws)) := fun _ _ _ _ ws hl => match ws, hl with | [_], _ => rfl
theorem kx_NoRow_Id (cc co : Addr) : ∀ (doc pmv ctv self : Value) (ws : List Value), (pmId ws).length = 1 → bindArgs ((nfX xd_NoRow cc co).fd doc pmv ctv) ⟨[self], (["key"] : List Str).zip ws⟩ = pure ((["self", "key"] : List Str).zip (self :: pmId ws)) := fun _ _ _ _ ws hl => match ws, hl with | [_], _ => rfl
theorem kx_NoTransaction_Id (cc co : Addr) : ∀ (doc pmv ctv self : Value) (ws : List Value), (pmId ws).length = 1 → bindArgs ((nfX xd_NoTransaction cc co).fd doc pmv ctv) ⟨[self], (["number"] : List Str).zip ws⟩ = pure ((["self", "number"] : List Str).zip (self :: pmId ws)) := fun _ _ _ _ ws hl => match ws, hl with | [_], _ => rfl
theorem kx_NotBare_Id (cc co : Addr) : ∀ (doc pmv ctv self : Value) (ws : List Value), (pmId ws).length = 1 → bindArgs ((nfX xd_NotBare cc co).fd doc pmv ctv) ⟨[self], (["page"] : List Str).zip ws⟩ = pure ((["self", "page"] : List Str).zip (self :: pmId ws)) := fun _ _ _ _ ws hl => match ws, hl with | [_], _ => rfl
theorem kx_TooFar_Id (cc co : Addr) : ∀ (doc pmv ctv self : Value) (ws : List Value), (pmId ws).length = 1 → bindArgs ((nfX xd_TooFar cc co).fd doc pmv ctv) ⟨[self], (["lsn"] : List Str).zip ws⟩ = pure ((["self", "lsn"] : List Str).zip (self :: pmId ws)) := fun _ _ _ _ ws hl => match ws, hl with | [_], _ => rfl
/-- the own exception classes, as the top has left them; c tells their addresses -/
structure Xs (K : PySem.W.Frag) (mg : Str → Option Value) (c : Str → Addr) : Prop where
  g_NoMark : mg "NoMark" = some (.ref (c "NoMark"))
  x_NoMark : XV K (c "NoMark") "ValueError" "ValueError.__new__" "ValueError.__init__" bm_ValueError
  f_NoMark_mark : PySem.W.findIn K (.ref (c "NoMark")) "mark" = some none
  g_BadText : mg "BadText" = some (.ref (c "BadText"))
  x_BadText : XV K (c "BadText") "ValueError" "ValueError.__new__" "ValueError.__init__" bm_ValueError
  f_BadText_line : PySem.W.findIn K (.ref (c "BadText")) "line" = some none
  g_BadLine : mg "BadLine" = some (.ref (c "BadLine"))
  x_BadLine : XV K (c "BadLine") "ValueError" "ValueError.__new__" "ValueError.__init__" bm_ValueError
  f_BadLine_line : PySem.W.findIn K (.ref (c "BadLine")) "line" = some none
  g_Impossible : mg "Impossible" = some (.ref (c "Impossible"))
  x_Impossible : XV K (c "Impossible") "ValueError" "ValueError.__new__" "ValueError.__init__" bm_ValueError
  f_Impossible_paper : PySem.W.findIn K (.ref (c "Impossible")) "paper" = some none
  g_NoTransaction : mg "NoTransaction" = some (.ref (c "NoTransaction"))
  x_NoTransaction : XV K (c "NoTransaction") "LookupError" "LookupError.__new__" "LookupError.__init__" bm_LookupError
  f_NoTransaction_number : PySem.W.findIn K (.ref (c "NoTransaction")) "number" = some none
  g_NoRow : mg "NoRow" = some (.ref (c "NoRow"))
  x_NoRow : XV K (c "NoRow") "LookupError" "LookupError.__new__" "LookupError.__init__" bm_LookupError
  f_NoRow_key : PySem.W.findIn K (.ref (c "NoRow")) "key" = some none
  g_Held : mg "Held" = some (.ref (c "Held"))
  x_Held : XV K (c "Held") "RuntimeError" "RuntimeError.__new__" "RuntimeError.__init__" bm_RuntimeError
  f_Held_key : PySem.W.findIn K (.ref (c "Held")) "key" = some none
  f_Held_number : PySem.W.findIn K (.ref (c "Held")) "number" = some none
  g_NotBare : mg "NotBare" = some (.ref (c "NotBare"))
  x_NotBare : XV K (c "NotBare") "RuntimeError" "RuntimeError.__new__" "RuntimeError.__init__" bm_RuntimeError
  f_NotBare_page : PySem.W.findIn K (.ref (c "NotBare")) "page" = some none
  g_Busy : mg "Busy" = some (.ref (c "Busy"))
  x_Busy : XV K (c "Busy") "RuntimeError" "RuntimeError.__new__" "RuntimeError.__init__" bm_RuntimeError
  h_Busy : HasX0 K mg (c "Busy") "Busy"
  g_Idle : mg "Idle" = some (.ref (c "Idle"))
  x_Idle : XV K (c "Idle") "RuntimeError" "RuntimeError.__new__" "RuntimeError.__init__" bm_RuntimeError
  h_Idle : HasX0 K mg (c "Idle") "Idle"
  g_Down : mg "Down" = some (.ref (c "Down"))
  x_Down : XV K (c "Down") "RuntimeError" "RuntimeError.__new__" "RuntimeError.__init__" bm_RuntimeError
  h_Down : HasX0 K mg (c "Down") "Down"
  g_Up : mg "Up" = some (.ref (c "Up"))
  x_Up : XV K (c "Up") "RuntimeError" "RuntimeError.__new__" "RuntimeError.__init__" bm_RuntimeError
  h_Up : HasX0 K mg (c "Up") "Up"
  g_NoCheck : mg "NoCheck" = some (.ref (c "NoCheck"))
  x_NoCheck : XV K (c "NoCheck") "RuntimeError" "RuntimeError.__new__" "RuntimeError.__init__" bm_RuntimeError
  h_NoCheck : HasX0 K mg (c "NoCheck") "NoCheck"
  g_TooFar : mg "TooFar" = some (.ref (c "TooFar"))
  x_TooFar : XV K (c "TooFar") "OverflowError" "OverflowError.__new__" "OverflowError.__init__" bm_OverflowError
  f_TooFar_lsn : PySem.W.findIn K (.ref (c "TooFar")) "lsn" = some none
  nd : ([("NoMark" : Str), ("BadText" : Str), ("BadLine" : Str), ("Impossible" : Str), ("NoTransaction" : Str), ("NoRow" : Str), ("Held" : Str), ("NotBare" : Str), ("Busy" : Str), ("Idle" : Str), ("Down" : Str), ("Up" : Str), ("NoCheck" : Str), ("TooFar" : Str)].map c).Nodup
/-- what the top has left: built-in names that nothing hides, constants -/
structure Tx (K : PySem.W.Frag) (mg : Str → Option Value) : Prop where
  z_IndexError : mg "IndexError" = none
  z_KeyError : mg "KeyError" = none
  z_LookupError : mg "LookupError" = none
  z_OverflowError : mg "OverflowError" = none
  z_RuntimeError : mg "RuntimeError" = none
  z_ValueError : mg "ValueError" = none
  z_abs : mg "abs" = none
  z_all : mg "all" = none
  z_any : mg "any" = none
  z_enumerate : mg "enumerate" = none
  z_int : mg "int" = none
  z_isinstance : mg "isinstance" = none
  z_len : mg "len" = none
  z_list : mg "list" = none
  z_range : mg "range" = none
  z_repr : mg "repr" = none
  z_super : mg "super" = none
  z_tuple : mg "tuple" = none
  c_FULL : ∃ t, mg "FULL" = some (.int 4 t)
end LW

set_option Elab.async false
set_option linter.all false
set_option maxRecDepth 100000
set_option maxHeartbeats 4000000
namespace LW
open PySem PySem.Spec L2 DL
local macro_rules | `(tactic| walk_at "mem") => `(tactic| ((repeat rw [upM_ne (by assumption)]); first | exact upM_same | assumption))
local macro_rules | `(tactic| walk_at "look") => `(tactic| first | rfl | assumption | exact atI_map0 | exact atI_map1 | walk_at "mem" | (with_reducible apply lsOf_m; walk_at "mem") | (with_reducible apply sqOf_m; walk_at "mem") | (with_reducible apply rlOf_m; walk_at "mem") | (with_reducible apply sqOf'_m; walk_at "mem") | (with_reducible apply tru_l; walk_at "mem") | (with_reducible apply tru_d; walk_at "mem") | ((simp (discharger := assumption) only [sqOf, sqOf', rlOf, lsOf, tru, upM_same, upM_ne]) <;> rfl))
local macro_rules | `(tactic| walk_at "set") => `(tactic| (simp only [wipeD, List.set_cons_zero, List.set_cons_succ, List.set_nil]; rfl))
local macro_rules | `(tactic| walk_at "side") => `(tactic| first | omega | (simp only [List.length_map, List.length_cons, List.length_nil]; omega) | assumption | rfl | decide | exact ⟨by omega, by omega⟩ | exact Nat.le_of_ble_eq_true rfl)
local macro_rules | `(tactic| walk_at "head") => `(tactic| with_reducible conv => whnf)
local macro_rules | `(tactic| walk_at "step") => `(tactic| (walk_at "head"; first
  | ((with_reducible apply gN_go); (focus walk_at "set"))
  | ((with_reducible apply e1s); (focus rfl))
  | ((with_reducible apply e1); (focus walk_at "look"))
  | ((with_reducible apply e2); (focus walk_at "look"); (focus walk_at "look"))
  | ((with_reducible apply l1); (focus walk_at "look"))
  | ((with_reducible apply l2); (focus walk_at "look"); (focus walk_at "look"))
  | ((with_reducible apply e3); (focus walk_at "look"); (focus walk_at "look"); (focus walk_at "look"))
  | ((with_reducible apply e0a); (focus walk_at "look"))
  | ((with_reducible apply And.intro); (focus walk_at "side"))
  | ((with_reducible apply d1); (focus walk_at "look"))
  | ((with_reducible apply d2); (focus walk_at "look"); (focus walk_at "look"))
  | ((with_reducible apply d3); (focus walk_at "look"); (focus walk_at "look"); (focus walk_at "look"))
  | ((with_reducible apply d0); (focus walk_at "look"))
  | ((with_reducible apply lk1); (focus walk_at "look"))
  | with_reducible apply gw2_go
  | with_reducible apply gw3_go
  | with_reducible apply gs_go
  | with_reducible apply gt2_go
  | with_reducible apply gt3_go
  | with_reducible apply gt1_go
  | with_reducible apply gt4_go
  | with_reducible apply gt5_go
  | with_reducible apply gt6_go
  | with_reducible apply gt7_go
  | with_reducible apply gt8_go
  | with_reducible apply ift_go
  | with_reducible apply iff_go
  | ((with_reducible apply ifT_go); (focus rfl))
  | ((with_reducible apply ifF_go); (focus rfl))))
local macro_rules | `(tactic| walk_at "run") => `(tactic| (repeat walk_at "step"); walk_at "head")
local macro_rules | `(tactic| walk_at "start") => `(tactic| simp only [startD, List.map_cons, List.map_nil, List.length_cons, List.length_nil, List.replicate, List.cons_append, List.nil_append, Nat.reduceAdd, Nat.reduceSub, bodyK])
/-! ### draws -/
structure Bx where
  x : Int
  y : Int
  z : Int
abbrev Bx.mo (B : Bx) : MO := .lst [.i B.x, .i B.y, .i B.z]
/-- so many draws are left -/
structure Bx.Ok (B : Bx) (m : Nat) : Prop where
  y0 : 0 ≤ B.y
  y1 : B.y < 2 ^ 62
  z0 : 0 ≤ B.z
  z1 : B.z + (m : Int) ≤ 2 ^ 50
theorem Bx.Ok.mono {B : Bx} {m n : Nat} (h : B.Ok m) (l : n ≤ m) : B.Ok n := ⟨h.y0, h.y1, h.z0, by have := h.z1; omega⟩
abbrev intD (ns : List Int) : PyData := .list (ns.map PyData.int)
def cn_take : Cn := fun rs M R => ∃ b B n m, rs = [.v (.ref b), .i n] ∧ M b = some B.mo ∧ Bx.Ok B (m + 1) ∧ 0 < n ∧ n < 2 ^ 30 ∧ ∀ v B', 0 ≤ v → v < n → Bx.Ok B' m → R (.i v) (upM M b B'.mo)
def cn_box : Cn := fun rs M R => ∃ cs k, rs = [.d (intD cs), .i k] ∧ 0 ≤ k ∧ k < 100 ∧ ∀ b B, M b = none → Bx.Ok B (2 ^ 49) → R (.v (.ref b)) (upM M b B.mo)
def cn_of : Cn := fun rs M R => ∃ b B ds m, rs = [.v (.ref b), .d (.list ds)] ∧ M b = some B.mo ∧ Bx.Ok B (m + 1) ∧ 0 < ds.length ∧ ds.length < 2 ^ 30 ∧ ∀ d B', d ∈ ds → Bx.Ok B' m → R (.d d) (upM M b B'.mo)
def cn_same : Cn := fun rs M R => ∃ d, rs = [.d d, .d d] ∧ Shw d ∧ R (.b true) M
section
variable {P : Program} {w : World} {K : PySem.W.Frag} {mg : Str → Option Value} {base : Heap}
theorem ok_take (T : Tx K mg) {f : Addr} {fd : FuncData} (Fu : Fun K "_law_take" "_law_take" s__law_take f fd) : FnD P w K mg base 1 f fd ["_law_box_here", "_law_below"] cn_take := by
  refine fnD_of Fu sc__law_take (fun rs M R h => ?_) fun cdv A outer s H hgd hr => ⟨_, (pdb_cons (pds_if (pdt_cmp o_gt (pd_ix (pd_var 0) pd_int) pd_int (nomark _)) (pdb_cons (pds_set 5 sc__law_take.nd (pd_op o_mod (pd_callT c_int (by rfl) T.z_int (by decide +kernel) (pda_cons (pd_ix (pd_var 0) pd_int) pda_nil)) (pd_var 1)))
      (pdb_cons (pds_asg (pd_op o_div (pd_ix (pd_var 0) pd_int) (pd_var 1)) (pdg_setL (pd_var 0) pd_int))
      (pdb_one (pds_ret (pd_var 5))))) pdb_nil)
      (pdb_cons (pds_asg (pd_op o_plus (pd_ix (pd_var 0) pd_int) pd_int) (pdg_setL (pd_var 0) pd_int))
      (pdb_cons (pds_set 2 sc__law_take.nd (pd_op o_mod (pd_op o_times (pd_op o_plus (pd_ix (pd_var 0) pd_int) (pd_op o_times pd_int (pd_ix (pd_var 0) pd_int))) (pd_op o_plus pd_int (pd_ix (pd_var 0) pd_int))) pd_int))
      (pdb_cons (pds_set 3 sc__law_take.nd (pd_op o_plus (pd_op o_mod (pd_callT c_int (by rfl) T.z_int (by decide +kernel) (pda_cons (pd_var 2) pda_nil)) pd_int) pd_int))
      (pdb_cons (pds_set 4 sc__law_take.nd (pd_op o_mod (pd_op o_times (pd_op o_plus (pd_op o_plus (pd_var 2) (pd_ix (pd_var 0) pd_int)) (pd_op o_div (pd_ix (pd_var 0) pd_int) pd_int)) (pd_var 3)) pd_int))
      (pdb_one (pds_ret (pd_op o_mod (pd_op o_div (pd_op o_mod (pd_op o_plus (pd_op o_times (pd_var 4) pd_int) (pd_var 2)) pd_int) pd_int) (pd_var 1))))))))), ?_⟩
  · obtain ⟨b, B, n, m, rfl, _⟩ := h
    rfl
  · rintro rs M R ⟨b, B, n, m, rfl, hb, ok, n0, n1, k⟩
    rw [← upM_self hb] at k ⊢
    have hz := ok.z0
    have hz1 := ok.z1
    have hy := ok.y0
    have hy1 := ok.y1
    walk_at "start"
    walk_at "run"
    with_reducible apply ifd_go <;> intro hx
    · walk_at "run"
      exact upR.of (k (B.x % n) ⟨B.x / n, B.y, B.z⟩ (Int.emod_nonneg _ (by omega)) (Int.emod_lt_of_pos _ n0) ⟨hy, hy1, hz, by show B.z + _ ≤ _; omega⟩)
    · walk_at "run"
      exact upR.of (k _ ⟨B.x, B.y, B.z + 1⟩ (Int.emod_nonneg _ (by omega)) (Int.emod_lt_of_pos _ n0) ⟨hy, hy1, by show 0 ≤ B.z + 1; omega, by show B.z + 1 + _ ≤ _; omega⟩)
theorem ok_box (T : Tx K mg) {f : Addr} {fd : FuncData} (Fu : Fun K "_law_box" "_law_box" s__law_box f fd) : FnD P w K mg base 1 f fd ["_law_script", "_law_k"] cn_box := by
  refine fnD_of Fu sc__law_box (fun rs M R h => ?_) fun cdv A outer s H hgd hr => ⟨_, (pdb_cons (pds_set 2 sc__law_box.nd (pd_if (pdt_cmp o_lt (pd_var 1) (pd_callB c_len (by rfl) T.z_len (by decide +kernel) (pda_cons (pd_var 0) pda_nil)) (nomark _)) (pd_ix (pd_var 0) (pd_var 1)) pd_int))
      (pdb_one (pds_ret (pd_lstM (pda_cons (pd_op o_times (pd_callB c_abs (by rfl) T.z_abs (by decide +kernel) (pda_cons (pd_var 2) pda_nil)) (pd_callT c_int (by rfl) T.z_int (by decide +kernel) (pda_cons (pd_cmp o_ge (pd_callB c_abs (by rfl) T.z_abs (by decide +kernel) (pda_cons (pd_var 2) pda_nil)) (pd_op o_pow pd_int pd_int) (nomark _)) pda_nil))) (pda_cons (pd_op o_plus (pd_op o_plus (pd_op o_mod (pd_callT c_int (by rfl) T.z_int (by decide +kernel) (pda_cons (pd_var 2) pda_nil)) pd_int) (pd_op o_times pd_int (pd_var 1))) pd_int) (pda_cons pd_int pda_nil))))))), ?_⟩
  · obtain ⟨b, B, rfl, _⟩ := h
    rfl
  · rintro rs M R ⟨cs, k, rfl, k0, k1, hk⟩
    walk_at "start"
    refine seq_cut (fun dl M' => M' = M ∧ ∃ c, dl = [some (.d (intD cs)), some (.i k), some (.i c)]) ?_ fun nx hnx => ?_
    · rintro _ _ ⟨rfl, c, rfl⟩
      walk_at "run"
      intro p hp
      have hm := Int.emod_nonneg c (show (2305843009213693951 : Int) ≠ 0 by decide)
      have hm2 := Int.emod_lt_of_pos c (show (0 : Int) < 2305843009213693951 by decide)
      refine upR.of (hk p ⟨_, _, 0⟩ hp ⟨?_, ?_, ?_, ?_⟩)
      · show 0 ≤ c % 2305843009213693951 + 39373 * k + 71; omega
      · show c % 2305843009213693951 + 39373 * k + 71 < 2 ^ 62; omega
      · show (0 : Int) ≤ 0; omega
      · show (0 : Int) + ((2 ^ 49 : Nat) : Int) ≤ 2 ^ 50; decide
    · walk_at "run"
      with_reducible apply ifd_go <;> intro hx
      · walk_at "run"
        simp only [List.length_map] at hx
        refine e2 rfl (atI_int k0 (i := k) (x := .i (cs[k.toNat]'(by omega))) ?_) ?_
        · rw [List.getElem?_map, List.getElem?_map, List.getElem?_eq_getElem (by omega)]; rfl
        · walk_at "run"
          exact hnx _ _ ⟨rfl, _, rfl⟩
      · walk_at "run"
        exact hnx _ _ ⟨rfl, _, rfl⟩
theorem ok_of (T : Tx K mg) (H__law_take : Has P w K mg base 1 "_law_take" s__law_take ["_law_box_here", "_law_below"] cn_take) {f : Addr} {fd : FuncData} (Fu : Fun K "_law_of" "_law_of" s__law_of f fd) : FnD P w K mg base 2 f fd ["_law_box_here", "_law_some"] cn_of := by
  refine fnD_of Fu sc__law_of (fun rs M R h => ?_) fun cdv A outer s H hgd hr => ⟨_, (pdb_one (pds_ret (pd_ix (pd_var 1) (pd_fn H__law_take hgd (hr.mono (by first | decide | omega)) (by rfl) (pda_cons (pd_var 0) (pda_cons (pd_callB c_len (by rfl) T.z_len (by decide +kernel) (pda_cons (pd_var 1) pda_nil)) pda_nil)))))), ?_⟩
  · obtain ⟨b, B, n, m, rfl, _⟩ := h
    rfl
  · rintro rs M R ⟨b, B, ds, m, rfl, hb, ok, n0, n1, k⟩
    rw [← upM_self hb] at k ⊢
    walk_at "start"
    walk_at "run"
    simp only [List.length_map]
    refine ⟨b, B, _, m, rfl, upM_same, ok, by omega, by omega, fun v B' v0 v1 ok' => ?_⟩
    walk_at "head"
    refine e2 rfl (atI_int v0 (x := .d (ds[v.toNat]'(by omega))) ?_) ?_
    · rw [List.getElem?_map, List.getElem?_eq_getElem (by omega)]; rfl
    · exact upR.of (k _ B' (List.getElem_mem _) ok')
theorem ok_same (T : Tx K mg) {f : Addr} {fd : FuncData} (Fu : Fun K "_law_same" "_law_same" s__law_same f fd) : FnD P w K mg base 1 f fd ["_law_found", "_law_due_so"] cn_same := by
  refine fnD_of Fu sc__law_same (fun rs M R h => ?_) fun cdv A outer s H hgd hr => ⟨_, (pdb_one (pds_ret (pd_cmp (o_eq hr.units) (pd_callB (c_repr hgd hr.units) (by rfl) T.z_repr (by decide +kernel) (pda_cons (pd_var 0) pda_nil)) (pd_callB (c_repr hgd hr.units) (by rfl) T.z_repr (by decide +kernel) (pda_cons (pd_var 1) pda_nil)) (nomark _)))), ?_⟩
  · obtain ⟨b, rfl, _⟩ := h
    rfl
  · rintro rs M R ⟨d, rfl, hd, k⟩
    walk_at "start"
    walk_at "run"
    rw [decide_eq_true rfl]
    exact upR.of k
end
end LW

set_option Elab.async false
set_option linter.all false
set_option maxRecDepth 100000
set_option maxHeartbeats 4000000
namespace LW
open PySem PySem.Spec L2 DL
local macro_rules | `(tactic| walk_at "mem") => `(tactic| ((repeat rw [upM_ne (by assumption)]); first | exact upM_same | assumption))
local macro_rules | `(tactic| walk_at "look") => `(tactic| first | rfl | assumption | exact atI_map0 | exact atI_map1 | walk_at "mem" | (with_reducible apply lsOf_m; walk_at "mem") | (with_reducible apply sqOf_m; walk_at "mem") | (with_reducible apply rlOf_m; walk_at "mem") | (with_reducible apply sqOf'_m; walk_at "mem") | (with_reducible apply tru_l; walk_at "mem") | (with_reducible apply tru_d; walk_at "mem") | ((simp (discharger := assumption) only [sqOf, sqOf', rlOf, lsOf, tru, upM_same, upM_ne]) <;> rfl))
local macro_rules | `(tactic| walk_at "set") => `(tactic| (simp only [wipeD, List.set_cons_zero, List.set_cons_succ, List.set_nil]; rfl))
local macro_rules | `(tactic| walk_at "side") => `(tactic| first | omega | (simp only [List.length_map, List.length_cons, List.length_nil]; omega) | assumption | rfl | decide | exact ⟨by omega, by omega⟩ | exact Nat.le_of_ble_eq_true rfl)
local macro_rules | `(tactic| walk_at "head") => `(tactic| with_reducible conv => whnf)
local macro_rules | `(tactic| walk_at "step") => `(tactic| (walk_at "head"; first
  | ((with_reducible apply gN_go); (focus walk_at "set"))
  | ((with_reducible apply e1s); (focus rfl))
  | ((with_reducible apply e1); (focus walk_at "look"))
  | ((with_reducible apply e2); (focus walk_at "look"); (focus walk_at "look"))
  | ((with_reducible apply l1); (focus walk_at "look"))
  | ((with_reducible apply l2); (focus walk_at "look"); (focus walk_at "look"))
  | ((with_reducible apply e3); (focus walk_at "look"); (focus walk_at "look"); (focus walk_at "look"))
  | ((with_reducible apply e0a); (focus walk_at "look"))
  | ((with_reducible apply And.intro); (focus walk_at "side"))
  | ((with_reducible apply d1); (focus walk_at "look"))
  | ((with_reducible apply d2); (focus walk_at "look"); (focus walk_at "look"))
  | ((with_reducible apply d3); (focus walk_at "look"); (focus walk_at "look"); (focus walk_at "look"))
  | ((with_reducible apply d0); (focus walk_at "look"))
  | ((with_reducible apply lk1); (focus walk_at "look"))
  | with_reducible apply gw2_go
  | with_reducible apply gw3_go
  | with_reducible apply gs_go
  | with_reducible apply gt2_go
  | with_reducible apply gt3_go
  | with_reducible apply gt1_go
  | with_reducible apply gt4_go
  | with_reducible apply gt5_go
  | with_reducible apply gt6_go
  | with_reducible apply gt7_go
  | with_reducible apply gt8_go
  | with_reducible apply ift_go
  | with_reducible apply iff_go
  | ((with_reducible apply ifT_go); (focus rfl))
  | ((with_reducible apply ifF_go); (focus rfl))))
local macro_rules | `(tactic| walk_at "run") => `(tactic| (repeat walk_at "step"); walk_at "head")
local macro_rules | `(tactic| walk_at "start") => `(tactic| simp only [startD, List.map_cons, List.map_nil, List.length_cons, List.length_nil, List.replicate, List.cons_append, List.nil_append, Nat.reduceAdd, Nat.reduceSub, bodyK])
def cn_cells : Cn := fun rs M R => ∃ ns most, rs = [.r ns, .i most] ∧ 0 < most ∧ most < 63 ∧ ∀ cs, cs ≠ [] → (cs.length : Int) ≤ most → R (.d (intD cs)) M
section
variable {P : Program} {w : World} {K : PySem.W.Frag} {mg : Str → Option Value} {base : Heap}
theorem ok_cells (T : Tx K mg) {f : Addr} {fd : FuncData} (Fu : Fun K "_law_cells" "_law_cells" s__law_cells f fd) : FnD P w K mg base 1 f fd ["_law_script", "_law_most"] cn_cells := by
  refine fnD_of Fu sc__law_cells (fun rs M R h => ?_) fun cdv A outer s H hgd hr => ⟨_, (pdb_cons (pds_set 2 sc__law_cells.nd (pd_or (pd_callT c_listM (by rfl) T.z_list (by decide +kernel) (pda_cons (pd_slice (pd_var 0) pdo_none (pdo_some (pd_var 1))) pda_nil)) (pd_one (pd_lstM (pda_cons pd_int pda_nil)))))
      (pdb_cons (pds_for PassesOwn.never rfl (pdi_enum (by rfl) T.z_enumerate (pda_cons (pd_slice (pd_var 0) (pdo_some (pd_var 1)) (pdo_some pd_int)) pda_nil)) (pdg_tup (n := 2) rfl (pdgs_cons (pdg_name 3 sc__law_cells.nd) (pdgs_cons (pdg_name 4 sc__law_cells.nd) pdgs_nil))) (pdb_one (pds_asg (pd_op o_plus (pd_ix (pd_var 2) (pd_op o_mod (pd_callT c_int (by rfl) T.z_int (by decide +kernel) (pda_cons (pd_var 3) pda_nil)) (pd_var 1))) (pd_op o_times (pd_var 4) (pd_op o_plus (pd_var 3) pd_int))) (pdg_setL (pd_var 2) (pd_op o_mod (pd_callT c_int (by rfl) T.z_int (by decide +kernel) (pda_cons (pd_var 3) pda_nil)) (pd_var 1))))))
      (pdb_one (pds_ret (pd_var 2))))), ?_⟩
  · obtain ⟨b, B, rfl, _⟩ := h
    rfl
  · rintro rs M R ⟨ns, most, rfl, k0, k1, hk⟩
    walk_at "start"
    refine seq_cut (fun dl M' => ∃ p cs, M p = none ∧ Le M M' ∧ M' p = some (.lst (cs.map fun n => Sl.i n)) ∧ cs ≠ [] ∧ (cs.length : Int) ≤ most ∧ (most < ns.length → (cs.length : Int) = most) ∧ dl = [some (.r ns), some (.i most), some (.v (.ref p)), none, none]) ?_ fun nx hnx => ?_
    · rintro _ M1 ⟨p, cs, hp, hle, hp1, c0, c1, c2, rfl⟩
      walk_at "run"
      refine e2 rfl (by rw [cutA_mid (by omega) (by omega), ← List.map_take, ← List.map_drop]; exact datI _) ?_
      walk_at "run"
      refine for_ind (fun rest dl M' => ∃ cs k c, Le M M' ∧ M' p = some (.lst (cs.map fun n => Sl.i n)) ∧ cs ≠ [] ∧ (cs.length : Int) ≤ most ∧ (rest ≠ [] → (cs.length : Int) = most) ∧ (∀ x ∈ rest, ∃ (i : Nat) (c : Int), i < 100 ∧ x = .w [.int i, .int c]) ∧ dl = [some (.r ns), some (.i most), some (.v (.ref p)), k, c]) ?_ ?_ ⟨cs, _, _, hle, hp1, c0, c1, ?_, ?_, rfl⟩
      · rintro _ M2 ⟨cs, _, _, hle, hp1, c0, c1, _, _, rfl⟩
        walk_at "run"
        exact ⟨trivial, e1s rfl ⟨_, _, Vw.frz (by rw [hp1, mapI]) hle hp, hk cs c0 c1⟩⟩
      · rintro x xs nx _ M2 hnx ⟨cs, _, _, hle, hp1, c0, c1, c2, hx, rfl⟩
        obtain ⟨i, c, hi, rfl⟩ := hx x List.mem_cons_self
        have c3 := c2 (by simp)
        have m0 := Int.emod_nonneg (i : Int) (show most ≠ 0 by omega)
        have m1 := Int.emod_lt_of_pos (i : Int) k0
        refine ⟨trivial, ?_⟩
        rw [← upM_self hp1]
        have hget : ∀ j : Int, 0 ≤ j → j < most → atI (cs.map fun n => Sl.i n) j = some (.i (cs.getD j.toNat 0)) := fun j j0 j1 => by
          refine atI_int j0 ?_
          rw [List.getElem?_map, List.getD_eq_getElem?_getD, List.getElem?_eq_getElem (by omega)]; rfl
        walk_at "run"
        refine e2 (by walk_at "look") (hget _ m0 m1) ?_
        walk_at "run"
        refine l2 upM_same (b := ((i : Int) % most).toNat) ?_ ?_
        · unfold ixN
          rw [if_pos m0, if_pos (by rw [List.length_map]; omega)]
        · rw [upM_upM, intsS_set]
          refine hnx _ _ ⟨_, _, _, fun a o h => by rw [upM_ne (neM h hp)]; exact hle a o h, upM_same, ?_, ?_, ?_, fun y hy => hx y (List.mem_cons_of_mem _ hy), rfl⟩
          · intro e
            apply c0
            exact List.length_eq_zero_iff.mp (by have := congrArg List.length e; simpa using this)
          · rw [List.length_set]; exact c1
          · intro _; rw [List.length_set]; exact c3
      · intro h
        apply c2
        by_cases hl : most < ns.length
        · exact hl
        · exfalso; apply h
          rw [List.drop_of_length_le (by rw [List.length_take]; omega)]; rfl
      · intro x hx
        unfold enumS at hx
        obtain ⟨⟨d, i⟩, hq, rfl⟩ := List.mem_map.mp hx
        have h1 := List.mem_zipIdx hq
        rw [List.length_map, List.length_drop, List.length_take] at h1
        have h2 : d ∈ (List.drop most.toNat (List.take (Int.toNat 63) ns)).map PyData.int := by rw [h1.2.2]; exact List.getElem_mem _
        obtain ⟨c, _, rfl⟩ := List.mem_map.mp h2
        exact ⟨i, c, by have := h1.2.1; have e : Int.toNat 63 = 63 := rfl; omega, rfl⟩
    · walk_at "run"
      refine e2 rfl (by rw [cutA_to (by omega), ← List.map_take]; exact datI _) ?_
      walk_at "run"
      intro p hp
      refine e1 (by simp only [tru, upM_same]; rfl) ?_
      have hlen : ((ns.take most.toNat).map PyData.int).length = min most.toNat ns.length := by rw [List.length_map, List.length_take]
      apply if_go
      · intro h
        walk_at "run"
        refine hnx _ _ ⟨p, ns.take most.toNat, hp, fun a o h => by rw [upM_ne (neM h hp)]; exact h, by rw [upM_same, mapI], ?_, ?_, ?_, rfl⟩
        · intro e; rw [e] at h; cases h
        · rw [List.length_take]; omega
        · intro h; rw [List.length_take]; omega
      · intro h
        walk_at "run"
        intro q hq
        walk_at "run"
        have hq1 : M q = none := by
          cases e : M q with
          | none => rfl
          | some o =>
            rw [upM_ne (neM e hp), e] at hq; cases hq
        refine hnx _ _ ⟨q, [0], hq1, fun a o h => by rw [upM_ne (neM h hq1), upM_ne (neM h hp)]; exact h, by rw [upM_same]; rfl, by simp, by simp; omega, ?_, rfl⟩
        intro h2
        exfalso
        have : ns.take most.toNat = [] := by
          cases e : ns.take most.toNat with
          | nil => rfl
          | cons a r => rw [e] at h; cases h
        have := congrArg List.length this
        rw [List.length_take, List.length_nil] at this
        omega
end
end LW

set_option Elab.async false
set_option linter.all false
set_option maxRecDepth 100000
set_option maxHeartbeats 4000000
namespace LW
open PySem PySem.Spec L2 DL
local macro_rules | `(tactic| walk_at "mem") => `(tactic| ((repeat rw [upM_ne (by assumption)]); first | exact upM_same | assumption))
local macro_rules | `(tactic| walk_at "look") => `(tactic| first | rfl | assumption | exact atI_map0 | exact atI_map1 | walk_at "mem" | (with_reducible apply lsOf_m; walk_at "mem") | (with_reducible apply sqOf_m; walk_at "mem") | (with_reducible apply rlOf_m; walk_at "mem") | (with_reducible apply sqOf'_m; walk_at "mem") | (with_reducible apply tru_l; walk_at "mem") | (with_reducible apply tru_d; walk_at "mem") | ((simp (discharger := assumption) only [sqOf, sqOf', rlOf, lsOf, tru, upM_same, upM_ne]) <;> rfl))
local macro_rules | `(tactic| walk_at "set") => `(tactic| (simp only [wipeD, List.set_cons_zero, List.set_cons_succ, List.set_nil]; rfl))
local macro_rules | `(tactic| walk_at "side") => `(tactic| first | omega | (simp only [List.length_map, List.length_cons, List.length_nil]; omega) | assumption | rfl | decide | exact ⟨by omega, by omega⟩ | exact Nat.le_of_ble_eq_true rfl)
local macro_rules | `(tactic| walk_at "head") => `(tactic| with_reducible conv => whnf)
local macro_rules | `(tactic| walk_at "step") => `(tactic| (walk_at "head"; first
  | ((with_reducible apply gN_go); (focus walk_at "set"))
  | ((with_reducible apply e1s); (focus rfl))
  | ((with_reducible apply e1); (focus walk_at "look"))
  | ((with_reducible apply e2); (focus walk_at "look"); (focus walk_at "look"))
  | ((with_reducible apply l1); (focus walk_at "look"))
  | ((with_reducible apply l2); (focus walk_at "look"); (focus walk_at "look"))
  | ((with_reducible apply e3); (focus walk_at "look"); (focus walk_at "look"); (focus walk_at "look"))
  | ((with_reducible apply e0a); (focus walk_at "look"))
  | ((with_reducible apply And.intro); (focus walk_at "side"))
  | ((with_reducible apply d1); (focus walk_at "look"))
  | ((with_reducible apply d2); (focus walk_at "look"); (focus walk_at "look"))
  | ((with_reducible apply d3); (focus walk_at "look"); (focus walk_at "look"); (focus walk_at "look"))
  | ((with_reducible apply d0); (focus walk_at "look"))
  | ((with_reducible apply lk1); (focus walk_at "look"))
  | with_reducible apply gw2_go
  | with_reducible apply gw3_go
  | with_reducible apply gs_go
  | with_reducible apply gt2_go
  | with_reducible apply gt3_go
  | with_reducible apply gt1_go
  | with_reducible apply gt4_go
  | with_reducible apply gt5_go
  | with_reducible apply gt6_go
  | with_reducible apply gt7_go
  | with_reducible apply gt8_go
  | with_reducible apply ift_go
  | with_reducible apply iff_go
  | ((with_reducible apply ifT_go); (focus rfl))
  | ((with_reducible apply ifF_go); (focus rfl))))
local macro_rules | `(tactic| walk_at "run") => `(tactic| (repeat walk_at "step"); walk_at "head")
local macro_rules | `(tactic| walk_at "start") => `(tactic| simp only [startD, List.map_cons, List.map_nil, List.length_cons, List.length_nil, List.replicate, List.cons_append, List.nil_append, Nat.reduceAdd, Nat.reduceSub, bodyK])
/-- the words of this law's data -/
abbrev WD : List Str := ["record", "undo", "page", "old"]
theorem wds : Wds WD := by unfold Wds; decide +kernel
mutual
def tpD : PyData → PyData
  | .list xs => .tuple (tpDs xs)
  | .tuple xs => .tuple (tpDs xs)
  | d => d
def tpDs : List PyData → List PyData
  | [] => []
  | x :: r => tpD x :: tpDs r
end
mutual
def lsD : PyData → PyData
  | .list xs => .list (lsDs xs)
  | .tuple xs => .list (lsDs xs)
  | d => d
def lsDs : List PyData → List PyData
  | [] => []
  | x :: r => lsD x :: lsDs r
end
theorem tpDs_map : ∀ xs : List PyData, tpDs xs = xs.map tpD
  | [] => rfl
  | x :: r => by rw [tpDs, tpDs_map r]; rfl
theorem lsDs_map : ∀ xs : List PyData, lsDs xs = xs.map lsD
  | [] => rfl
  | x :: r => by rw [lsDs, lsDs_map r]; rfl
theorem szs_len (W : List Str) : ∀ xs : List PyData, xs.length ≤ szs W xs
  | [] => Nat.zero_le _
  | x :: r => by have := szs_len W r; simp only [szs, List.length_cons]; omega
theorem szs_mem {W : List Str} {x : PyData} : ∀ {xs : List PyData}, x ∈ xs → sz W x ≤ szs W xs
  | y :: r, h => by
    simp only [szs]
    rcases List.mem_cons.mp h with rfl | h
    · omega
    · have := szs_mem (W := W) h; omega
theorem depthAll_mem {x : PyData} : ∀ {xs : List PyData}, x ∈ xs → x.depth ≤ PyData.depthAll xs
  | y :: r, h => by
    simp only [PyData.depthAll]
    rcases List.mem_cons.mp h with rfl | h
    · omega
    · have := depthAll_mem h; omega
def cn_deep (g : PyData → PyData) (n : Nat) : Cn := fun rs M R => ∃ d, rs = [.d d] ∧ d.depth ≤ n ∧ sz WD d ≤ 16777216 ∧ R (.d (g d)) M
section
variable {P : Program} {w : World} {K : PySem.W.Frag} {mg : Str → Option Value} {base : Heap}
theorem fn_none {f : Addr} {fd : FuncData} {ps : List Str} : FnD P w K mg base 0 f fd ps fun _ _ _ => False := ⟨fun _ _ _ h => h.elim, fun A outer s H args us vs Q _ _ _ _ _ ⟨_, _, _, _, _, _, h, _⟩ => h.elim⟩
theorem ok_tupled1 (T : Tx K mg) {n : Nat} {cn : Cn} (hc : ∀ d M R, n ≠ 0 → d.depth ≤ n - 1 → sz WD d ≤ 16777216 → R (.d (tpD d)) M → cn [.d d] M R) (H_tupled : Has P w K mg base n "tupled" s_tupled ["thing"] cn) {f : Addr} {fd : FuncData} (Fu : Fun K "tupled" "tupled" s_tupled f fd) : FnD P w K mg base (n + 1) f fd ["thing"] (cn_deep tpD n) := by
  refine fnD_of Fu sc_tupled (fun rs M R h => ?_) fun cdv A outer s H hgd hr => ⟨_, (pdb_one (pds_ret (pd_if (pdt_tru (pd_isi2 (S := "list") (T := "tuple") (by decide) (by decide) (pd_var 0) (by rfl) T.z_isinstance (by rfl) T.z_list (by decide +kernel) (by rfl) T.z_tuple (by decide +kernel))) (pd_callT c_tuple (by rfl) T.z_tuple (by decide +kernel) (pda_cons (pd_lc (own := [("part", 1)]) rfl sc_tupled.nd (pdi_seq (pd_var 0)) (blkOk_by (N := N_tupled) (sc := defScope s_tupled) (by decide +kernel)) (fun _ _ _ _ _ => (pdgw_name 1 sc_tupled.nd)) (fun _ _ _ _ _ => pdts_nil) (fun _ _ _ _ _ => (pd_fn H_tupled hgd (hr.mono (by first | decide | omega)) (by rfl) (pda_cons (pd_var 1) pda_nil)))) pda_nil)) (pd_var 0)))), ?_⟩
  · obtain ⟨b, rfl, _⟩ := h
    rfl
  · rintro rs M R ⟨d, rfl, hd, hz, k⟩
    walk_at "start"
    walk_at "run"
    cases d with
    | list ds =>
      walk_at "run"
      simp only [sz] at hz
      simp only [PyData.depth] at hd
      have hl := szs_len WD ds
      refine lc_mapD tpD trivial (by rw [sizeLine_eq]; omega) (fun e he k1 k0 h => ?_) ?_
      · walk_at "run"
        exact hc e M k1 (by omega) (by have := depthAll_mem he; omega) (by have := szs_mem (W := WD) he; omega) h
      · refine e1 (datOf_map _) ?_
        walk_at "head"
        refine e2 rfl (datOf_map _) ?_
        rw [tpD, tpDs_map] at k
        exact upR.of k
    | tuple ds =>
      walk_at "run"
      simp only [sz] at hz
      simp only [PyData.depth] at hd
      have hl := szs_len WD ds
      refine lc_mapD tpD trivial (by rw [sizeLine_eq]; omega) (fun e he k1 k0 h => ?_) ?_
      · walk_at "run"
        exact hc e M k1 (by omega) (by have := depthAll_mem he; omega) (by have := szs_mem (W := WD) he; omega) h
      · refine e1 (datOf_map _) ?_
        walk_at "head"
        refine e2 rfl (datOf_map _) ?_
        rw [tpD, tpDs_map] at k
        exact upR.of k
    | dict _ => simp only [sz] at hz; omega
    | _ => walk_at "run"; exact upR.of k
theorem ok_lists1 (T : Tx K mg) {n : Nat} {cn : Cn} (hc : ∀ d M R, n ≠ 0 → d.depth ≤ n - 1 → sz WD d ≤ 16777216 → R (.d (lsD d)) M → cn [.d d] M R) (H__law_lists : Has P w K mg base n "_law_lists" s__law_lists ["_law_matter"] cn) {f : Addr} {fd : FuncData} (Fu : Fun K "_law_lists" "_law_lists" s__law_lists f fd) : FnD P w K mg base (n + 1) f fd ["_law_matter"] (cn_deep lsD n) := by
  refine fnD_of Fu sc__law_lists (fun rs M R h => ?_) fun cdv A outer s H hgd hr => ⟨_, (pdb_one (pds_ret (pd_if (pdt_tru (pd_isi2 (S := "list") (T := "tuple") (by decide) (by decide) (pd_var 0) (by rfl) T.z_isinstance (by rfl) T.z_list (by decide +kernel) (by rfl) T.z_tuple (by decide +kernel))) (pd_lc (own := [("_law_bit", 1)]) rfl sc__law_lists.nd (pdi_seq (pd_var 0)) (blkOk_by (N := N__law_lists) (sc := defScope s__law_lists) (by decide +kernel)) (fun _ _ _ _ _ => (pdgw_name 1 sc__law_lists.nd)) (fun _ _ _ _ _ => pdts_nil) (fun _ _ _ _ _ => (pd_fn H__law_lists hgd (hr.mono (by first | decide | omega)) (by rfl) (pda_cons (pd_var 1) pda_nil)))) (pd_var 0)))), ?_⟩
  · obtain ⟨b, rfl, _⟩ := h
    rfl
  · rintro rs M R ⟨d, rfl, hd, hz, k⟩
    walk_at "start"
    walk_at "run"
    cases d with
    | list ds =>
      walk_at "run"
      simp only [sz] at hz
      simp only [PyData.depth] at hd
      have hl := szs_len WD ds
      refine lc_mapD lsD trivial (by rw [sizeLine_eq]; omega) (fun e he k1 k0 h => ?_) ?_
      · walk_at "run"
        exact hc e M k1 (by omega) (by have := depthAll_mem he; omega) (by have := szs_mem (W := WD) he; omega) h
      · refine e1 (datOf_map _) ?_
        rw [lsD, lsDs_map] at k
        exact upR.of k
    | tuple ds =>
      walk_at "run"
      simp only [sz] at hz
      simp only [PyData.depth] at hd
      have hl := szs_len WD ds
      refine lc_mapD lsD trivial (by rw [sizeLine_eq]; omega) (fun e he k1 k0 h => ?_) ?_
      · walk_at "run"
        exact hc e M k1 (by omega) (by have := depthAll_mem he; omega) (by have := szs_mem (W := WD) he; omega) h
      · refine e1 (datOf_map _) ?_
        rw [lsD, lsDs_map] at k
        exact upR.of k
    | dict _ => simp only [sz] at hz; omega
    | _ => walk_at "run"; exact upR.of k
theorem ok_tupled (T : Tx K mg) {f : Addr} {fd : FuncData} (hm : mg "tupled" = some (.ref f)) (Fu : Fun K "tupled" "tupled" s_tupled f fd) : ∀ n, FnD P w K mg base (n + 1) f fd ["thing"] (cn_deep tpD n)
  | 0 => ok_tupled1 T (cn := fun _ _ _ => False) (fun _ _ _ h => absurd rfl h) (Has.of hm Fu hb_tupled fn_none) Fu
  | n + 1 => ok_tupled1 T (fun d _ _ _ h1 h2 h3 => ⟨d, rfl, h1, h2, h3⟩) (Has.of hm Fu hb_tupled (ok_tupled T hm Fu n)) Fu
theorem ok_lists (T : Tx K mg) {f : Addr} {fd : FuncData} (hm : mg "_law_lists" = some (.ref f)) (Fu : Fun K "_law_lists" "_law_lists" s__law_lists f fd) : ∀ n, FnD P w K mg base (n + 1) f fd ["_law_matter"] (cn_deep lsD n)
  | 0 => ok_lists1 T (cn := fun _ _ _ => False) (fun _ _ _ h => absurd rfl h) (Has.of hm Fu hb__law_lists fn_none) Fu
  | n + 1 => ok_lists1 T (fun d _ _ _ h1 h2 h3 => ⟨d, rfl, h1, h2, h3⟩) (Has.of hm Fu hb__law_lists (ok_lists T hm Fu n)) Fu
end
end LW

set_option Elab.async false
set_option linter.all false
set_option maxRecDepth 100000
set_option maxHeartbeats 4000000
namespace LW
open PySem PySem.Spec L2 DL
local macro_rules | `(tactic| walk_at "mem") => `(tactic| ((repeat rw [upM_ne (by assumption)]); first | exact upM_same | assumption))
local macro_rules | `(tactic| walk_at "look") => `(tactic| first | rfl | assumption | exact atI_map0 | exact atI_map1 | walk_at "mem" | (with_reducible apply lsOf_m; walk_at "mem") | (with_reducible apply sqOf_m; walk_at "mem") | (with_reducible apply rlOf_m; walk_at "mem") | (with_reducible apply sqOf'_m; walk_at "mem") | (with_reducible apply tru_l; walk_at "mem") | (with_reducible apply tru_d; walk_at "mem") | ((simp (discharger := assumption) only [sqOf, sqOf', rlOf, lsOf, tru, upM_same, upM_ne]) <;> rfl))
local macro_rules | `(tactic| walk_at "set") => `(tactic| (simp only [wipeD, List.set_cons_zero, List.set_cons_succ, List.set_nil]; rfl))
local macro_rules | `(tactic| walk_at "side") => `(tactic| first | omega | (simp only [List.length_map, List.length_cons, List.length_nil]; omega) | assumption | rfl | decide | exact ⟨by omega, by omega⟩ | exact Nat.le_of_ble_eq_true rfl)
local macro_rules | `(tactic| walk_at "head") => `(tactic| with_reducible conv => whnf)
local macro_rules | `(tactic| walk_at "step") => `(tactic| (walk_at "head"; first
  | ((with_reducible apply gN_go); (focus walk_at "set"))
  | ((with_reducible apply e1s); (focus rfl))
  | ((with_reducible apply e1); (focus walk_at "look"))
  | ((with_reducible apply e2); (focus walk_at "look"); (focus walk_at "look"))
  | ((with_reducible apply l1); (focus walk_at "look"))
  | ((with_reducible apply l2); (focus walk_at "look"); (focus walk_at "look"))
  | ((with_reducible apply e3); (focus walk_at "look"); (focus walk_at "look"); (focus walk_at "look"))
  | ((with_reducible apply e0a); (focus walk_at "look"))
  | ((with_reducible apply And.intro); (focus walk_at "side"))
  | ((with_reducible apply d1); (focus walk_at "look"))
  | ((with_reducible apply d2); (focus walk_at "look"); (focus walk_at "look"))
  | ((with_reducible apply d3); (focus walk_at "look"); (focus walk_at "look"); (focus walk_at "look"))
  | ((with_reducible apply d0); (focus walk_at "look"))
  | ((with_reducible apply lk1); (focus walk_at "look"))
  | with_reducible apply gw2_go
  | with_reducible apply gw3_go
  | with_reducible apply gs_go
  | with_reducible apply gt2_go
  | with_reducible apply gt3_go
  | with_reducible apply gt1_go
  | with_reducible apply gt4_go
  | with_reducible apply gt5_go
  | with_reducible apply gt6_go
  | with_reducible apply gt7_go
  | with_reducible apply gt8_go
  | with_reducible apply ift_go
  | with_reducible apply iff_go
  | ((with_reducible apply ifT_go); (focus rfl))
  | ((with_reducible apply ifF_go); (focus rfl))))
local macro_rules | `(tactic| walk_at "run") => `(tactic| (repeat walk_at "step"); walk_at "head")
local macro_rules | `(tactic| walk_at "start") => `(tactic| simp only [startD, List.map_cons, List.map_nil, List.length_cons, List.length_nil, List.replicate, List.cons_append, List.nil_append, Nat.reduceAdd, Nat.reduceSub, bodyK])
/-- of which classes an error is -/
def sortsD (K : PySem.W.Frag) (c : Str → Addr) (C : Addr) : List PyData := [.bool ((mroT K C).contains (.type "ValueError")), .bool ((mroT K C).contains (.type "LookupError")), .bool ((mroT K C).contains (.type "RuntimeError")), .bool ((mroT K C).contains (.type "OverflowError")), .bool (decide (C = c "NoMark")), .bool (decide (C = c "BadText")), .bool (decide (C = c "BadLine")), .bool (decide (C = c "Impossible")), .bool (decide (C = c "NoTransaction")), .bool (decide (C = c "NoRow")), .bool (decide (C = c "Held")), .bool (decide (C = c "NotBare")), .bool (decide (C = c "Busy")), .bool (decide (C = c "Idle")), .bool (decide (C = c "Down")), .bool (decide (C = c "Up")), .bool (decide (C = c "NoCheck")), .bool (decide (C = c "TooFar"))]
def cn_sorts (K : PySem.W.Frag) (c : Str → Addr) : Cn := fun rs M R => ∃ C fs, rs = [.e C fs] ∧ ExC K C ∧ (∀ D, ExC K D → PySem.W.kitOne K (.ref C) (.ref D) = some (decide (C = D))) ∧ R (.d (.list (sortsD K c C))) M
section
variable {P : Program} {w : World} {K : PySem.W.Frag} {mg : Str → Option Value} {base : Heap}
theorem ok_sorts (T : Tx K mg) {c : Str → Addr} (XS : Xs K mg c) {f : Addr} {fd : FuncData} (Fu : Fun K "_law_sorts" "_law_sorts" s__law_sorts f fd) : FnD P w K mg base 1 f fd ["_law_error"] (cn_sorts K c) := by
  refine fnD_of Fu sc__law_sorts (fun rs M R h => ?_) fun cdv A outer s H hgd hr => ⟨_, (pdb_cons (pds_set 1 sc__law_sorts.nd (pd_lst (pda_cons (pd_callB c_isx (by rfl) T.z_isinstance (by decide +kernel) (pda_cons (pd_var 0) (pda_cons (pd_ty (T := "ValueError") (by rfl) T.z_ValueError (by decide +kernel)) pda_nil))) (pda_cons (pd_callB c_isx (by rfl) T.z_isinstance (by decide +kernel) (pda_cons (pd_var 0) (pda_cons (pd_ty (T := "LookupError") (by rfl) T.z_LookupError (by decide +kernel)) pda_nil))) (pda_cons (pd_callB c_isx (by rfl) T.z_isinstance (by decide +kernel) (pda_cons (pd_var 0) (pda_cons (pd_ty (T := "RuntimeError") (by rfl) T.z_RuntimeError (by decide +kernel)) pda_nil))) pda_nil)))))
      (pdb_cons (pds_set 1 sc__law_sorts.nd (pd_op o_plus (pd_var 1) (pd_lst (pda_cons (pd_callB c_isx (by rfl) T.z_isinstance (by decide +kernel) (pda_cons (pd_var 0) (pda_cons (pd_ty (T := "OverflowError") (by rfl) T.z_OverflowError (by decide +kernel)) pda_nil))) (pda_cons (pd_callB c_isx (by rfl) T.z_isinstance (by decide +kernel) (pda_cons (pd_var 0) (pda_cons (pd_cls (by rfl) XS.g_NoMark) pda_nil))) (pda_cons (pd_callB c_isx (by rfl) T.z_isinstance (by decide +kernel) (pda_cons (pd_var 0) (pda_cons (pd_cls (by rfl) XS.g_BadText) pda_nil))) pda_nil))))))
      (pdb_cons (pds_set 1 sc__law_sorts.nd (pd_op o_plus (pd_var 1) (pd_lst (pda_cons (pd_callB c_isx (by rfl) T.z_isinstance (by decide +kernel) (pda_cons (pd_var 0) (pda_cons (pd_cls (by rfl) XS.g_BadLine) pda_nil))) (pda_cons (pd_callB c_isx (by rfl) T.z_isinstance (by decide +kernel) (pda_cons (pd_var 0) (pda_cons (pd_cls (by rfl) XS.g_Impossible) pda_nil))) (pda_cons (pd_callB c_isx (by rfl) T.z_isinstance (by decide +kernel) (pda_cons (pd_var 0) (pda_cons (pd_cls (by rfl) XS.g_NoTransaction) pda_nil))) pda_nil))))))
      (pdb_cons (pds_set 1 sc__law_sorts.nd (pd_op o_plus (pd_var 1) (pd_lst (pda_cons (pd_callB c_isx (by rfl) T.z_isinstance (by decide +kernel) (pda_cons (pd_var 0) (pda_cons (pd_cls (by rfl) XS.g_NoRow) pda_nil))) (pda_cons (pd_callB c_isx (by rfl) T.z_isinstance (by decide +kernel) (pda_cons (pd_var 0) (pda_cons (pd_cls (by rfl) XS.g_Held) pda_nil))) (pda_cons (pd_callB c_isx (by rfl) T.z_isinstance (by decide +kernel) (pda_cons (pd_var 0) (pda_cons (pd_cls (by rfl) XS.g_NotBare) pda_nil))) pda_nil))))))
      (pdb_cons (pds_set 1 sc__law_sorts.nd (pd_op o_plus (pd_var 1) (pd_lst (pda_cons (pd_callB c_isx (by rfl) T.z_isinstance (by decide +kernel) (pda_cons (pd_var 0) (pda_cons (pd_cls (by rfl) XS.g_Busy) pda_nil))) (pda_cons (pd_callB c_isx (by rfl) T.z_isinstance (by decide +kernel) (pda_cons (pd_var 0) (pda_cons (pd_cls (by rfl) XS.g_Idle) pda_nil))) (pda_cons (pd_callB c_isx (by rfl) T.z_isinstance (by decide +kernel) (pda_cons (pd_var 0) (pda_cons (pd_cls (by rfl) XS.g_Down) pda_nil))) (pda_cons (pd_callB c_isx (by rfl) T.z_isinstance (by decide +kernel) (pda_cons (pd_var 0) (pda_cons (pd_cls (by rfl) XS.g_Up) pda_nil))) pda_nil)))))))
      (pdb_one (pds_ret (pd_op o_plus (pd_var 1) (pd_lst (pda_cons (pd_callB c_isx (by rfl) T.z_isinstance (by decide +kernel) (pda_cons (pd_var 0) (pda_cons (pd_cls (by rfl) XS.g_NoCheck) pda_nil))) (pda_cons (pd_callB c_isx (by rfl) T.z_isinstance (by decide +kernel) (pda_cons (pd_var 0) (pda_cons (pd_cls (by rfl) XS.g_TooFar) pda_nil))) pda_nil))))))))))), ?_⟩
  · obtain ⟨C, fs, rfl, _⟩ := h
    rfl
  · rintro rs M R ⟨C, fs, rfl, hC, hk, k⟩
    have m1 : PySem.W.kitMeta "ValueError" = true := by decide +kernel
    have m2 : PySem.W.kitMeta "LookupError" = true := by decide +kernel
    have m3 : PySem.W.kitMeta "RuntimeError" = true := by decide +kernel
    have m4 : PySem.W.kitMeta "OverflowError" = true := by decide +kernel
    have q1 := hk _ ⟨_, _, _, _, XS.x_NoMark⟩
    have q2 := hk _ ⟨_, _, _, _, XS.x_BadText⟩
    have q3 := hk _ ⟨_, _, _, _, XS.x_BadLine⟩
    have q4 := hk _ ⟨_, _, _, _, XS.x_Impossible⟩
    have q5 := hk _ ⟨_, _, _, _, XS.x_NoTransaction⟩
    have q6 := hk _ ⟨_, _, _, _, XS.x_NoRow⟩
    have q7 := hk _ ⟨_, _, _, _, XS.x_Held⟩
    have q8 := hk _ ⟨_, _, _, _, XS.x_NotBare⟩
    have q9 := hk _ ⟨_, _, _, _, XS.x_Busy⟩
    have q10 := hk _ ⟨_, _, _, _, XS.x_Idle⟩
    have q11 := hk _ ⟨_, _, _, _, XS.x_Down⟩
    have q12 := hk _ ⟨_, _, _, _, XS.x_Up⟩
    have q13 := hk _ ⟨_, _, _, _, XS.x_NoCheck⟩
    have q14 := hk _ ⟨_, _, _, _, XS.x_TooFar⟩
    walk_at "start"
    walk_at "run"
    exact upR.of k
end
end LW

set_option Elab.async false
set_option linter.all false
set_option maxRecDepth 100000
set_option maxHeartbeats 4000000
namespace LW
open PySem PySem.Spec L2 DL
local macro_rules | `(tactic| walk_at "mem") => `(tactic| ((repeat rw [upM_ne (by assumption)]); first | exact upM_same | assumption))
local macro_rules | `(tactic| walk_at "look") => `(tactic| first | rfl | assumption | exact atI_map0 | exact atI_map1 | walk_at "mem" | (with_reducible apply lsOf_m; walk_at "mem") | (with_reducible apply sqOf_m; walk_at "mem") | (with_reducible apply rlOf_m; walk_at "mem") | (with_reducible apply sqOf'_m; walk_at "mem") | (with_reducible apply tru_l; walk_at "mem") | (with_reducible apply tru_d; walk_at "mem") | ((simp (discharger := assumption) only [sqOf, sqOf', rlOf, lsOf, tru, upM_same, upM_ne]) <;> rfl))
local macro_rules | `(tactic| walk_at "set") => `(tactic| (simp only [wipeD, List.set_cons_zero, List.set_cons_succ, List.set_nil]; rfl))
local macro_rules | `(tactic| walk_at "side") => `(tactic| first | omega | (simp only [List.length_map, List.length_cons, List.length_nil]; omega) | assumption | rfl | decide | exact ⟨by omega, by omega⟩ | exact Nat.le_of_ble_eq_true rfl)
local macro_rules | `(tactic| walk_at "head") => `(tactic| with_reducible conv => whnf)
local macro_rules | `(tactic| walk_at "step") => `(tactic| (walk_at "head"; first
  | ((with_reducible apply gN_go); (focus walk_at "set"))
  | ((with_reducible apply e1s); (focus rfl))
  | ((with_reducible apply e1); (focus walk_at "look"))
  | ((with_reducible apply e2); (focus walk_at "look"); (focus walk_at "look"))
  | ((with_reducible apply l1); (focus walk_at "look"))
  | ((with_reducible apply l2); (focus walk_at "look"); (focus walk_at "look"))
  | ((with_reducible apply e3); (focus walk_at "look"); (focus walk_at "look"); (focus walk_at "look"))
  | ((with_reducible apply e0a); (focus walk_at "look"))
  | ((with_reducible apply And.intro); (focus walk_at "side"))
  | ((with_reducible apply d1); (focus walk_at "look"))
  | ((with_reducible apply d2); (focus walk_at "look"); (focus walk_at "look"))
  | ((with_reducible apply d3); (focus walk_at "look"); (focus walk_at "look"); (focus walk_at "look"))
  | ((with_reducible apply d0); (focus walk_at "look"))
  | ((with_reducible apply lk1); (focus walk_at "look"))
  | with_reducible apply gw2_go
  | with_reducible apply gw3_go
  | with_reducible apply gs_go
  | with_reducible apply gt2_go
  | with_reducible apply gt3_go
  | with_reducible apply gt1_go
  | with_reducible apply gt4_go
  | with_reducible apply gt5_go
  | with_reducible apply gt6_go
  | with_reducible apply gt7_go
  | with_reducible apply gt8_go
  | with_reducible apply ift_go
  | with_reducible apply iff_go
  | ((with_reducible apply ifT_go); (focus rfl))
  | ((with_reducible apply ifF_go); (focus rfl))))
local macro_rules | `(tactic| walk_at "run") => `(tactic| (repeat walk_at "step"); walk_at "head")
local macro_rules | `(tactic| walk_at "start") => `(tactic| simp only [startD, List.map_cons, List.map_nil, List.length_cons, List.length_nil, List.replicate, List.cons_append, List.nil_append, Nat.reduceAdd, Nat.reduceSub, bodyK])
def gTup : PyData → PyData → Prop := fun d d' => d.depth ≤ 8 ∧ sz WD d ≤ 16777216 ∧ d' = tpD d
def cn_right : Cn := fun rs M R => ∃ b B m, rs = [.v (.ref b)] ∧ M b = some B.mo ∧ Bx.Ok B (m + 3) ∧ ∀ B', Bx.Ok B' m → R (.b true) (upM M b B'.mo)
theorem sz_i {i : Int} (h0 : 0 ≤ i) (h1 : i < 10000000) : sz WD (.int i) = 40 := by rw [sz, if_pos (by omega)]
theorem sz_w {s : Str} (h : s ∈ WD) : sz WD (.str s) = 40 := by rw [sz, if_pos h]
theorem sz_t (xs : List PyData) : sz WD (.tuple xs) = 4 + szs WD xs := by rw [sz]
theorem sz_l (xs : List PyData) : sz WD (.list xs) = 4 + szs WD xs := by rw [sz]
theorem sz_n : sz WD .none = 8 := by rw [sz]
theorem sz_b (b : Bool) : sz WD (.bool b) = 8 := by rw [sz]
theorem szs_0 : szs WD [] = 0 := by rw [szs]
theorem szs_c (x : PyData) (xs : List PyData) : szs WD (x :: xs) = 2 + sz WD x + szs WD xs := by rw [szs]
theorem w_record : sz WD (.str "record") = 40 := sz_w (by decide)
theorem w_undo : sz WD (.str "undo") = 40 := sz_w (by decide)
theorem w_page : sz WD (.str "page") = 40 := sz_w (by decide)
theorem w_old : sz WD (.str "old") = 40 := sz_w (by decide)
def taleA (n : Int) : PyData := .tuple [.str "record", .int n, .none]
def taleB (n : Int) : PyData := .tuple [.str "record", .int n, .tuple [.str "undo", .int 1, .int 3, .int 0, .int 20, .none, .int 2]]
def taleC (y : Int) : PyData := .tuple [.str "page", .int y, .str "old"]
theorem tale_facts {n y : Int} {t : PyData} (n0 : 0 ≤ n) (n1 : n < 300) (y0 : 0 ≤ y) (y1 : y < 1000000) (h : t ∈ [taleA n, taleB n, taleC y]) :
    t.depth ≤ 8 ∧ sz WD t ≤ 1000 ∧ tpD t = t ∧ tpD (lsD t) = t ∧ (lsD t).depth ≤ 8 ∧ sz WD (lsD t) ≤ 1000 := by
  have zn := sz_i (i := n) (by omega) (by omega)
  have zy := sz_i (i := y) (by omega) (by omega)
  simp only [List.mem_cons, List.not_mem_nil, or_false] at h
  rcases h with rfl | rfl | rfl
  all_goals refine ⟨Nat.le_of_ble_eq_true rfl, ?_, rfl, rfl, Nat.le_of_ble_eq_true rfl, ?_⟩
  all_goals simp [taleA, taleB, taleC, lsD, lsDs, sz_t, sz_l, sz_n, szs_0, szs_c, zn, zy, sz_i, w_record, w_undo, w_page, w_old]
def dueD (i : Nat) : List PyData := (List.range 4).map (fun k => .bool (decide ((k : Int) = (([0, 0, 0, 0, 1, 1, 2, 2, 2, 2, 2, 2, 2, 3] : List Int).getD i 0)))) ++ (List.range 14).map fun k => .bool (decide ((k : Int) = (i : Int)))
theorem cn_inj {c : Str → Addr} {ns : List Str} (nd : (ns.map c).Nodup) (i j : Nat) {a b : Str} (hi : ns[i]? = some a) (hj : ns[j]? = some b) : decide (c a = c b) = decide (i = j) := by
  have h1 : (ns.map c)[i]? = some (c a) := by rw [List.getElem?_map, hi]; rfl
  have h2 : (ns.map c)[j]? = some (c b) := by rw [List.getElem?_map, hj]; rfl
  obtain ⟨l1, e1⟩ := List.getElem?_eq_some_iff.mp h1
  obtain ⟨l2, e2⟩ := List.getElem?_eq_some_iff.mp h2
  have key := List.pairwise_iff_getElem.mp nd
  refine decide_eq_decide.mpr ⟨fun h => ?_, fun h => ?_⟩
  · rcases Nat.lt_trichotomy i j with q | q | q
    · exact absurd (e1.trans (h.trans e2.symm)) (key i j l1 l2 q)
    · exact q
    · exact absurd (e2.trans (h.symm.trans e1.symm)) (key j i l2 l1 q)
  · subst h
    exact e1.symm.trans e2
theorem sorts_0 {K : PySem.W.Frag} {mg : Str → Option Value} {c : Str → Addr} (XS : Xs K mg c) : sortsD K c (c "NoMark") = dueD 0 := by
  unfold sortsD
  rw [XS.x_NoMark.mro]
  rw [show (Value.ref (c "NoMark") :: bm_ValueError).contains (.type "ValueError") = true from rfl]
  rw [show (Value.ref (c "NoMark") :: bm_ValueError).contains (.type "LookupError") = false from rfl]
  rw [show (Value.ref (c "NoMark") :: bm_ValueError).contains (.type "RuntimeError") = false from rfl]
  rw [show (Value.ref (c "NoMark") :: bm_ValueError).contains (.type "OverflowError") = false from rfl]
  rw [cn_inj XS.nd 0 0 (a := "NoMark") (b := "NoMark") rfl rfl, cn_inj XS.nd 0 1 (a := "NoMark") (b := "BadText") rfl rfl, cn_inj XS.nd 0 2 (a := "NoMark") (b := "BadLine") rfl rfl, cn_inj XS.nd 0 3 (a := "NoMark") (b := "Impossible") rfl rfl, cn_inj XS.nd 0 4 (a := "NoMark") (b := "NoTransaction") rfl rfl, cn_inj XS.nd 0 5 (a := "NoMark") (b := "NoRow") rfl rfl, cn_inj XS.nd 0 6 (a := "NoMark") (b := "Held") rfl rfl, cn_inj XS.nd 0 7 (a := "NoMark") (b := "NotBare") rfl rfl, cn_inj XS.nd 0 8 (a := "NoMark") (b := "Busy") rfl rfl, cn_inj XS.nd 0 9 (a := "NoMark") (b := "Idle") rfl rfl, cn_inj XS.nd 0 10 (a := "NoMark") (b := "Down") rfl rfl, cn_inj XS.nd 0 11 (a := "NoMark") (b := "Up") rfl rfl, cn_inj XS.nd 0 12 (a := "NoMark") (b := "NoCheck") rfl rfl, cn_inj XS.nd 0 13 (a := "NoMark") (b := "TooFar") rfl rfl]
  rfl
theorem sorts_1 {K : PySem.W.Frag} {mg : Str → Option Value} {c : Str → Addr} (XS : Xs K mg c) : sortsD K c (c "BadText") = dueD 1 := by
  unfold sortsD
  rw [XS.x_BadText.mro]
  rw [show (Value.ref (c "BadText") :: bm_ValueError).contains (.type "ValueError") = true from rfl]
  rw [show (Value.ref (c "BadText") :: bm_ValueError).contains (.type "LookupError") = false from rfl]
  rw [show (Value.ref (c "BadText") :: bm_ValueError).contains (.type "RuntimeError") = false from rfl]
  rw [show (Value.ref (c "BadText") :: bm_ValueError).contains (.type "OverflowError") = false from rfl]
  rw [cn_inj XS.nd 1 0 (a := "BadText") (b := "NoMark") rfl rfl, cn_inj XS.nd 1 1 (a := "BadText") (b := "BadText") rfl rfl, cn_inj XS.nd 1 2 (a := "BadText") (b := "BadLine") rfl rfl, cn_inj XS.nd 1 3 (a := "BadText") (b := "Impossible") rfl rfl, cn_inj XS.nd 1 4 (a := "BadText") (b := "NoTransaction") rfl rfl, cn_inj XS.nd 1 5 (a := "BadText") (b := "NoRow") rfl rfl, cn_inj XS.nd 1 6 (a := "BadText") (b := "Held") rfl rfl, cn_inj XS.nd 1 7 (a := "BadText") (b := "NotBare") rfl rfl, cn_inj XS.nd 1 8 (a := "BadText") (b := "Busy") rfl rfl, cn_inj XS.nd 1 9 (a := "BadText") (b := "Idle") rfl rfl, cn_inj XS.nd 1 10 (a := "BadText") (b := "Down") rfl rfl, cn_inj XS.nd 1 11 (a := "BadText") (b := "Up") rfl rfl, cn_inj XS.nd 1 12 (a := "BadText") (b := "NoCheck") rfl rfl, cn_inj XS.nd 1 13 (a := "BadText") (b := "TooFar") rfl rfl]
  rfl
theorem sorts_2 {K : PySem.W.Frag} {mg : Str → Option Value} {c : Str → Addr} (XS : Xs K mg c) : sortsD K c (c "BadLine") = dueD 2 := by
  unfold sortsD
  rw [XS.x_BadLine.mro]
  rw [show (Value.ref (c "BadLine") :: bm_ValueError).contains (.type "ValueError") = true from rfl]
  rw [show (Value.ref (c "BadLine") :: bm_ValueError).contains (.type "LookupError") = false from rfl]
  rw [show (Value.ref (c "BadLine") :: bm_ValueError).contains (.type "RuntimeError") = false from rfl]
  rw [show (Value.ref (c "BadLine") :: bm_ValueError).contains (.type "OverflowError") = false from rfl]
  rw [cn_inj XS.nd 2 0 (a := "BadLine") (b := "NoMark") rfl rfl, cn_inj XS.nd 2 1 (a := "BadLine") (b := "BadText") rfl rfl, cn_inj XS.nd 2 2 (a := "BadLine") (b := "BadLine") rfl rfl, cn_inj XS.nd 2 3 (a := "BadLine") (b := "Impossible") rfl rfl, cn_inj XS.nd 2 4 (a := "BadLine") (b := "NoTransaction") rfl rfl, cn_inj XS.nd 2 5 (a := "BadLine") (b := "NoRow") rfl rfl, cn_inj XS.nd 2 6 (a := "BadLine") (b := "Held") rfl rfl, cn_inj XS.nd 2 7 (a := "BadLine") (b := "NotBare") rfl rfl, cn_inj XS.nd 2 8 (a := "BadLine") (b := "Busy") rfl rfl, cn_inj XS.nd 2 9 (a := "BadLine") (b := "Idle") rfl rfl, cn_inj XS.nd 2 10 (a := "BadLine") (b := "Down") rfl rfl, cn_inj XS.nd 2 11 (a := "BadLine") (b := "Up") rfl rfl, cn_inj XS.nd 2 12 (a := "BadLine") (b := "NoCheck") rfl rfl, cn_inj XS.nd 2 13 (a := "BadLine") (b := "TooFar") rfl rfl]
  rfl
theorem sorts_3 {K : PySem.W.Frag} {mg : Str → Option Value} {c : Str → Addr} (XS : Xs K mg c) : sortsD K c (c "Impossible") = dueD 3 := by
  unfold sortsD
  rw [XS.x_Impossible.mro]
  rw [show (Value.ref (c "Impossible") :: bm_ValueError).contains (.type "ValueError") = true from rfl]
  rw [show (Value.ref (c "Impossible") :: bm_ValueError).contains (.type "LookupError") = false from rfl]
  rw [show (Value.ref (c "Impossible") :: bm_ValueError).contains (.type "RuntimeError") = false from rfl]
  rw [show (Value.ref (c "Impossible") :: bm_ValueError).contains (.type "OverflowError") = false from rfl]
  rw [cn_inj XS.nd 3 0 (a := "Impossible") (b := "NoMark") rfl rfl, cn_inj XS.nd 3 1 (a := "Impossible") (b := "BadText") rfl rfl, cn_inj XS.nd 3 2 (a := "Impossible") (b := "BadLine") rfl rfl, cn_inj XS.nd 3 3 (a := "Impossible") (b := "Impossible") rfl rfl, cn_inj XS.nd 3 4 (a := "Impossible") (b := "NoTransaction") rfl rfl, cn_inj XS.nd 3 5 (a := "Impossible") (b := "NoRow") rfl rfl, cn_inj XS.nd 3 6 (a := "Impossible") (b := "Held") rfl rfl, cn_inj XS.nd 3 7 (a := "Impossible") (b := "NotBare") rfl rfl, cn_inj XS.nd 3 8 (a := "Impossible") (b := "Busy") rfl rfl, cn_inj XS.nd 3 9 (a := "Impossible") (b := "Idle") rfl rfl, cn_inj XS.nd 3 10 (a := "Impossible") (b := "Down") rfl rfl, cn_inj XS.nd 3 11 (a := "Impossible") (b := "Up") rfl rfl, cn_inj XS.nd 3 12 (a := "Impossible") (b := "NoCheck") rfl rfl, cn_inj XS.nd 3 13 (a := "Impossible") (b := "TooFar") rfl rfl]
  rfl
theorem sorts_4 {K : PySem.W.Frag} {mg : Str → Option Value} {c : Str → Addr} (XS : Xs K mg c) : sortsD K c (c "NoTransaction") = dueD 4 := by
  unfold sortsD
  rw [XS.x_NoTransaction.mro]
  rw [show (Value.ref (c "NoTransaction") :: bm_LookupError).contains (.type "ValueError") = false from rfl]
  rw [show (Value.ref (c "NoTransaction") :: bm_LookupError).contains (.type "LookupError") = true from rfl]
  rw [show (Value.ref (c "NoTransaction") :: bm_LookupError).contains (.type "RuntimeError") = false from rfl]
  rw [show (Value.ref (c "NoTransaction") :: bm_LookupError).contains (.type "OverflowError") = false from rfl]
  rw [cn_inj XS.nd 4 0 (a := "NoTransaction") (b := "NoMark") rfl rfl, cn_inj XS.nd 4 1 (a := "NoTransaction") (b := "BadText") rfl rfl, cn_inj XS.nd 4 2 (a := "NoTransaction") (b := "BadLine") rfl rfl, cn_inj XS.nd 4 3 (a := "NoTransaction") (b := "Impossible") rfl rfl, cn_inj XS.nd 4 4 (a := "NoTransaction") (b := "NoTransaction") rfl rfl, cn_inj XS.nd 4 5 (a := "NoTransaction") (b := "NoRow") rfl rfl, cn_inj XS.nd 4 6 (a := "NoTransaction") (b := "Held") rfl rfl, cn_inj XS.nd 4 7 (a := "NoTransaction") (b := "NotBare") rfl rfl, cn_inj XS.nd 4 8 (a := "NoTransaction") (b := "Busy") rfl rfl, cn_inj XS.nd 4 9 (a := "NoTransaction") (b := "Idle") rfl rfl, cn_inj XS.nd 4 10 (a := "NoTransaction") (b := "Down") rfl rfl, cn_inj XS.nd 4 11 (a := "NoTransaction") (b := "Up") rfl rfl, cn_inj XS.nd 4 12 (a := "NoTransaction") (b := "NoCheck") rfl rfl, cn_inj XS.nd 4 13 (a := "NoTransaction") (b := "TooFar") rfl rfl]
  rfl
theorem sorts_5 {K : PySem.W.Frag} {mg : Str → Option Value} {c : Str → Addr} (XS : Xs K mg c) : sortsD K c (c "NoRow") = dueD 5 := by
  unfold sortsD
  rw [XS.x_NoRow.mro]
  rw [show (Value.ref (c "NoRow") :: bm_LookupError).contains (.type "ValueError") = false from rfl]
  rw [show (Value.ref (c "NoRow") :: bm_LookupError).contains (.type "LookupError") = true from rfl]
  rw [show (Value.ref (c "NoRow") :: bm_LookupError).contains (.type "RuntimeError") = false from rfl]
  rw [show (Value.ref (c "NoRow") :: bm_LookupError).contains (.type "OverflowError") = false from rfl]
  rw [cn_inj XS.nd 5 0 (a := "NoRow") (b := "NoMark") rfl rfl, cn_inj XS.nd 5 1 (a := "NoRow") (b := "BadText") rfl rfl, cn_inj XS.nd 5 2 (a := "NoRow") (b := "BadLine") rfl rfl, cn_inj XS.nd 5 3 (a := "NoRow") (b := "Impossible") rfl rfl, cn_inj XS.nd 5 4 (a := "NoRow") (b := "NoTransaction") rfl rfl, cn_inj XS.nd 5 5 (a := "NoRow") (b := "NoRow") rfl rfl, cn_inj XS.nd 5 6 (a := "NoRow") (b := "Held") rfl rfl, cn_inj XS.nd 5 7 (a := "NoRow") (b := "NotBare") rfl rfl, cn_inj XS.nd 5 8 (a := "NoRow") (b := "Busy") rfl rfl, cn_inj XS.nd 5 9 (a := "NoRow") (b := "Idle") rfl rfl, cn_inj XS.nd 5 10 (a := "NoRow") (b := "Down") rfl rfl, cn_inj XS.nd 5 11 (a := "NoRow") (b := "Up") rfl rfl, cn_inj XS.nd 5 12 (a := "NoRow") (b := "NoCheck") rfl rfl, cn_inj XS.nd 5 13 (a := "NoRow") (b := "TooFar") rfl rfl]
  rfl
theorem sorts_6 {K : PySem.W.Frag} {mg : Str → Option Value} {c : Str → Addr} (XS : Xs K mg c) : sortsD K c (c "Held") = dueD 6 := by
  unfold sortsD
  rw [XS.x_Held.mro]
  rw [show (Value.ref (c "Held") :: bm_RuntimeError).contains (.type "ValueError") = false from rfl]
  rw [show (Value.ref (c "Held") :: bm_RuntimeError).contains (.type "LookupError") = false from rfl]
  rw [show (Value.ref (c "Held") :: bm_RuntimeError).contains (.type "RuntimeError") = true from rfl]
  rw [show (Value.ref (c "Held") :: bm_RuntimeError).contains (.type "OverflowError") = false from rfl]
  rw [cn_inj XS.nd 6 0 (a := "Held") (b := "NoMark") rfl rfl, cn_inj XS.nd 6 1 (a := "Held") (b := "BadText") rfl rfl, cn_inj XS.nd 6 2 (a := "Held") (b := "BadLine") rfl rfl, cn_inj XS.nd 6 3 (a := "Held") (b := "Impossible") rfl rfl, cn_inj XS.nd 6 4 (a := "Held") (b := "NoTransaction") rfl rfl, cn_inj XS.nd 6 5 (a := "Held") (b := "NoRow") rfl rfl, cn_inj XS.nd 6 6 (a := "Held") (b := "Held") rfl rfl, cn_inj XS.nd 6 7 (a := "Held") (b := "NotBare") rfl rfl, cn_inj XS.nd 6 8 (a := "Held") (b := "Busy") rfl rfl, cn_inj XS.nd 6 9 (a := "Held") (b := "Idle") rfl rfl, cn_inj XS.nd 6 10 (a := "Held") (b := "Down") rfl rfl, cn_inj XS.nd 6 11 (a := "Held") (b := "Up") rfl rfl, cn_inj XS.nd 6 12 (a := "Held") (b := "NoCheck") rfl rfl, cn_inj XS.nd 6 13 (a := "Held") (b := "TooFar") rfl rfl]
  rfl
theorem sorts_7 {K : PySem.W.Frag} {mg : Str → Option Value} {c : Str → Addr} (XS : Xs K mg c) : sortsD K c (c "NotBare") = dueD 7 := by
  unfold sortsD
  rw [XS.x_NotBare.mro]
  rw [show (Value.ref (c "NotBare") :: bm_RuntimeError).contains (.type "ValueError") = false from rfl]
  rw [show (Value.ref (c "NotBare") :: bm_RuntimeError).contains (.type "LookupError") = false from rfl]
  rw [show (Value.ref (c "NotBare") :: bm_RuntimeError).contains (.type "RuntimeError") = true from rfl]
  rw [show (Value.ref (c "NotBare") :: bm_RuntimeError).contains (.type "OverflowError") = false from rfl]
  rw [cn_inj XS.nd 7 0 (a := "NotBare") (b := "NoMark") rfl rfl, cn_inj XS.nd 7 1 (a := "NotBare") (b := "BadText") rfl rfl, cn_inj XS.nd 7 2 (a := "NotBare") (b := "BadLine") rfl rfl, cn_inj XS.nd 7 3 (a := "NotBare") (b := "Impossible") rfl rfl, cn_inj XS.nd 7 4 (a := "NotBare") (b := "NoTransaction") rfl rfl, cn_inj XS.nd 7 5 (a := "NotBare") (b := "NoRow") rfl rfl, cn_inj XS.nd 7 6 (a := "NotBare") (b := "Held") rfl rfl, cn_inj XS.nd 7 7 (a := "NotBare") (b := "NotBare") rfl rfl, cn_inj XS.nd 7 8 (a := "NotBare") (b := "Busy") rfl rfl, cn_inj XS.nd 7 9 (a := "NotBare") (b := "Idle") rfl rfl, cn_inj XS.nd 7 10 (a := "NotBare") (b := "Down") rfl rfl, cn_inj XS.nd 7 11 (a := "NotBare") (b := "Up") rfl rfl, cn_inj XS.nd 7 12 (a := "NotBare") (b := "NoCheck") rfl rfl, cn_inj XS.nd 7 13 (a := "NotBare") (b := "TooFar") rfl rfl]
  rfl
theorem sorts_8 {K : PySem.W.Frag} {mg : Str → Option Value} {c : Str → Addr} (XS : Xs K mg c) : sortsD K c (c "Busy") = dueD 8 := by
  unfold sortsD
  rw [XS.x_Busy.mro]
  rw [show (Value.ref (c "Busy") :: bm_RuntimeError).contains (.type "ValueError") = false from rfl]
  rw [show (Value.ref (c "Busy") :: bm_RuntimeError).contains (.type "LookupError") = false from rfl]
  rw [show (Value.ref (c "Busy") :: bm_RuntimeError).contains (.type "RuntimeError") = true from rfl]
  rw [show (Value.ref (c "Busy") :: bm_RuntimeError).contains (.type "OverflowError") = false from rfl]
  rw [cn_inj XS.nd 8 0 (a := "Busy") (b := "NoMark") rfl rfl, cn_inj XS.nd 8 1 (a := "Busy") (b := "BadText") rfl rfl, cn_inj XS.nd 8 2 (a := "Busy") (b := "BadLine") rfl rfl, cn_inj XS.nd 8 3 (a := "Busy") (b := "Impossible") rfl rfl, cn_inj XS.nd 8 4 (a := "Busy") (b := "NoTransaction") rfl rfl, cn_inj XS.nd 8 5 (a := "Busy") (b := "NoRow") rfl rfl, cn_inj XS.nd 8 6 (a := "Busy") (b := "Held") rfl rfl, cn_inj XS.nd 8 7 (a := "Busy") (b := "NotBare") rfl rfl, cn_inj XS.nd 8 8 (a := "Busy") (b := "Busy") rfl rfl, cn_inj XS.nd 8 9 (a := "Busy") (b := "Idle") rfl rfl, cn_inj XS.nd 8 10 (a := "Busy") (b := "Down") rfl rfl, cn_inj XS.nd 8 11 (a := "Busy") (b := "Up") rfl rfl, cn_inj XS.nd 8 12 (a := "Busy") (b := "NoCheck") rfl rfl, cn_inj XS.nd 8 13 (a := "Busy") (b := "TooFar") rfl rfl]
  rfl
theorem sorts_9 {K : PySem.W.Frag} {mg : Str → Option Value} {c : Str → Addr} (XS : Xs K mg c) : sortsD K c (c "Idle") = dueD 9 := by
  unfold sortsD
  rw [XS.x_Idle.mro]
  rw [show (Value.ref (c "Idle") :: bm_RuntimeError).contains (.type "ValueError") = false from rfl]
  rw [show (Value.ref (c "Idle") :: bm_RuntimeError).contains (.type "LookupError") = false from rfl]
  rw [show (Value.ref (c "Idle") :: bm_RuntimeError).contains (.type "RuntimeError") = true from rfl]
  rw [show (Value.ref (c "Idle") :: bm_RuntimeError).contains (.type "OverflowError") = false from rfl]
  rw [cn_inj XS.nd 9 0 (a := "Idle") (b := "NoMark") rfl rfl, cn_inj XS.nd 9 1 (a := "Idle") (b := "BadText") rfl rfl, cn_inj XS.nd 9 2 (a := "Idle") (b := "BadLine") rfl rfl, cn_inj XS.nd 9 3 (a := "Idle") (b := "Impossible") rfl rfl, cn_inj XS.nd 9 4 (a := "Idle") (b := "NoTransaction") rfl rfl, cn_inj XS.nd 9 5 (a := "Idle") (b := "NoRow") rfl rfl, cn_inj XS.nd 9 6 (a := "Idle") (b := "Held") rfl rfl, cn_inj XS.nd 9 7 (a := "Idle") (b := "NotBare") rfl rfl, cn_inj XS.nd 9 8 (a := "Idle") (b := "Busy") rfl rfl, cn_inj XS.nd 9 9 (a := "Idle") (b := "Idle") rfl rfl, cn_inj XS.nd 9 10 (a := "Idle") (b := "Down") rfl rfl, cn_inj XS.nd 9 11 (a := "Idle") (b := "Up") rfl rfl, cn_inj XS.nd 9 12 (a := "Idle") (b := "NoCheck") rfl rfl, cn_inj XS.nd 9 13 (a := "Idle") (b := "TooFar") rfl rfl]
  rfl
theorem sorts_10 {K : PySem.W.Frag} {mg : Str → Option Value} {c : Str → Addr} (XS : Xs K mg c) : sortsD K c (c "Down") = dueD 10 := by
  unfold sortsD
  rw [XS.x_Down.mro]
  rw [show (Value.ref (c "Down") :: bm_RuntimeError).contains (.type "ValueError") = false from rfl]
  rw [show (Value.ref (c "Down") :: bm_RuntimeError).contains (.type "LookupError") = false from rfl]
  rw [show (Value.ref (c "Down") :: bm_RuntimeError).contains (.type "RuntimeError") = true from rfl]
  rw [show (Value.ref (c "Down") :: bm_RuntimeError).contains (.type "OverflowError") = false from rfl]
  rw [cn_inj XS.nd 10 0 (a := "Down") (b := "NoMark") rfl rfl, cn_inj XS.nd 10 1 (a := "Down") (b := "BadText") rfl rfl, cn_inj XS.nd 10 2 (a := "Down") (b := "BadLine") rfl rfl, cn_inj XS.nd 10 3 (a := "Down") (b := "Impossible") rfl rfl, cn_inj XS.nd 10 4 (a := "Down") (b := "NoTransaction") rfl rfl, cn_inj XS.nd 10 5 (a := "Down") (b := "NoRow") rfl rfl, cn_inj XS.nd 10 6 (a := "Down") (b := "Held") rfl rfl, cn_inj XS.nd 10 7 (a := "Down") (b := "NotBare") rfl rfl, cn_inj XS.nd 10 8 (a := "Down") (b := "Busy") rfl rfl, cn_inj XS.nd 10 9 (a := "Down") (b := "Idle") rfl rfl, cn_inj XS.nd 10 10 (a := "Down") (b := "Down") rfl rfl, cn_inj XS.nd 10 11 (a := "Down") (b := "Up") rfl rfl, cn_inj XS.nd 10 12 (a := "Down") (b := "NoCheck") rfl rfl, cn_inj XS.nd 10 13 (a := "Down") (b := "TooFar") rfl rfl]
  rfl
theorem sorts_11 {K : PySem.W.Frag} {mg : Str → Option Value} {c : Str → Addr} (XS : Xs K mg c) : sortsD K c (c "Up") = dueD 11 := by
  unfold sortsD
  rw [XS.x_Up.mro]
  rw [show (Value.ref (c "Up") :: bm_RuntimeError).contains (.type "ValueError") = false from rfl]
  rw [show (Value.ref (c "Up") :: bm_RuntimeError).contains (.type "LookupError") = false from rfl]
  rw [show (Value.ref (c "Up") :: bm_RuntimeError).contains (.type "RuntimeError") = true from rfl]
  rw [show (Value.ref (c "Up") :: bm_RuntimeError).contains (.type "OverflowError") = false from rfl]
  rw [cn_inj XS.nd 11 0 (a := "Up") (b := "NoMark") rfl rfl, cn_inj XS.nd 11 1 (a := "Up") (b := "BadText") rfl rfl, cn_inj XS.nd 11 2 (a := "Up") (b := "BadLine") rfl rfl, cn_inj XS.nd 11 3 (a := "Up") (b := "Impossible") rfl rfl, cn_inj XS.nd 11 4 (a := "Up") (b := "NoTransaction") rfl rfl, cn_inj XS.nd 11 5 (a := "Up") (b := "NoRow") rfl rfl, cn_inj XS.nd 11 6 (a := "Up") (b := "Held") rfl rfl, cn_inj XS.nd 11 7 (a := "Up") (b := "NotBare") rfl rfl, cn_inj XS.nd 11 8 (a := "Up") (b := "Busy") rfl rfl, cn_inj XS.nd 11 9 (a := "Up") (b := "Idle") rfl rfl, cn_inj XS.nd 11 10 (a := "Up") (b := "Down") rfl rfl, cn_inj XS.nd 11 11 (a := "Up") (b := "Up") rfl rfl, cn_inj XS.nd 11 12 (a := "Up") (b := "NoCheck") rfl rfl, cn_inj XS.nd 11 13 (a := "Up") (b := "TooFar") rfl rfl]
  rfl
theorem sorts_12 {K : PySem.W.Frag} {mg : Str → Option Value} {c : Str → Addr} (XS : Xs K mg c) : sortsD K c (c "NoCheck") = dueD 12 := by
  unfold sortsD
  rw [XS.x_NoCheck.mro]
  rw [show (Value.ref (c "NoCheck") :: bm_RuntimeError).contains (.type "ValueError") = false from rfl]
  rw [show (Value.ref (c "NoCheck") :: bm_RuntimeError).contains (.type "LookupError") = false from rfl]
  rw [show (Value.ref (c "NoCheck") :: bm_RuntimeError).contains (.type "RuntimeError") = true from rfl]
  rw [show (Value.ref (c "NoCheck") :: bm_RuntimeError).contains (.type "OverflowError") = false from rfl]
  rw [cn_inj XS.nd 12 0 (a := "NoCheck") (b := "NoMark") rfl rfl, cn_inj XS.nd 12 1 (a := "NoCheck") (b := "BadText") rfl rfl, cn_inj XS.nd 12 2 (a := "NoCheck") (b := "BadLine") rfl rfl, cn_inj XS.nd 12 3 (a := "NoCheck") (b := "Impossible") rfl rfl, cn_inj XS.nd 12 4 (a := "NoCheck") (b := "NoTransaction") rfl rfl, cn_inj XS.nd 12 5 (a := "NoCheck") (b := "NoRow") rfl rfl, cn_inj XS.nd 12 6 (a := "NoCheck") (b := "Held") rfl rfl, cn_inj XS.nd 12 7 (a := "NoCheck") (b := "NotBare") rfl rfl, cn_inj XS.nd 12 8 (a := "NoCheck") (b := "Busy") rfl rfl, cn_inj XS.nd 12 9 (a := "NoCheck") (b := "Idle") rfl rfl, cn_inj XS.nd 12 10 (a := "NoCheck") (b := "Down") rfl rfl, cn_inj XS.nd 12 11 (a := "NoCheck") (b := "Up") rfl rfl, cn_inj XS.nd 12 12 (a := "NoCheck") (b := "NoCheck") rfl rfl, cn_inj XS.nd 12 13 (a := "NoCheck") (b := "TooFar") rfl rfl]
  rfl
theorem sorts_13 {K : PySem.W.Frag} {mg : Str → Option Value} {c : Str → Addr} (XS : Xs K mg c) : sortsD K c (c "TooFar") = dueD 13 := by
  unfold sortsD
  rw [XS.x_TooFar.mro]
  rw [show (Value.ref (c "TooFar") :: bm_OverflowError).contains (.type "ValueError") = false from rfl]
  rw [show (Value.ref (c "TooFar") :: bm_OverflowError).contains (.type "LookupError") = false from rfl]
  rw [show (Value.ref (c "TooFar") :: bm_OverflowError).contains (.type "RuntimeError") = false from rfl]
  rw [show (Value.ref (c "TooFar") :: bm_OverflowError).contains (.type "OverflowError") = true from rfl]
  rw [cn_inj XS.nd 13 0 (a := "TooFar") (b := "NoMark") rfl rfl, cn_inj XS.nd 13 1 (a := "TooFar") (b := "BadText") rfl rfl, cn_inj XS.nd 13 2 (a := "TooFar") (b := "BadLine") rfl rfl, cn_inj XS.nd 13 3 (a := "TooFar") (b := "Impossible") rfl rfl, cn_inj XS.nd 13 4 (a := "TooFar") (b := "NoTransaction") rfl rfl, cn_inj XS.nd 13 5 (a := "TooFar") (b := "NoRow") rfl rfl, cn_inj XS.nd 13 6 (a := "TooFar") (b := "Held") rfl rfl, cn_inj XS.nd 13 7 (a := "TooFar") (b := "NotBare") rfl rfl, cn_inj XS.nd 13 8 (a := "TooFar") (b := "Busy") rfl rfl, cn_inj XS.nd 13 9 (a := "TooFar") (b := "Idle") rfl rfl, cn_inj XS.nd 13 10 (a := "TooFar") (b := "Down") rfl rfl, cn_inj XS.nd 13 11 (a := "TooFar") (b := "Up") rfl rfl, cn_inj XS.nd 13 12 (a := "TooFar") (b := "NoCheck") rfl rfl, cn_inj XS.nd 13 13 (a := "TooFar") (b := "TooFar") rfl rfl]
  rfl
theorem due_shw (i : Nat) : Shw (.list (dueD i)) := by
  refine shw_of wds ?_ ?_
  · rw [sz_l]
    simp [dueD, List.range, List.range.loop, szs_c, szs_0, sz_b]
  · refine Nat.le_trans (m := 1) ?_ (by decide)
    simp [dueD, List.range, List.range.loop, PyData.depth, PyData.depthAll]
abbrev madeA (c : Str → Addr) (n y : Int) (t : PyData) : List Sl := [.e (c "NoMark") [("mark", .int n)], .e (c "BadText") [("line", .int n)], .e (c "BadLine") [("line", .int n)], .e (c "Impossible") [("paper", t)], .e (c "NoTransaction") [("number", .int n)], .e (c "NoRow") [("key", .int y)], .e (c "Held") [("number", .int n), ("key", .int y)], .e (c "NotBare") [("page", .int n)]]
abbrev madeB (c : Str → Addr) (y : Int) : List Sl := [.e (c "Busy") [], .e (c "Idle") [], .e (c "Down") [], .e (c "Up") [], .e (c "NoCheck") [], .e (c "TooFar") [("lsn", .int y)]]
abbrev made (c : Str → Addr) (n y : Int) (t : PyData) : List Sl := madeA c n y t ++ madeB c y
abbrev madeE (c : Str → Addr) (n y : Int) (t : PyData) : List (Addr × List (Str × PyData)) := [(c "NoMark", [("mark", .int n)]), (c "BadText", [("line", .int n)]), (c "BadLine", [("line", .int n)]), (c "Impossible", [("paper", t)]), (c "NoTransaction", [("number", .int n)]), (c "NoRow", [("key", .int y)]), (c "Held", [("number", .int n), ("key", .int y)]), (c "NotBare", [("page", .int n)]), (c "Busy", []), (c "Idle", []), (c "Down", []), (c "Up", []), (c "NoCheck", []), (c "TooFar", [("lsn", .int y)])]
theorem bases_at {i : Nat} (h : i < 14) : atI ((([0, 0, 0, 0, 1, 1, 2, 2, 2, 2, 2, 2, 2, 3] : List Int).map PyData.int).map Sl.d) (i : Int) = some (Sl.i (([0, 0, 0, 0, 1, 1, 2, 2, 2, 2, 2, 2, 2, 3] : List Int).getD i 0)) := by
  have key : ∀ j : Fin 14, atI ((([0, 0, 0, 0, 1, 1, 2, 2, 2, 2, 2, 2, 2, 3] : List Int).map PyData.int).map Sl.d) ((j.val : Nat) : Int) = some (Sl.i (([0, 0, 0, 0, 1, 1, 2, 2, 2, 2, 2, 2, 2, 3] : List Int).getD j.val 0))
    | ⟨0, _⟩ | ⟨1, _⟩ | ⟨2, _⟩ | ⟨3, _⟩ | ⟨4, _⟩ | ⟨5, _⟩ | ⟨6, _⟩ | ⟨7, _⟩ | ⟨8, _⟩ | ⟨9, _⟩ | ⟨10, _⟩ | ⟨11, _⟩ | ⟨12, _⟩ | ⟨13, _⟩ => rfl
  exact key ⟨i, h⟩
theorem datOf_bl {A : Type} (f : A → Bool) : ∀ l : List A, datOf (l.map fun k => Sl.b (f k)) = some (l.map fun k => PyData.bool (f k))
  | [] => rfl
  | a :: r => by simp only [List.map_cons, datOf, datOf_bl f r, Option.map_some]
abbrev nineA (c : Str → Addr) (n : Int) (t : PyData) : List Sl := [.e (c "NoMark") [("mark", .int n)], .e (c "BadText") [("line", .int n)], .e (c "BadLine") [("line", .int n)], .e (c "Impossible") [("paper", t)]]
abbrev nineB (c : Str → Addr) (n y : Int) : List Sl := [.e (c "NoTransaction") [("number", .int n)], .e (c "NoRow") [("key", .int y)], .e (c "Held") [("number", .int n), ("key", .int y)], .e (c "NotBare") [("page", .int n)], .e (c "TooFar") [("lsn", .int y)]]
abbrev nine (c : Str → Addr) (n y : Int) (t : PyData) : List Sl := nineA c n t ++ nineB c n y
abbrev nineL (c : Str → Addr) (n y : Int) (t : PyData) : List Sl := [.e (c "NoMark") [("mark", .int n)], .e (c "BadText") [("line", .int n)], .e (c "BadLine") [("line", .int n)], .e (c "Impossible") [("paper", t)], .e (c "NoTransaction") [("number", .int n)], .e (c "NoRow") [("key", .int y)], .e (c "Held") [("number", .int n), ("key", .int y)], .e (c "NotBare") [("page", .int n)], .e (c "TooFar") [("lsn", .int y)]]
theorem its_shw {n y : Int} {t : PyData} (n0 : 0 ≤ n) (n1 : n < 300) (y0 : 0 ≤ y) (y1 : y < 10 ^ Int.toNat 6) (h1 : t.depth ≤ 8) (h2 : sz WD t ≤ 1000) : Shw (.list [.int n, .int n, .int n, t, .int n, .int y, .int y, .int n, .int n, .int y]) := by
  have y1 : y < 1000000 := y1
  have zn := sz_i (i := n) (by omega) (by omega)
  have zy := sz_i (i := y) (by omega) (by omega)
  refine shw_of wds ?_ ?_
  · simp only [sz_l, szs_c, szs_0, zn, zy]
    omega
  · simp only [PyData.depth, PyData.depthAll]
    omega
theorem narrow {K : PySem.W.Frag} {mg : Str → Option Value} {c : Str → Addr} (XS : Xs K mg c) {n y : Int} {t : PyData} : ∀ q ∈ madeE c n y t, ExC K q.1 ∧ (mroT K q.1).contains (.type "KeyError") = false ∧ (mroT K q.1).contains (.type "IndexError") = false := by
  intro q hq
  simp only [madeE, List.mem_cons, List.not_mem_nil, or_false] at hq
  rcases hq with rfl | rfl | rfl | rfl | rfl | rfl | rfl | rfl | rfl | rfl | rfl | rfl | rfl | rfl
  · exact ⟨⟨_, _, _, _, XS.x_NoMark⟩, by rw [XS.x_NoMark.mro]; rfl, by rw [XS.x_NoMark.mro]; rfl⟩
  · exact ⟨⟨_, _, _, _, XS.x_BadText⟩, by rw [XS.x_BadText.mro]; rfl, by rw [XS.x_BadText.mro]; rfl⟩
  · exact ⟨⟨_, _, _, _, XS.x_BadLine⟩, by rw [XS.x_BadLine.mro]; rfl, by rw [XS.x_BadLine.mro]; rfl⟩
  · exact ⟨⟨_, _, _, _, XS.x_Impossible⟩, by rw [XS.x_Impossible.mro]; rfl, by rw [XS.x_Impossible.mro]; rfl⟩
  · exact ⟨⟨_, _, _, _, XS.x_NoTransaction⟩, by rw [XS.x_NoTransaction.mro]; rfl, by rw [XS.x_NoTransaction.mro]; rfl⟩
  · exact ⟨⟨_, _, _, _, XS.x_NoRow⟩, by rw [XS.x_NoRow.mro]; rfl, by rw [XS.x_NoRow.mro]; rfl⟩
  · exact ⟨⟨_, _, _, _, XS.x_Held⟩, by rw [XS.x_Held.mro]; rfl, by rw [XS.x_Held.mro]; rfl⟩
  · exact ⟨⟨_, _, _, _, XS.x_NotBare⟩, by rw [XS.x_NotBare.mro]; rfl, by rw [XS.x_NotBare.mro]; rfl⟩
  · exact ⟨⟨_, _, _, _, XS.x_Busy⟩, by rw [XS.x_Busy.mro]; rfl, by rw [XS.x_Busy.mro]; rfl⟩
  · exact ⟨⟨_, _, _, _, XS.x_Idle⟩, by rw [XS.x_Idle.mro]; rfl, by rw [XS.x_Idle.mro]; rfl⟩
  · exact ⟨⟨_, _, _, _, XS.x_Down⟩, by rw [XS.x_Down.mro]; rfl, by rw [XS.x_Down.mro]; rfl⟩
  · exact ⟨⟨_, _, _, _, XS.x_Up⟩, by rw [XS.x_Up.mro]; rfl, by rw [XS.x_Up.mro]; rfl⟩
  · exact ⟨⟨_, _, _, _, XS.x_NoCheck⟩, by rw [XS.x_NoCheck.mro]; rfl, by rw [XS.x_NoCheck.mro]; rfl⟩
  · exact ⟨⟨_, _, _, _, XS.x_TooFar⟩, by rw [XS.x_TooFar.mro]; rfl, by rw [XS.x_TooFar.mro]; rfl⟩
/-- what is asked of one error -/
def ItOk (K : PySem.W.Frag) (c : Str → Addr) (x : Sl) : Prop := ∃ (i : Nat) (C : Addr) (fs : List (Str × PyData)), x = .pe (.int (i : Int)) C fs ∧ i < 14 ∧ ExC K C ∧ (∀ D, ExC K D → PySem.W.kitOne K (.ref C) (.ref D) = some (decide (C = D))) ∧ sortsD K c C = dueD i
theorem itOk {K : PySem.W.Frag} {mg : Str → Option Value} {c : Str → Addr} (XS : Xs K mg c) {n y : Int} {t : PyData} : ∀ x ∈ enumX (madeE c n y t), ItOk K c x := by
  intro x hx
  simp only [enumX, madeE, List.zipIdx_cons, List.zipIdx_nil, List.map_cons, List.map_nil, List.mem_cons, List.not_mem_nil, or_false] at hx
  rcases hx with rfl | rfl | rfl | rfl | rfl | rfl | rfl | rfl | rfl | rfl | rfl | rfl | rfl | rfl
  · exact ⟨0, _, _, rfl, by decide, ⟨_, _, _, _, XS.x_NoMark⟩, fun D ⟨_, _, _, _, h⟩ => kit_xc XS.x_NoMark.toXC h.toXC rfl, sorts_0 XS⟩
  · exact ⟨1, _, _, rfl, by decide, ⟨_, _, _, _, XS.x_BadText⟩, fun D ⟨_, _, _, _, h⟩ => kit_xc XS.x_BadText.toXC h.toXC rfl, sorts_1 XS⟩
  · exact ⟨2, _, _, rfl, by decide, ⟨_, _, _, _, XS.x_BadLine⟩, fun D ⟨_, _, _, _, h⟩ => kit_xc XS.x_BadLine.toXC h.toXC rfl, sorts_2 XS⟩
  · exact ⟨3, _, _, rfl, by decide, ⟨_, _, _, _, XS.x_Impossible⟩, fun D ⟨_, _, _, _, h⟩ => kit_xc XS.x_Impossible.toXC h.toXC rfl, sorts_3 XS⟩
  · exact ⟨4, _, _, rfl, by decide, ⟨_, _, _, _, XS.x_NoTransaction⟩, fun D ⟨_, _, _, _, h⟩ => kit_xc XS.x_NoTransaction.toXC h.toXC rfl, sorts_4 XS⟩
  · exact ⟨5, _, _, rfl, by decide, ⟨_, _, _, _, XS.x_NoRow⟩, fun D ⟨_, _, _, _, h⟩ => kit_xc XS.x_NoRow.toXC h.toXC rfl, sorts_5 XS⟩
  · exact ⟨6, _, _, rfl, by decide, ⟨_, _, _, _, XS.x_Held⟩, fun D ⟨_, _, _, _, h⟩ => kit_xc XS.x_Held.toXC h.toXC rfl, sorts_6 XS⟩
  · exact ⟨7, _, _, rfl, by decide, ⟨_, _, _, _, XS.x_NotBare⟩, fun D ⟨_, _, _, _, h⟩ => kit_xc XS.x_NotBare.toXC h.toXC rfl, sorts_7 XS⟩
  · exact ⟨8, _, _, rfl, by decide, ⟨_, _, _, _, XS.x_Busy⟩, fun D ⟨_, _, _, _, h⟩ => kit_xc XS.x_Busy.toXC h.toXC rfl, sorts_8 XS⟩
  · exact ⟨9, _, _, rfl, by decide, ⟨_, _, _, _, XS.x_Idle⟩, fun D ⟨_, _, _, _, h⟩ => kit_xc XS.x_Idle.toXC h.toXC rfl, sorts_9 XS⟩
  · exact ⟨10, _, _, rfl, by decide, ⟨_, _, _, _, XS.x_Down⟩, fun D ⟨_, _, _, _, h⟩ => kit_xc XS.x_Down.toXC h.toXC rfl, sorts_10 XS⟩
  · exact ⟨11, _, _, rfl, by decide, ⟨_, _, _, _, XS.x_Up⟩, fun D ⟨_, _, _, _, h⟩ => kit_xc XS.x_Up.toXC h.toXC rfl, sorts_11 XS⟩
  · exact ⟨12, _, _, rfl, by decide, ⟨_, _, _, _, XS.x_NoCheck⟩, fun D ⟨_, _, _, _, h⟩ => kit_xc XS.x_NoCheck.toXC h.toXC rfl, sorts_12 XS⟩
  · exact ⟨13, _, _, rfl, by decide, ⟨_, _, _, _, XS.x_TooFar⟩, fun D ⟨_, _, _, _, h⟩ => kit_xc XS.x_TooFar.toXC h.toXC rfl, sorts_13 XS⟩
section
variable {P : Program} {w : World} {K : PySem.W.Frag} {mg : Str → Option Value} {base : Heap}
theorem ok_right (T : Tx K mg) {c : Str → Addr} {cc_NoMark co_NoMark cc_BadText co_BadText cc_BadLine co_BadLine cc_Impossible co_Impossible cc_NoTransaction co_NoTransaction cc_NoRow co_NoRow cc_Held co_Held cc_NotBare co_NotBare cc_TooFar co_TooFar : Addr} (XS : Xs K mg c) (H_NoMark : HasX P w K mg base 10 (c "NoMark") "NoMark" (nfX xd_NoMark cc_NoMark co_NoMark) ["self", "mark"] 1 (xOne "mark" gTup)) (H_BadText : HasX P w K mg base 10 (c "BadText") "BadText" (nfX xd_BadText cc_BadText co_BadText) ["self", "line"] 1 (xOne "line" fun d d' => d' = d)) (H_BadLine : HasX P w K mg base 10 (c "BadLine") "BadLine" (nfX xd_BadLine cc_BadLine co_BadLine) ["self", "line"] 1 (xOne "line" fun d d' => d' = d)) (H_Impossible : HasX P w K mg base 10 (c "Impossible") "Impossible" (nfX xd_Impossible cc_Impossible co_Impossible) ["self", "paper"] 1 (xOne "paper" gTup)) (H_NoTransaction : HasX P w K mg base 10 (c "NoTransaction") "NoTransaction" (nfX xd_NoTransaction cc_NoTransaction co_NoTransaction) ["self", "number"] 1 (xOne "number" fun d d' => d' = d)) (H_NoRow : HasX P w K mg base 10 (c "NoRow") "NoRow" (nfX xd_NoRow cc_NoRow co_NoRow) ["self", "key"] 1 (xOne "key" fun d d' => d' = d)) (H_Held : HasX P w K mg base 10 (c "Held") "Held" (nfX xd_Held cc_Held co_Held) ["self", "key", "number"] 2 (xTwo "key" "number")) (H_NotBare : HasX P w K mg base 10 (c "NotBare") "NotBare" (nfX xd_NotBare cc_NotBare co_NotBare) ["self", "page"] 1 (xOne "page" fun d d' => d' = d)) (H_TooFar : HasX P w K mg base 10 (c "TooFar") "TooFar" (nfX xd_TooFar cc_TooFar co_TooFar) ["self", "lsn"] 1 (xOne "lsn" fun d d' => d' = d))
    (H__law_take : Has P w K mg base 1 "_law_take" s__law_take ["_law_box_here", "_law_below"] cn_take) (H__law_of : Has P w K mg base 2 "_law_of" s__law_of ["_law_box_here", "_law_some"] cn_of) (H__law_same : Has P w K mg base 1 "_law_same" s__law_same ["_law_found", "_law_due_so"] cn_same)
    (H__law_sorts : Has P w K mg base 1 "_law_sorts" s__law_sorts ["_law_error"] (cn_sorts K c)) (H__law_lists : Has P w K mg base 9 "_law_lists" s__law_lists ["_law_matter"] (cn_deep lsD 8))
    {f : Addr} {fd : FuncData} (Fu : Fun K "_law_right" "_law_right" s__law_right f fd) : FnD P w K mg base 12 f fd ["_law_box_here"] cn_right := by
  refine fnD_of Fu sc__law_right (fun rs M R h => ?_) fun cdv A outer s H hgd hr => ⟨_, (pdb_cons (pds_par 6 7 rfl sc__law_right.nd (by decide) (pda_cons (pd_fn H__law_take hgd (hr.mono (by first | decide | omega)) (by rfl) (pda_cons (pd_var 0) (pda_cons pd_int pda_nil))) (pda_cons (pd_fn H__law_take hgd (hr.mono (by first | decide | omega)) (by rfl) (pda_cons (pd_var 0) (pda_cons (pd_op o_pow pd_int pd_int) pda_nil))) pda_nil)))
      (pdb_cons (pds_set 1 sc__law_right.nd (pd_fn H__law_of hgd (hr.mono (by first | decide | omega)) (by rfl) (pda_cons (pd_var 0) (pda_cons (pd_lst (pda_cons (pd_tup (pda_cons pd_str (pda_cons (pd_var 6) (pda_cons pd_non pda_nil)))) (pda_cons (pd_tup (pda_cons pd_str (pda_cons (pd_var 6) (pda_cons (pd_tup (pda_cons pd_str (pda_cons pd_int (pda_cons pd_int (pda_cons pd_int (pda_cons pd_int (pda_cons pd_non (pda_cons pd_int pda_nil)))))))) pda_nil)))) (pda_cons (pd_tup (pda_cons pd_str (pda_cons (pd_var 7) (pda_cons pd_str pda_nil)))) pda_nil)))) pda_nil))))
      (pdb_cons (pds_set 2 sc__law_right.nd (pd_lstM (pda_cons (pd_mkX H_NoMark hgd (hr.mono (by first | decide | omega)) (by rfl) rfl (by decide) (hx_NoMark _ _) (pda_cons (pd_var 6) pda_nil)) (pda_cons (pd_mkX H_BadText hgd (hr.mono (by first | decide | omega)) (by rfl) rfl (by decide) (hx_BadText _ _) (pda_cons (pd_var 6) pda_nil)) (pda_cons (pd_mkX H_BadLine hgd (hr.mono (by first | decide | omega)) (by rfl) rfl (by decide) (hx_BadLine _ _) (pda_cons (pd_var 6) pda_nil)) (pda_cons (pd_mkX H_Impossible hgd (hr.mono (by first | decide | omega)) (by rfl) rfl (by decide) (hx_Impossible _ _) (pda_cons (pd_var 1) pda_nil)) (pda_cons (pd_mkX H_NoTransaction hgd (hr.mono (by first | decide | omega)) (by rfl) rfl (by decide) (hx_NoTransaction _ _) (pda_cons (pd_var 6) pda_nil)) (pda_cons (pd_mkX H_NoRow hgd (hr.mono (by first | decide | omega)) (by rfl) rfl (by decide) (hx_NoRow _ _) (pda_cons (pd_var 7) pda_nil)) (pda_cons (pd_mkX H_Held hgd (hr.mono (by first | decide | omega)) (by rfl) rfl (by decide) (hx_Held _ _) (pda_cons (pd_var 7) (pda_cons (pd_var 6) pda_nil))) (pda_cons (pd_mkX H_NotBare hgd (hr.mono (by first | decide | omega)) (by rfl) rfl (by decide) (hx_NotBare _ _) (pda_cons (pd_var 6) pda_nil)) pda_nil))))))))))
      (pdb_cons (pds_set 2 sc__law_right.nd (pd_op o_catM (pd_var 2) (pd_lstM (pda_cons (pd_mkX0 XS.h_Busy (by rfl)) (pda_cons (pd_mkX0 XS.h_Idle (by rfl)) (pda_cons (pd_mkX0 XS.h_Down (by rfl)) (pda_cons (pd_mkX0 XS.h_Up (by rfl)) (pda_cons (pd_mkX0 XS.h_NoCheck (by rfl)) (pda_cons (pd_mkX H_TooFar hgd (hr.mono (by first | decide | omega)) (by rfl) rfl (by decide) (hx_TooFar _ _) (pda_cons (pd_var 7) pda_nil)) pda_nil)))))))))
      (pdb_cons (pds_set 3 sc__law_right.nd (pd_lst (pda_cons pd_int (pda_cons pd_int (pda_cons pd_int (pda_cons pd_int (pda_cons pd_int (pda_cons pd_int (pda_cons pd_int (pda_cons pd_int (pda_cons pd_int (pda_cons pd_int (pda_cons pd_int (pda_cons pd_int (pda_cons pd_int (pda_cons pd_int pda_nil))))))))))))))))
      (pdb_cons (pds_for PassesOwn.never rfl (pdi_enumX (by rfl) T.z_enumerate (pda_cons (pd_var 2) pda_nil)) (pdg_pe (n := 2) rfl rfl (pdgs_cons (pdg_name 8 sc__law_right.nd) (pdgs_cons (pdg_name 9 sc__law_right.nd) pdgs_nil))) (pdb_cons (pds_set 10 sc__law_right.nd (pd_op o_plus (pd_lc (own := [("_law_k", 21)]) rfl sc__law_right.nd (pdi_range1 (by rfl) T.z_range (pda_cons pd_int pda_nil)) (blkOk_by (N := N__law_right) (sc := defScope s__law_right) (by decide +kernel)) (fun _ _ _ _ _ => (pdgw_name 21 sc__law_right.nd)) (fun _ _ _ _ _ => pdts_nil) (fun _ _ _ _ _ => (pd_cmp (o_eq hr.units) (pd_var 21) (pd_ix (pd_var 3) (pd_var 8)) (nomark _)))) (pd_lc (own := [("_law_k", 21)]) rfl sc__law_right.nd (pdi_range1 (by rfl) T.z_range (pda_cons pd_int pda_nil)) (blkOk_by (N := N__law_right) (sc := defScope s__law_right) (by decide +kernel)) (fun _ _ _ _ _ => (pdgw_name 21 sc__law_right.nd)) (fun _ _ _ _ _ => pdts_nil) (fun _ _ _ _ _ => (pd_cmp (o_eq hr.units) (pd_var 21) (pd_var 8) (nomark _))))))
      (pdb_one (pds_if (pdt_not (pdt_tru (pd_fn H__law_same hgd (hr.mono (by first | decide | omega)) (by rfl) (pda_cons (pd_fn H__law_sorts hgd (hr.mono (by first | decide | omega)) (by rfl) (pda_cons (pd_var 9) pda_nil)) (pda_cons (pd_var 10) pda_nil))))) (pdb_one (pds_ret pd_bl)) pdb_nil))))
      (pdb_cons (pds_set 4 sc__law_right.nd (pd_lstM (pda_cons (pd_mkXK pmId H_NoMark hgd (hr.mono (by first | decide | omega)) (by rfl) (pdk_cons (pd_var 6) pdk_nil) (kx_NoMark_Id _ _) pmId_p pmId_a) (pda_cons (pd_mkXK pmId H_BadText hgd (hr.mono (by first | decide | omega)) (by rfl) (pdk_cons (pd_var 6) pdk_nil) (kx_BadText_Id _ _) pmId_p pmId_a) (pda_cons (pd_mkXK pmId H_BadLine hgd (hr.mono (by first | decide | omega)) (by rfl) (pdk_cons (pd_var 6) pdk_nil) (kx_BadLine_Id _ _) pmId_p pmId_a) (pda_cons (pd_mkXK pmId H_Impossible hgd (hr.mono (by first | decide | omega)) (by rfl) (pdk_cons (pd_fn H__law_lists hgd (hr.mono (by first | decide | omega)) (by rfl) (pda_cons (pd_var 1) pda_nil)) pdk_nil) (kx_Impossible_Id _ _) pmId_p pmId_a) pda_nil))))))
      (pdb_cons (pds_set 4 sc__law_right.nd (pd_op o_catM (pd_var 4) (pd_lstM (pda_cons (pd_mkXK pmId H_NoTransaction hgd (hr.mono (by first | decide | omega)) (by rfl) (pdk_cons (pd_var 6) pdk_nil) (kx_NoTransaction_Id _ _) pmId_p pmId_a) (pda_cons (pd_mkXK pmId H_NoRow hgd (hr.mono (by first | decide | omega)) (by rfl) (pdk_cons (pd_var 7) pdk_nil) (kx_NoRow_Id _ _) pmId_p pmId_a) (pda_cons (pd_mkXK pmSwap H_Held hgd (hr.mono (by first | decide | omega)) (by rfl) (pdk_cons (pd_var 6) (pdk_cons (pd_var 7) pdk_nil)) (kx_Held_Swap _ _) pmSwap_p pmSwap_a) (pda_cons (pd_mkXK pmId H_NotBare hgd (hr.mono (by first | decide | omega)) (by rfl) (pdk_cons (pd_var 6) pdk_nil) (kx_NotBare_Id _ _) pmId_p pmId_a) (pda_cons (pd_mkXK pmId H_TooFar hgd (hr.mono (by first | decide | omega)) (by rfl) (pdk_cons (pd_var 7) pdk_nil) (kx_TooFar_Id _ _) pmId_p pmId_a) pda_nil))))))))
      (pdb_cons (pds_for PassesOwn.never rfl (pdi_tupM (pd_tupM (pda_cons (pd_op o_catM (pd_sliceM (pd_var 2) pdo_none (pdo_some pd_int)) (pd_sliceM (pd_var 2) (pdo_some (pd_neg pd_int)) pdo_none)) (pda_cons (pd_var 4) pda_nil)))) (pdg_lst (n := 9) rfl (pdgs_cons (pdg_name 11 sc__law_right.nd) (pdgs_cons (pdg_name 12 sc__law_right.nd) (pdgs_cons (pdg_name 13 sc__law_right.nd) (pdgs_cons (pdg_name 14 sc__law_right.nd) (pdgs_cons (pdg_name 15 sc__law_right.nd) (pdgs_cons (pdg_name 16 sc__law_right.nd) (pdgs_cons (pdg_name 17 sc__law_right.nd) (pdgs_cons (pdg_name 18 sc__law_right.nd) (pdgs_cons (pdg_name 19 sc__law_right.nd) pdgs_nil)))))))))) (pdb_cons (pds_set 20 sc__law_right.nd (pd_lst (pda_cons (pd_fldX (pd_var 11)) (pda_cons (pd_fldX (pd_var 12)) (pda_cons (pd_fldX (pd_var 13)) (pda_cons (pd_fldX (pd_var 14)) (pda_cons (pd_fldX (pd_var 15)) (pda_cons (pd_fldX (pd_var 16)) (pda_cons (pd_fldX (pd_var 17)) (pda_cons (pd_fldX (pd_var 17)) (pda_cons (pd_fldX (pd_var 18)) (pda_cons (pd_fldX (pd_var 19)) pda_nil))))))))))))
      (pdb_one (pds_if (pdt_not (pdt_tru (pd_fn H__law_same hgd (hr.mono (by first | decide | omega)) (by rfl) (pda_cons (pd_var 20) (pda_cons (pd_lst (pda_cons (pd_var 6) (pda_cons (pd_var 6) (pda_cons (pd_var 6) (pda_cons (pd_var 1) (pda_cons (pd_var 6) (pda_cons (pd_var 7) (pda_cons (pd_var 7) (pda_cons (pd_var 6) (pda_cons (pd_var 6) (pda_cons (pd_var 7) pda_nil))))))))))) pda_nil))))) (pdb_one (pds_ret pd_bl)) pdb_nil))))
      (pdb_cons (pds_setLc 5 (own := [("_law_error", 9)]) rfl sc__law_right.nd rfl rfl (sw_true rfl rfl rfl (by decide +kernel)) (pdi_seq (pd_var 2)) (blkOk_by (N := N__law_right) (sc := defScope s__law_right) (by decide +kernel)) (fun _ _ _ _ _ => (pdgw_name 9 sc__law_right.nd)) (fun _ _ _ _ _ => pdts_nil) (fun _ _ _ _ _ => (pd_isx2 (K := K) (S := "KeyError") (T := "IndexError") (pd_var 9) (by rfl) T.z_isinstance (by rfl) T.z_KeyError (by decide +kernel) (by rfl) T.z_IndexError (by decide +kernel))))
      (pdb_one (pds_ret (pd_and (pd_not (pd_callB (c_any rfl) (by rfl) T.z_any (by decide +kernel) (pda_cons (pd_var 5) pda_nil))) (pd_one (pd_fn H__law_same hgd (hr.mono (by first | decide | omega)) (by rfl) (pda_cons (pd_gI (by rfl) T.c_FULL) (pda_cons pd_int pda_nil))))))))))))))))), ?_⟩
  · obtain ⟨b, B, m, rfl, _⟩ := h
    rfl
  · rintro rs M R ⟨b, B, m, rfl, hb, ok, k⟩
    walk_at "start"
    walk_at "run"
    refine ⟨b, B, 300, m + 2, rfl, hb, ok, by decide, by decide, fun n B1 n0 n1 ok1 => ?_⟩
    walk_at "run"
    refine ⟨b, B1, _, m + 1, rfl, upM_same, ok1, by decide, by decide, fun y B2 y0 y1 ok2 => ?_⟩
    rw [upM_upM]
    walk_at "run"
    refine ⟨b, B2, _, m, rfl, upM_same, ok2, by simp, by simp, fun tale B3 ht ok3 => ?_⟩
    rw [upM_upM]
    have ft := tale_facts n0 n1 y0 y1 ht
    clear ht
    obtain ⟨t1, t2, t3, t4, t5, t6⟩ := ft
    have k0 := k B3 ok3
    generalize upM M b B3.mo = M1 at k0 ⊢
    clear k ok ok1 ok2 ok3 hb
    have gn : gTup (.int n) (.int n) := ⟨Nat.zero_le _, by rw [sz_i n0 (by omega)]; decide, rfl⟩
    have gt : gTup tale tale := ⟨t1, by omega, t3.symm⟩
    walk_at "run"
    refine ⟨_, _, rfl, rfl, ⟨_, _, rfl, gn, rfl⟩, ?_⟩
    walk_at "run"
    refine ⟨_, _, rfl, rfl, ⟨_, _, rfl, rfl, rfl⟩, ?_⟩
    walk_at "run"
    refine ⟨_, _, rfl, rfl, ⟨_, _, rfl, rfl, rfl⟩, ?_⟩
    walk_at "run"
    refine ⟨_, _, rfl, rfl, ⟨_, _, rfl, gt, rfl⟩, ?_⟩
    walk_at "run"
    refine ⟨_, _, rfl, rfl, ⟨_, _, rfl, rfl, rfl⟩, ?_⟩
    walk_at "run"
    refine ⟨_, _, rfl, rfl, ⟨_, _, rfl, rfl, rfl⟩, ?_⟩
    walk_at "run"
    refine ⟨_, _, rfl, rfl, ⟨_, _, rfl, rfl⟩, ?_⟩
    walk_at "run"
    refine ⟨_, _, rfl, rfl, ⟨_, _, rfl, rfl, rfl⟩, ?_⟩
    walk_at "run"
    intro p1 hp1
    walk_at "run"
    refine ⟨_, _, rfl, rfl, ⟨_, _, rfl, rfl, rfl⟩, ?_⟩
    walk_at "run"
    intro p2 hp2
    walk_at "run"
    have ne12 : p1 ≠ p2 := neM upM_same hp2
    refine ⟨madeA c n y tale, madeB c y, lsOf_m (by rw [upM_ne ne12]; exact upM_same), lsOf_m upM_same, by simp [madeA, madeB, sizeLine_eq], fun p3 hp3 => ?_⟩
    have le3 : Le M1 (upM (upM (upM M1 p1 (.lst (madeA c n y tale))) p2 (.lst (madeB c y))) p3 (.lst (made c n y tale))) := (((Le.refl M1).up hp1).trans ((Le.refl _).up hp2)).trans ((Le.refl _).up hp3)
    have at3 : (upM (upM (upM M1 p1 (.lst (madeA c n y tale))) p2 (.lst (madeB c y))) p3 (.lst (made c n y tale))) p3 = some (.lst (made c n y tale)) := upM_same
    generalize e3 : upM (upM (upM M1 p1 (.lst (madeA c n y tale))) p2 (.lst (madeB c y))) p3 (.lst (made c n y tale)) = M2 at le3 at3
    clear hp3 hp2 hp1 e3
    walk_at "run"
    refine ⟨madeE c n y tale, at3, ?_⟩
    refine for_ind (fun rest dl M' => ∃ (x8 x9 x10 x21 : Option Sl), (∀ x ∈ rest, ItOk K c x) ∧ M' = M2 ∧ dl = [some (.v (.ref b)), some (.d tale), some (.v (.ref p3)), some (.d (intD [0, 0, 0, 0, 1, 1, 2, 2, 2, 2, 2, 2, 2, 3])), none, none, some (.i n), some (.i y), x8, x9, x10, none, none, none, none, none, none, none, none, none, none, x21]) ?_ ?_ ⟨_, _, _, _, itOk XS, rfl, rfl⟩
    · rintro _ M' ⟨x8, x9, x10, x21, _, rfl, rfl⟩
      refine ⟨at3, ?_⟩
      walk_at "run"
      refine ⟨_, _, rfl, rfl, ⟨_, _, rfl, gn, rfl⟩, ?_⟩
      walk_at "run"
      refine ⟨_, _, rfl, rfl, ⟨_, _, rfl, rfl, rfl⟩, ?_⟩
      walk_at "run"
      refine ⟨_, _, rfl, rfl, ⟨_, _, rfl, rfl, rfl⟩, ?_⟩
      walk_at "run"
      refine ⟨tale, rfl, t1, by omega, ?_⟩
      walk_at "run"
      refine ⟨_, _, rfl, rfl, ⟨_, _, rfl, (⟨t5, by omega, t4.symm⟩ : gTup (lsD tale) tale), rfl⟩, ?_⟩
      walk_at "run"
      intro q1 hq1
      walk_at "run"
      refine ⟨_, _, rfl, rfl, ⟨_, _, rfl, rfl, rfl⟩, ?_⟩
      walk_at "run"
      refine ⟨_, _, rfl, rfl, ⟨_, _, rfl, rfl, rfl⟩, ?_⟩
      walk_at "run"
      refine ⟨_, _, rfl, rfl, ⟨_, _, rfl, rfl⟩, ?_⟩
      walk_at "run"
      refine ⟨_, _, rfl, rfl, ⟨_, _, rfl, rfl, rfl⟩, ?_⟩
      walk_at "run"
      refine ⟨_, _, rfl, rfl, ⟨_, _, rfl, rfl, rfl⟩, ?_⟩
      walk_at "run"
      intro q2 hq2
      walk_at "run"
      have nq12 : q1 ≠ q2 := neM upM_same hq2
      refine ⟨nineA c n tale, nineB c n y, lsOf_m (by rw [upM_ne nq12]; exact upM_same), lsOf_m upM_same, by simp [nineA, nineB, sizeLine_eq], fun q3 hq3 => ?_⟩
      have le4 : Le M' (upM (upM (upM M' q1 (.lst (nineA c n tale))) q2 (.lst (nineB c n y))) q3 (.lst (nine c n y tale))) := (((Le.refl M').up hq1).trans ((Le.refl _).up hq2)).trans ((Le.refl _).up hq3)
      have at4 : (upM (upM (upM M' q1 (.lst (nineA c n tale))) q2 (.lst (nineB c n y))) q3 (.lst (nine c n y tale))) q3 = some (.lst (nine c n y tale)) := upM_same
      generalize e4 : upM (upM (upM M' q1 (.lst (nineA c n tale))) q2 (.lst (nineB c n y))) q3 (.lst (nine c n y tale)) = M4 at le4 at4
      have le5 := le3.trans le4
      have at5 := le4 _ _ at3
      clear hq3 hq2 hq1 e4 at3 le3 le4
      walk_at "run"
      intro r1 hr1
      have nn1 : p3 ≠ r1 := neM at5 hr1
      have nn2 : q3 ≠ r1 := neM at4 hr1
      walk_at "run"
      intro r2 hr2
      have nn3 : r1 ≠ r2 := neM upM_same hr2
      have nn4 : p3 ≠ r2 := neM (by rw [upM_ne nn1]; exact at5) hr2
      have nn5 : q3 ≠ r2 := neM (by rw [upM_ne nn2]; exact at4) hr2
      walk_at "run"
      intro r3 hr3
      have nn6 : q3 ≠ r3 := neM (by rw [upM_ne nn5, upM_ne nn2]; exact at4) hr3
      have nn7 : p3 ≠ r3 := neM (by rw [upM_ne nn4, upM_ne nn1]; exact at5) hr3
      walk_at "run"
      intro r4 hr4
      have nn8 : r3 ≠ r4 := neM upM_same hr4
      have nn9 : q3 ≠ r4 := neM (by rw [upM_ne nn6, upM_ne nn5, upM_ne nn2]; exact at4) hr4
      have nnA : p3 ≠ r4 := neM (by rw [upM_ne nn7, upM_ne nn4, upM_ne nn1]; exact at5) hr4
      walk_at "run"
      have at6 : (upM (upM (upM (upM M4 r1 (.lst (cutA (made c n y tale) none (some 8)))) r2 (.lst (cutA (made c n y tale) (some (-1)) none))) r3 (.lst (cutA (made c n y tale) none (some 8) ++ cutA (made c n y tale) (some (-1)) none))) r4 (.tup [.v (.ref r3), .v (.ref q3)])) r3 = some (.lst (nine c n y tale)) := (upM_ne nn8).trans upM_same
      have le6 : Le M4 (upM (upM (upM (upM M4 r1 (.lst (cutA (made c n y tale) none (some 8)))) r2 (.lst (cutA (made c n y tale) (some (-1)) none))) r3 (.lst (cutA (made c n y tale) none (some 8) ++ cutA (made c n y tale) (some (-1)) none))) r4 (.tup [.v (.ref r3), .v (.ref q3)])) := (((((Le.refl M4).up hr1).trans ((Le.refl _).up hr2)).trans ((Le.refl _).up hr3)).trans ((Le.refl _).up hr4))
      have at7 : (upM (upM (upM (upM M4 r1 (.lst (cutA (made c n y tale) none (some 8)))) r2 (.lst (cutA (made c n y tale) (some (-1)) none))) r3 (.lst (cutA (made c n y tale) none (some 8) ++ cutA (made c n y tale) (some (-1)) none))) r4 (.tup [.v (.ref r3), .v (.ref q3)])) r4 = some (.tup [.v (.ref r3), .v (.ref q3)]) := upM_same
      generalize e6 : upM (upM (upM (upM M4 r1 (.lst (cutA (made c n y tale) none (some 8)))) r2 (.lst (cutA (made c n y tale) (some (-1)) none))) r3 (.lst (cutA (made c n y tale) none (some 8) ++ cutA (made c n y tale) (some (-1)) none))) r4 (.tup [.v (.ref r3), .v (.ref q3)]) = M6 at le6 at6 at7
      have at8 := le6 _ _ at4
      have at9 := le6 _ _ at5
      have le7 := le5.trans le6
      clear e6 hr4 hr3 hr2 hr1 at4 at5 le5 le6
      have it : ∀ x ∈ [Sl.v (.ref r3), Sl.v (.ref q3)], ∃ p, x = .v (.ref p) ∧ M6 p = some (.lst (nine c n y tale)) := by
        intro x hx
        simp only [List.mem_cons, List.not_mem_nil, or_false] at hx
        rcases hx with rfl | rfl
        · exact ⟨_, rfl, at6⟩
        · exact ⟨_, rfl, at8⟩
      refine ⟨_, at7, ?_⟩
      refine for_ind (fun rest dl M' => ∃ (y11 y12 y13 y14 y15 y16 y17 y18 y19 y20 : Option Sl), (∀ x ∈ rest, ∃ p, x = .v (.ref p) ∧ M6 p = some (.lst (nine c n y tale))) ∧ M' = M6 ∧ dl = [some (.v (.ref b)), some (.d tale), some (.v (.ref p3)), some (.d (intD [0, 0, 0, 0, 1, 1, 2, 2, 2, 2, 2, 2, 2, 3])), some (.v (.ref q3)), none, some (.i n), some (.i y), x8, x9, x10, y11, y12, y13, y14, y15, y16, y17, y18, y19, y20, x21]) ?_ ?_ ⟨_, _, _, _, _, _, _, _, _, _, it, rfl, rfl⟩
      · rintro _ M' ⟨y11, y12, y13, y14, y15, y16, y17, y18, y19, y20, _, rfl, rfl⟩
        refine ⟨at7, ?_⟩
        walk_at "run"
        have mk : PySem.W.kitMeta "KeyError" = true := by decide +kernel
        have mi : PySem.W.kitMeta "IndexError" = true := by decide +kernel
        refine lc_m (madeE c n y tale) (fun p => Sl.e p.1 p.2) (fun _ => .b false) at9 (by simp [sizeLine_eq]) (fun q hq k1 k0 h1 => ?_) ?_
        · obtain ⟨zC, zk, zi⟩ := narrow XS q hq
          walk_at "run"
          rw [zk, zi]
          exact h1
        · refine e1 (datOf_bl (fun _ => false) _) ?_
          walk_at "run"
          refine ⟨.int 4, rfl, shw_of wds (by decide +kernel) (by decide), ?_⟩
          walk_at "run"
          exact upR.le k0 le7
      · rintro x xs nx _ M' hnx ⟨y11, y12, y13, y14, y15, y16, y17, y18, y19, y20, hx, rfl, rfl⟩
        obtain ⟨p, rfl, hp⟩ := hx x List.mem_cons_self
        refine ⟨at7, ?_⟩
        have z0 : ExC K (c "NoMark") := ⟨_, _, _, _, XS.x_NoMark⟩
        have w0 := XS.f_NoMark_mark
        have z1 : ExC K (c "BadText") := ⟨_, _, _, _, XS.x_BadText⟩
        have w1 := XS.f_BadText_line
        have z2 : ExC K (c "BadLine") := ⟨_, _, _, _, XS.x_BadLine⟩
        have w2 := XS.f_BadLine_line
        have z3 : ExC K (c "Impossible") := ⟨_, _, _, _, XS.x_Impossible⟩
        have w3 := XS.f_Impossible_paper
        have z4 : ExC K (c "NoTransaction") := ⟨_, _, _, _, XS.x_NoTransaction⟩
        have w4 := XS.f_NoTransaction_number
        have z5 : ExC K (c "NoRow") := ⟨_, _, _, _, XS.x_NoRow⟩
        have w5 := XS.f_NoRow_key
        have z6 : ExC K (c "Held") := ⟨_, _, _, _, XS.x_Held⟩
        have w6 := XS.f_Held_key
        have z7 : ExC K (c "Held") := ⟨_, _, _, _, XS.x_Held⟩
        have w7 := XS.f_Held_number
        have z8 : ExC K (c "NotBare") := ⟨_, _, _, _, XS.x_NotBare⟩
        have w8 := XS.f_NotBare_page
        have z9 : ExC K (c "TooFar") := ⟨_, _, _, _, XS.x_TooFar⟩
        have w9 := XS.f_TooFar_lsn
        walk_at "head"
        refine ⟨nineL c n y tale, lsOf_m hp, rfl, ?_⟩
        walk_at "run"
        refine ⟨.list [.int n, .int n, .int n, tale, .int n, .int y, .int y, .int n, .int n, .int y], rfl, its_shw n0 n1 y0 y1 t1 t2, ?_⟩
        walk_at "run"
        exact hnx _ _ ⟨_, _, _, _, _, _, _, _, _, _, fun x hx' => hx x (List.mem_cons_of_mem _ hx'), rfl, rfl⟩
    · rintro x xs nx _ M' hnx ⟨x8, x9, x10, x21, hx, rfl, rfl⟩
      obtain ⟨i, C, fs, rfl, hi, hC, hk, hs⟩ := hx x List.mem_cons_self
      refine ⟨at3, ?_⟩
      walk_at "head"
      apply gPe_go
      walk_at "run"
      have hbi := bases_at hi
      refine lc_m (List.range 4) (fun (k : Nat) => Sl.i (0 + (k : Int))) (fun k => .b (decide ((k : Int) = (([0, 0, 0, 0, 1, 1, 2, 2, 2, 2, 2, 2, 2, 3] : List Int).getD i 0)))) trivial (by decide) (fun q hq k1 k0 h1 => ?_) ?_
      · walk_at "run"
        rw [Int.zero_add]
        exact h1
      · refine e1 (datOf_bl _ _) ?_
        walk_at "run"
        refine lc_m (List.range 14) (fun (k : Nat) => Sl.i (0 + (k : Int))) (fun k => .b (decide ((k : Int) = (i : Int)))) trivial (by decide) (fun q hq k1 k0 h1 => ?_) ?_
        · rw [Int.zero_add]
          walk_at "run"
          exact h1
        · refine e1 (datOf_bl _ _) ?_
          walk_at "run"
          refine ⟨C, fs, rfl, hC, hk, ?_⟩
          walk_at "run"
          refine ⟨.list (dueD i), by rw [hs]; rfl, due_shw i, ?_⟩
          walk_at "run"
          exact hnx _ _ ⟨_, _, _, _, fun x hx' => hx x (List.mem_cons_of_mem _ hx'), rfl, rfl⟩
end
end LW

set_option Elab.async false
set_option linter.all false
set_option maxRecDepth 100000
set_option maxHeartbeats 4000000
namespace LW
open PySem PySem.Spec L2 DL
/-- what the walk asks of the whole program -/
structure ProgOk (P : Program) (file : Str) : Prop where
  file : P.main.file = file
  top : (P.main.scope.names.lookup ("super" : Str)).isSome = false
section
variable {P : Program} {w : World} {K : PySem.W.Frag} {mg : Str → Option Value} {base : Heap} {c : Str → Addr} {cc co : Addr} {file : Str}
theorem has_NoMark (T : Tx K mg) (PO : ProgOk P file) (st : statB K = true) (XS : Xs K mg c) (XC : XCls K mg file (c "NoMark") cc co "ValueError" "ValueError.__new__" "ValueError.__init__" bm_ValueError xd_NoMark) (H_tupled : Has P w K mg base 9 "tupled" s_tupled ["thing"] (cn_deep tpD 8)) : HasX P w K mg base 10 (c "NoMark") "NoMark" (nfX xd_NoMark cc co) ["self", "mark"] 1 (xOne "mark" gTup) := by
  obtain ⟨f, iC, tI, F⟩ := XC.f
  refine ⟨_, _, _, _, f, XC.v, XC.g, iC, tI, ?_⟩
  exact initX_b (k := 9) (me := "self") (p := "mark") (fl := "mark") (pl := _) (gg := gTup) (cn := cn_deep tpD 8) F (NdefX.nscope_by (N := ["self", "mark", "__class__"]) (ps := ["self", "mark"]) (fr := ["__class__"]) (sc := defScope s_NoMark___init__) (by decide +kernel)) (fun A outer s H E => XC.sup F PO.file PO.top T.z_super st (by rfl) (by rfl) (by rfl) (by rfl) (by rfl) A outer s H E) XC.v.toXC XC.s XS.f_NoMark_mark rfl (fun A outer s H E hgd hr => pd_fn H_tupled hgd hr (by rfl) (pda_cons (pd_var 1) pda_nil)) (fun d d' M R ⟨h1, h2, h3⟩ k => ⟨d, rfl, h1, h2, by rw [← h3]; exact k⟩) (by decide) (by decide) (by decide) (by decide) (fun _ => rfl) (fun _ => rfl) (fun _ => rfl) (fun _ => rfl) (fun _ => rfl)
theorem has_BadText (T : Tx K mg) (PO : ProgOk P file) (st : statB K = true) (XS : Xs K mg c) (XC : XCls K mg file (c "BadText") cc co "ValueError" "ValueError.__new__" "ValueError.__init__" bm_ValueError xd_BadText) : HasX P w K mg base 10 (c "BadText") "BadText" (nfX xd_BadText cc co) ["self", "line"] 1 (xOne "line" fun d d' => d' = d) := by
  obtain ⟨f, iC, tI, F⟩ := XC.f
  refine ⟨_, _, _, _, f, XC.v, XC.g, iC, tI, ?_⟩
  exact initX_a (k := 9) (me := "self") (p := "line") (fl := "line") (pl := _) F (NdefX.nscope_by (N := ["self", "line", "__class__"]) (ps := ["self", "line"]) (fr := ["__class__"]) (sc := defScope s_BadText___init__) (by decide +kernel)) (fun A outer s H E => XC.sup F PO.file PO.top T.z_super st (by rfl) (by rfl) (by rfl) (by rfl) (by rfl) A outer s H E) XC.v.toXC XC.s XS.f_BadText_line rfl (by decide) (by decide) (by decide) (by decide) (fun _ => rfl) (fun _ => rfl) (fun _ => rfl) (fun _ => rfl) (fun _ => rfl)
theorem has_BadLine (T : Tx K mg) (PO : ProgOk P file) (st : statB K = true) (XS : Xs K mg c) (XC : XCls K mg file (c "BadLine") cc co "ValueError" "ValueError.__new__" "ValueError.__init__" bm_ValueError xd_BadLine) : HasX P w K mg base 10 (c "BadLine") "BadLine" (nfX xd_BadLine cc co) ["self", "line"] 1 (xOne "line" fun d d' => d' = d) := by
  obtain ⟨f, iC, tI, F⟩ := XC.f
  refine ⟨_, _, _, _, f, XC.v, XC.g, iC, tI, ?_⟩
  exact initX_a (k := 9) (me := "self") (p := "line") (fl := "line") (pl := _) F (NdefX.nscope_by (N := ["self", "line", "__class__"]) (ps := ["self", "line"]) (fr := ["__class__"]) (sc := defScope s_BadLine___init__) (by decide +kernel)) (fun A outer s H E => XC.sup F PO.file PO.top T.z_super st (by rfl) (by rfl) (by rfl) (by rfl) (by rfl) A outer s H E) XC.v.toXC XC.s XS.f_BadLine_line rfl (by decide) (by decide) (by decide) (by decide) (fun _ => rfl) (fun _ => rfl) (fun _ => rfl) (fun _ => rfl) (fun _ => rfl)
theorem has_Impossible (T : Tx K mg) (PO : ProgOk P file) (st : statB K = true) (XS : Xs K mg c) (XC : XCls K mg file (c "Impossible") cc co "ValueError" "ValueError.__new__" "ValueError.__init__" bm_ValueError xd_Impossible) (H_tupled : Has P w K mg base 9 "tupled" s_tupled ["thing"] (cn_deep tpD 8)) : HasX P w K mg base 10 (c "Impossible") "Impossible" (nfX xd_Impossible cc co) ["self", "paper"] 1 (xOne "paper" gTup) := by
  obtain ⟨f, iC, tI, F⟩ := XC.f
  refine ⟨_, _, _, _, f, XC.v, XC.g, iC, tI, ?_⟩
  exact initX_b (k := 9) (me := "self") (p := "paper") (fl := "paper") (pl := _) (gg := gTup) (cn := cn_deep tpD 8) F (NdefX.nscope_by (N := ["self", "paper", "__class__"]) (ps := ["self", "paper"]) (fr := ["__class__"]) (sc := defScope s_Impossible___init__) (by decide +kernel)) (fun A outer s H E => XC.sup F PO.file PO.top T.z_super st (by rfl) (by rfl) (by rfl) (by rfl) (by rfl) A outer s H E) XC.v.toXC XC.s XS.f_Impossible_paper rfl (fun A outer s H E hgd hr => pd_fn H_tupled hgd hr (by rfl) (pda_cons (pd_var 1) pda_nil)) (fun d d' M R ⟨h1, h2, h3⟩ k => ⟨d, rfl, h1, h2, by rw [← h3]; exact k⟩) (by decide) (by decide) (by decide) (by decide) (fun _ => rfl) (fun _ => rfl) (fun _ => rfl) (fun _ => rfl) (fun _ => rfl)
theorem has_NoTransaction (T : Tx K mg) (PO : ProgOk P file) (st : statB K = true) (XS : Xs K mg c) (XC : XCls K mg file (c "NoTransaction") cc co "LookupError" "LookupError.__new__" "LookupError.__init__" bm_LookupError xd_NoTransaction) : HasX P w K mg base 10 (c "NoTransaction") "NoTransaction" (nfX xd_NoTransaction cc co) ["self", "number"] 1 (xOne "number" fun d d' => d' = d) := by
  obtain ⟨f, iC, tI, F⟩ := XC.f
  refine ⟨_, _, _, _, f, XC.v, XC.g, iC, tI, ?_⟩
  exact initX_a (k := 9) (me := "self") (p := "number") (fl := "number") (pl := _) F (NdefX.nscope_by (N := ["self", "number", "__class__"]) (ps := ["self", "number"]) (fr := ["__class__"]) (sc := defScope s_NoTransaction___init__) (by decide +kernel)) (fun A outer s H E => XC.sup F PO.file PO.top T.z_super st (by rfl) (by rfl) (by rfl) (by rfl) (by rfl) A outer s H E) XC.v.toXC XC.s XS.f_NoTransaction_number rfl (by decide) (by decide) (by decide) (by decide) (fun _ => rfl) (fun _ => rfl) (fun _ => rfl) (fun _ => rfl) (fun _ => rfl)
theorem has_NoRow (T : Tx K mg) (PO : ProgOk P file) (st : statB K = true) (XS : Xs K mg c) (XC : XCls K mg file (c "NoRow") cc co "LookupError" "LookupError.__new__" "LookupError.__init__" bm_LookupError xd_NoRow) : HasX P w K mg base 10 (c "NoRow") "NoRow" (nfX xd_NoRow cc co) ["self", "key"] 1 (xOne "key" fun d d' => d' = d) := by
  obtain ⟨f, iC, tI, F⟩ := XC.f
  refine ⟨_, _, _, _, f, XC.v, XC.g, iC, tI, ?_⟩
  exact initX_a (k := 9) (me := "self") (p := "key") (fl := "key") (pl := _) F (NdefX.nscope_by (N := ["self", "key", "__class__"]) (ps := ["self", "key"]) (fr := ["__class__"]) (sc := defScope s_NoRow___init__) (by decide +kernel)) (fun A outer s H E => XC.sup F PO.file PO.top T.z_super st (by rfl) (by rfl) (by rfl) (by rfl) (by rfl) A outer s H E) XC.v.toXC XC.s XS.f_NoRow_key rfl (by decide) (by decide) (by decide) (by decide) (fun _ => rfl) (fun _ => rfl) (fun _ => rfl) (fun _ => rfl) (fun _ => rfl)
theorem has_Held (T : Tx K mg) (PO : ProgOk P file) (st : statB K = true) (XS : Xs K mg c) (XC : XCls K mg file (c "Held") cc co "RuntimeError" "RuntimeError.__new__" "RuntimeError.__init__" bm_RuntimeError xd_Held) : HasX P w K mg base 10 (c "Held") "Held" (nfX xd_Held cc co) ["self", "key", "number"] 2 (xTwo "key" "number") := by
  obtain ⟨f, iC, tI, F⟩ := XC.f
  refine ⟨_, _, _, _, f, XC.v, XC.g, iC, tI, ?_⟩
  exact initX_c (k := 9) (me := "self") (p := "key") (p2 := "number") (fl := "key") (fl2 := "number") (pl := _) F (NdefX.nscope_by (N := ["self", "key", "number", "__class__"]) (ps := ["self", "key", "number"]) (fr := ["__class__"]) (sc := defScope s_Held___init__) (by decide +kernel)) (fun A outer s H E => XC.sup F PO.file PO.top T.z_super st (by rfl) (by rfl) (by rfl) (by rfl) (by rfl) A outer s H E) XC.v.toXC XC.s XS.f_Held_key XS.f_Held_number rfl (by decide) (by decide) (by decide) (by decide) (by decide) (by decide) (fun _ => rfl) (fun _ => rfl) (fun _ => rfl) (fun _ => rfl) (fun _ => rfl) (fun _ => rfl) (fun _ => rfl)
theorem has_NotBare (T : Tx K mg) (PO : ProgOk P file) (st : statB K = true) (XS : Xs K mg c) (XC : XCls K mg file (c "NotBare") cc co "RuntimeError" "RuntimeError.__new__" "RuntimeError.__init__" bm_RuntimeError xd_NotBare) : HasX P w K mg base 10 (c "NotBare") "NotBare" (nfX xd_NotBare cc co) ["self", "page"] 1 (xOne "page" fun d d' => d' = d) := by
  obtain ⟨f, iC, tI, F⟩ := XC.f
  refine ⟨_, _, _, _, f, XC.v, XC.g, iC, tI, ?_⟩
  exact initX_a (k := 9) (me := "self") (p := "page") (fl := "page") (pl := _) F (NdefX.nscope_by (N := ["self", "page", "__class__"]) (ps := ["self", "page"]) (fr := ["__class__"]) (sc := defScope s_NotBare___init__) (by decide +kernel)) (fun A outer s H E => XC.sup F PO.file PO.top T.z_super st (by rfl) (by rfl) (by rfl) (by rfl) (by rfl) A outer s H E) XC.v.toXC XC.s XS.f_NotBare_page rfl (by decide) (by decide) (by decide) (by decide) (fun _ => rfl) (fun _ => rfl) (fun _ => rfl) (fun _ => rfl) (fun _ => rfl)
theorem has_TooFar (T : Tx K mg) (PO : ProgOk P file) (st : statB K = true) (XS : Xs K mg c) (XC : XCls K mg file (c "TooFar") cc co "OverflowError" "OverflowError.__new__" "OverflowError.__init__" bm_OverflowError xd_TooFar) : HasX P w K mg base 10 (c "TooFar") "TooFar" (nfX xd_TooFar cc co) ["self", "lsn"] 1 (xOne "lsn" fun d d' => d' = d) := by
  obtain ⟨f, iC, tI, F⟩ := XC.f
  refine ⟨_, _, _, _, f, XC.v, XC.g, iC, tI, ?_⟩
  exact initX_a (k := 9) (me := "self") (p := "lsn") (fl := "lsn") (pl := _) F (NdefX.nscope_by (N := ["self", "lsn", "__class__"]) (ps := ["self", "lsn"]) (fr := ["__class__"]) (sc := defScope s_TooFar___init__) (by decide +kernel)) (fun A outer s H E => XC.sup F PO.file PO.top T.z_super st (by rfl) (by rfl) (by rfl) (by rfl) (by rfl) A outer s H E) XC.v.toXC XC.s XS.f_TooFar_lsn rfl (by decide) (by decide) (by decide) (by decide) (fun _ => rfl) (fun _ => rfl) (fun _ => rfl) (fun _ => rfl) (fun _ => rfl)
end
end LW

set_option Elab.async false
set_option linter.all false
set_option maxRecDepth 100000
set_option maxHeartbeats 4000000
namespace LW
open PySem PySem.Spec L2 DL
local macro_rules | `(tactic| walk_at "mem") => `(tactic| ((repeat rw [upM_ne (by assumption)]); first | exact upM_same | assumption))
local macro_rules | `(tactic| walk_at "look") => `(tactic| first | rfl | assumption | exact atI_map0 | exact atI_map1 | walk_at "mem" | (with_reducible apply lsOf_m; walk_at "mem") | (with_reducible apply sqOf_m; walk_at "mem") | (with_reducible apply rlOf_m; walk_at "mem") | (with_reducible apply sqOf'_m; walk_at "mem") | (with_reducible apply tru_l; walk_at "mem") | (with_reducible apply tru_d; walk_at "mem") | ((simp (discharger := assumption) only [sqOf, sqOf', rlOf, lsOf, tru, upM_same, upM_ne]) <;> rfl))
local macro_rules | `(tactic| walk_at "set") => `(tactic| (simp only [wipeD, List.set_cons_zero, List.set_cons_succ, List.set_nil]; rfl))
local macro_rules | `(tactic| walk_at "side") => `(tactic| first | omega | (simp only [List.length_map, List.length_cons, List.length_nil]; omega) | assumption | rfl | decide | exact ⟨by omega, by omega⟩ | exact Nat.le_of_ble_eq_true rfl)
local macro_rules | `(tactic| walk_at "head") => `(tactic| with_reducible conv => whnf)
local macro_rules | `(tactic| walk_at "step") => `(tactic| (walk_at "head"; first
  | ((with_reducible apply gN_go); (focus walk_at "set"))
  | ((with_reducible apply e1s); (focus rfl))
  | ((with_reducible apply e1); (focus walk_at "look"))
  | ((with_reducible apply e2); (focus walk_at "look"); (focus walk_at "look"))
  | ((with_reducible apply l1); (focus walk_at "look"))
  | ((with_reducible apply l2); (focus walk_at "look"); (focus walk_at "look"))
  | ((with_reducible apply e3); (focus walk_at "look"); (focus walk_at "look"); (focus walk_at "look"))
  | ((with_reducible apply e0a); (focus walk_at "look"))
  | ((with_reducible apply And.intro); (focus walk_at "side"))
  | ((with_reducible apply d1); (focus walk_at "look"))
  | ((with_reducible apply d2); (focus walk_at "look"); (focus walk_at "look"))
  | ((with_reducible apply d3); (focus walk_at "look"); (focus walk_at "look"); (focus walk_at "look"))
  | ((with_reducible apply d0); (focus walk_at "look"))
  | ((with_reducible apply lk1); (focus walk_at "look"))
  | with_reducible apply gw2_go
  | with_reducible apply gw3_go
  | with_reducible apply gs_go
  | with_reducible apply gt2_go
  | with_reducible apply gt3_go
  | with_reducible apply gt1_go
  | with_reducible apply gt4_go
  | with_reducible apply gt5_go
  | with_reducible apply gt6_go
  | with_reducible apply gt7_go
  | with_reducible apply gt8_go
  | with_reducible apply ift_go
  | with_reducible apply iff_go
  | ((with_reducible apply ifT_go); (focus rfl))
  | ((with_reducible apply ifF_go); (focus rfl))))
local macro_rules | `(tactic| walk_at "run") => `(tactic| (repeat walk_at "step"); walk_at "head")
local macro_rules | `(tactic| walk_at "start") => `(tactic| simp only [startD, List.map_cons, List.map_nil, List.length_cons, List.length_nil, List.replicate, List.cons_append, List.nil_append, Nat.reduceAdd, Nat.reduceSub, bodyK])
theorem lc_box {g : WG} {wt : WT} {we : WE} {dl : Env'} {R : List Sl → Mem → Prop} {items : List Sl} {M1 : Mem} {b : Addr} {B : Bx} (m c : Nat) (E : Sl → Prop) (hz : items.length ≤ sizeLine) (ok : Bx.Ok B (m + c * items.length))
    (h : ∀ x ∈ items, ∀ (B' : Bx) (m' : Nat) (nx : Sl → Mem → Prop) (k0 : Mem → Prop), Bx.Ok B' (m' + c) → (∀ y B2, E y → Bx.Ok B2 m' → nx y (upM M1 b B2.mo)) → g x dl (upM M1 b B'.mo) fun dl2 M2 => wt dl2 M2 fun k M3 => if k = true then we dl2 M3 nx else k0 M3)
    (hR : ∀ acc B', acc.length = items.length → (∀ y ∈ acc, E y) → Bx.Ok B' m → R acc (upM M1 b B'.mo)) : lcGo g wt we C0 dl R items [] (upM M1 b B.mo) := by
  refine lc_seq (fun i acc M' => i ≤ items.length ∧ ∃ B', M' = upM M1 b (Bx.mo B') ∧ Bx.Ok B' (m + c * (items.length - i)) ∧ ∀ y ∈ acc, E y) hz ⟨Nat.zero_le _, B, rfl, ok, fun y hy => by cases hy⟩ ?_ ?_
  · rintro i x acc M nx k0 hx ha ⟨hi, B', rfl, ok', hE⟩ hnx
    have hlt := (List.getElem?_eq_some_iff.mp hx).1
    refine ⟨trivial, h x (List.mem_of_getElem? hx) B' (m + c * (items.length - (i + 1))) nx k0 (ok'.mono ?_) fun y B2 hy ok2 => hnx y _ ⟨hlt, B2, rfl, ok2, fun z hz => ?_⟩⟩
    · have e : items.length - i = items.length - (i + 1) + 1 := by omega
      rw [e, Nat.mul_add]; omega
    · rcases List.mem_append.mp hz with q | q
      · exact hE z q
      · simp at q; subst q; exact hy
  · rintro acc M ha ⟨_, B', rfl, ok', hE⟩
    exact ⟨trivial, hR acc B' ha hE (ok'.mono (by omega))⟩
/-! ### what is grown -/
section
variable {P : Program} {w : World} {K : PySem.W.Frag} {mg : Str → Option Value} {base : Heap}
def cn_law : Cn := fun rs M R => ∃ ns : List Int, rs = [.r ns] ∧ R (.b true) M
theorem bls_true : ∀ {acc : List Sl}, (∀ y ∈ acc, y = .b true) → ∃ n, datOf acc = some ((List.replicate n true).map PyData.bool)
  | [], _ => ⟨0, rfl⟩
  | y :: r, h => by
    obtain ⟨n, e⟩ := bls_true (fun z hz => h z (List.mem_cons_of_mem _ hz))
    rw [h y List.mem_cons_self]
    exact ⟨n + 1, by simp only [datOf, e, Option.map_some]; rfl⟩
theorem ok_law (T : Tx K mg) (H__law_cells : Has P w K mg base 1 "_law_cells" s__law_cells ["_law_script", "_law_most"] cn_cells) (H__law_box : Has P w K mg base 1 "_law_box" s__law_box ["_law_script", "_law_k"] cn_box) (H__law_right : Has P w K mg base 12 "_law_right" s__law_right ["_law_box_here"] cn_right)
    {f : Addr} {fd : FuncData} (Fu : Fun K "law" "law" s_law f fd) : FnD P w K mg base 13 f fd ["_law_script"] cn_law := by
  refine fnD_of Fu sc_law (fun rs M R h => ?_) fun cdv A outer s H hgd hr => ⟨_, (pdb_cons (pds_set 1 sc_law.nd (pd_fn H__law_cells hgd (hr.mono (by first | decide | omega)) (by rfl) (pda_cons (pd_var 0) (pda_cons pd_int pda_nil))))
      (pdb_cons (pds_for PassesOwn.never rfl (pdi_range1 (by rfl) T.z_range (pda_cons (pd_callB c_len (by rfl) T.z_len (by decide +kernel) (pda_cons (pd_var 1) pda_nil)) pda_nil)) (pdg_name 2 sc_law.nd) (pdb_cons (pds_set 3 sc_law.nd (pd_fn H__law_box hgd (hr.mono (by first | decide | omega)) (by rfl) (pda_cons (pd_var 1) (pda_cons (pd_var 2) pda_nil))))
      (pdb_one (pds_if (pdt_not (pdt_tru (pd_callB (c_all rfl) (by rfl) T.z_all (by decide +kernel) (pda_cons (pd_lc (own := [("_law_turn", 4)]) rfl sc_law.nd (pdi_range1 (by rfl) T.z_range (pda_cons pd_int pda_nil)) (blkOk_by (N := N_law) (sc := defScope s_law) (by decide +kernel)) (fun _ _ _ _ _ => (pdgw_name 4 sc_law.nd)) (fun _ _ _ _ _ => pdts_nil) (fun _ _ _ _ _ => (pd_fn H__law_right hgd (hr.mono (by first | decide | omega)) (by rfl) (pda_cons (pd_var 3) pda_nil)))) pda_nil)))) (pdb_one (pds_ret pd_bl)) pdb_nil))))
      (pdb_one (pds_ret pd_bl)))), ?_⟩
  · obtain ⟨ns, rfl, _⟩ := h
    rfl
  · rintro rs M R ⟨ns, rfl, k⟩
    walk_at "start"
    walk_at "run"
    refine ⟨ns, _, rfl, by decide, by decide, fun cs c0 c1 => ?_⟩
    walk_at "run"
    refine for_ind (fun rest dl M' => ∃ (x2 x3 x4 : Option Sl), (∀ x ∈ rest, ∃ i : Int, x = .i i ∧ 0 ≤ i ∧ i < 100) ∧ Le M M' ∧ dl = [some (.r ns), some (.d (intD cs)), x2, x3, x4]) ?_ ?_ ⟨_, _, _, fun x hx => ?_, Le.refl M, rfl⟩
    · rintro _ M' ⟨_, _, _, _, le, rfl⟩
      refine ⟨trivial, ?_⟩
      walk_at "run"
      exact upR.le k le
    · rintro x xs nx _ M' hnx ⟨_, _, _, hx, le, rfl⟩
      obtain ⟨i, rfl, i0, i1⟩ := hx x List.mem_cons_self
      refine ⟨trivial, ?_⟩
      walk_at "run"
      refine ⟨cs, i, rfl, i0, i1, fun b B hb ok => ?_⟩
      walk_at "run"
      refine lc_box 0 3 (fun y => y = .b true) (by simp [rngS, sizeLine_eq]) (ok.mono (by simp [rngS])) (fun y hy B' m' nx2 k0 okx hnx2 => ?_) fun acc B2 hl hE ok2 => ?_
      · walk_at "run"
        refine ⟨b, B', m', rfl, upM_same, okx, fun B3 ok3 => ?_⟩
        rw [upM_upM]
        exact hnx2 _ B3 rfl ok3
      · obtain ⟨n, e⟩ := bls_true hE
        refine e1 e ?_
        walk_at "head"
        refine e2 rfl (blsOf_map _) ?_
        rw [show (List.replicate n true).all id = true by simp]
        walk_at "run"
        exact hnx _ _ ⟨_, _, _, fun y hy => hx y (List.mem_cons_of_mem _ hy), fun a o h => by rw [upM_ne (neM (le a o h) hb)]; exact le a o h, rfl⟩
    · unfold rngS at hx
      obtain ⟨i, hi, rfl⟩ := List.mem_map.mp hx
      have := List.mem_range.mp hi
      simp at this
      exact ⟨_, rfl, by omega, by omega⟩
end
end LW

set_option Elab.async false
set_option linter.all false
set_option maxRecDepth 100000
set_option maxHeartbeats 4000000
namespace LW
open PySem PySem.Spec L2 DL
def excB (x : Str) (bm : List Value) (n : String) (K : PySem.W.Frag) : Bool := PySem.W.excIn K (He.ga K x) bm n
def ndB (K : PySem.W.Frag) : Bool := decide (([("NoMark" : Str), ("BadText" : Str), ("BadLine" : Str), ("Impossible" : Str), ("NoTransaction" : Str), ("NoRow" : Str), ("Held" : Str), ("NotBare" : Str), ("Busy" : Str), ("Idle" : Str), ("Down" : Str), ("Up" : Str), ("NoCheck" : Str), ("TooFar" : Str)].map fun x => He.ga K x).Nodup)
theorem tst_x {fs : List Ft} {fn : List He.DefD} {K : PySem.W.Frag} (c : SaysX fs fn K) (i : Nat) {t : PySem.W.Frag → Bool} (h : fs[i]? = some (.tst t) := by rfl) : t K = true := c.fact i h
theorem nofld_x {fs : List Ft} {fn : List He.DefD} {K : PySem.W.Frag} {C f : Str} (c : SaysX fs fn K) (i : Nat) (h : fs[i]? = some (.fa (.noat C f)) := by rfl) : PySem.W.findIn K (.ref (He.ga K C)) f = some none := by
  have q : He.eqO (PySem.W.findIn K (.ref (He.ga K C)) f) (some none) = true := c.fact i h
  exact He.eqO_ok q
theorem asm {P : Program} {w : World} {K : PySem.W.Frag} {mg : Str → Option Value} {fa : Addr} {c : Str → Addr} {file : Str} (hfa : mg "law" = some (.ref fa)) (T : Tx K mg) (PO : ProgOk P file) (st : statB K = true) (XS : Xs K mg c) (XC_NoMark : ∃ cc co, XCls K mg file (c "NoMark") cc co "ValueError" "ValueError.__new__" "ValueError.__init__" bm_ValueError xd_NoMark) (XC_BadText : ∃ cc co, XCls K mg file (c "BadText") cc co "ValueError" "ValueError.__new__" "ValueError.__init__" bm_ValueError xd_BadText) (XC_BadLine : ∃ cc co, XCls K mg file (c "BadLine") cc co "ValueError" "ValueError.__new__" "ValueError.__init__" bm_ValueError xd_BadLine) (XC_Impossible : ∃ cc co, XCls K mg file (c "Impossible") cc co "ValueError" "ValueError.__new__" "ValueError.__init__" bm_ValueError xd_Impossible) (XC_NoTransaction : ∃ cc co, XCls K mg file (c "NoTransaction") cc co "LookupError" "LookupError.__new__" "LookupError.__init__" bm_LookupError xd_NoTransaction) (XC_NoRow : ∃ cc co, XCls K mg file (c "NoRow") cc co "LookupError" "LookupError.__new__" "LookupError.__init__" bm_LookupError xd_NoRow) (XC_Held : ∃ cc co, XCls K mg file (c "Held") cc co "RuntimeError" "RuntimeError.__new__" "RuntimeError.__init__" bm_RuntimeError xd_Held) (XC_NotBare : ∃ cc co, XCls K mg file (c "NotBare") cc co "RuntimeError" "RuntimeError.__new__" "RuntimeError.__init__" bm_RuntimeError xd_NotBare) (XC_TooFar : ∃ cc co, XCls K mg file (c "TooFar") cc co "OverflowError" "OverflowError.__new__" "OverflowError.__init__" bm_OverflowError xd_TooFar)  (d_tupled : DefAt K mg "tupled" s_tupled) (d__law_box : DefAt K mg "_law_box" s__law_box) (d__law_take : DefAt K mg "_law_take" s__law_take) (d__law_cells : DefAt K mg "_law_cells" s__law_cells) (d__law_of : DefAt K mg "_law_of" s__law_of) (d__law_same : DefAt K mg "_law_same" s__law_same) (d__law_lists : DefAt K mg "_law_lists" s__law_lists) (d__law_sorts : DefAt K mg "_law_sorts" s__law_sorts) (d__law_right : DefAt K mg "_law_right" s__law_right) (d_law : DefAt K mg "law" s_law) :
    ∃ fd : FuncData, (∀ (s : Shared) (u : Value), BindsTo s fd ⟨[u], []⟩ [("_law_script", u)]) ∧ ∀ base : Heap, FnD P w K mg base 13 fa fd ["_law_script"] cn_law := by
  obtain ⟨cc_NoMark, co_NoMark, XC_NoMark⟩ := XC_NoMark
  obtain ⟨cc_BadText, co_BadText, XC_BadText⟩ := XC_BadText
  obtain ⟨cc_BadLine, co_BadLine, XC_BadLine⟩ := XC_BadLine
  obtain ⟨cc_Impossible, co_Impossible, XC_Impossible⟩ := XC_Impossible
  obtain ⟨cc_NoTransaction, co_NoTransaction, XC_NoTransaction⟩ := XC_NoTransaction
  obtain ⟨cc_NoRow, co_NoRow, XC_NoRow⟩ := XC_NoRow
  obtain ⟨cc_Held, co_Held, XC_Held⟩ := XC_Held
  obtain ⟨cc_NotBare, co_NotBare, XC_NotBare⟩ := XC_NotBare
  obtain ⟨cc_TooFar, co_TooFar, XC_TooFar⟩ := XC_TooFar
  obtain ⟨_, _, m_tupled, F_tupled⟩ := d_tupled
  obtain ⟨_, _, m__law_box, F__law_box⟩ := d__law_box
  obtain ⟨_, _, m__law_take, F__law_take⟩ := d__law_take
  obtain ⟨_, _, m__law_cells, F__law_cells⟩ := d__law_cells
  obtain ⟨_, _, m__law_of, F__law_of⟩ := d__law_of
  obtain ⟨_, _, m__law_same, F__law_same⟩ := d__law_same
  obtain ⟨_, _, m__law_lists, F__law_lists⟩ := d__law_lists
  obtain ⟨_, _, m__law_sorts, F__law_sorts⟩ := d__law_sorts
  obtain ⟨_, _, m__law_right, F__law_right⟩ := d__law_right
  obtain ⟨_, fd, m_law, F_law⟩ := d_law
  cases hfa.symm.trans m_law
  refine ⟨fd, fun s u => ?_, fun base => ?_⟩
  · obtain ⟨oc, od, kV, doc, pm, an, cdv, ct, osl, rfl, lk, hcd⟩ := F_law.ex
    exact .of_eq rfl
  have h__law_take := Has.of (P := P) (w := w) (base := base) m__law_take F__law_take hb__law_take (ok_take T F__law_take)
  have h__law_box := Has.of (P := P) (w := w) (base := base) m__law_box F__law_box hb__law_box (ok_box T F__law_box)
  have h__law_of := Has.of (P := P) (w := w) (base := base) m__law_of F__law_of hb__law_of (ok_of T h__law_take F__law_of)
  have h__law_same := Has.of (P := P) (w := w) (base := base) m__law_same F__law_same hb__law_same (ok_same T F__law_same)
  have h__law_cells := Has.of (P := P) (w := w) (base := base) m__law_cells F__law_cells hb__law_cells (ok_cells T F__law_cells)
  have h_tupled := Has.of (P := P) (w := w) (base := base) m_tupled F_tupled hb_tupled (ok_tupled T m_tupled F_tupled 8)
  have h__law_lists := Has.of (P := P) (w := w) (base := base) m__law_lists F__law_lists hb__law_lists (ok_lists T m__law_lists F__law_lists 8)
  have h__law_sorts := Has.of (P := P) (w := w) (base := base) m__law_sorts F__law_sorts hb__law_sorts (ok_sorts T XS F__law_sorts)
  have h_NoMark := has_NoMark (w := w) (base := base) T PO st XS XC_NoMark h_tupled
  have h_BadText := has_BadText (w := w) (base := base) T PO st XS XC_BadText
  have h_BadLine := has_BadLine (w := w) (base := base) T PO st XS XC_BadLine
  have h_Impossible := has_Impossible (w := w) (base := base) T PO st XS XC_Impossible h_tupled
  have h_NoTransaction := has_NoTransaction (w := w) (base := base) T PO st XS XC_NoTransaction
  have h_NoRow := has_NoRow (w := w) (base := base) T PO st XS XC_NoRow
  have h_Held := has_Held (w := w) (base := base) T PO st XS XC_Held
  have h_NotBare := has_NotBare (w := w) (base := base) T PO st XS XC_NotBare
  have h_TooFar := has_TooFar (w := w) (base := base) T PO st XS XC_TooFar
  have h__law_right := Has.of (P := P) (w := w) (base := base) m__law_right F__law_right hb__law_right (ok_right T XS h_NoMark h_BadText h_BadLine h_Impossible h_NoTransaction h_NoRow h_Held h_NotBare h_TooFar h__law_take h__law_of h__law_same h__law_sorts h__law_lists F__law_right)
  exact ok_law T h__law_cells h__law_box h__law_right F_law
def hfs0 : List Ft := [.fa (.free "IndexError"), .fa (.free "KeyError"), .fa (.free "LookupError"), .fa (.free "OverflowError"), .fa (.free "RuntimeError"), .fa (.free "ValueError"), .fa (.free "abs"), .fa (.free "all"), .fa (.free "any"), .fa (.free "enumerate"), .fa (.free "int"), .fa (.free "isinstance"), .fa (.free "len"), .fa (.free "list"), .fa (.free "range"), .fa (.free "repr"), .fa (.free "super"), .fa (.free "tuple"), .fa (.int "FULL" 4), .fa (.glo "tupled"), .fa (.glo "_law_box"), .fa (.glo "_law_take"), .fa (.glo "_law_cells"), .fa (.glo "_law_of"), .fa (.glo "_law_same"), .fa (.glo "_law_lists"), .fa (.glo "_law_sorts"), .fa (.glo "_law_right"), .fa (.glo "law"), .fa (.glo "NoMark")]
def hfs1 : List Ft := [.tst (xvB "NoMark" "ValueError" "ValueError.__new__" bm_ValueError), .fa (.meth "NoMark" "__init__"), .fa (.noat "NoMark" "mark"), .fa (.glo "BadText"), .tst (xvB "BadText" "ValueError" "ValueError.__new__" bm_ValueError), .fa (.meth "BadText" "__init__"), .fa (.noat "BadText" "line"), .fa (.glo "BadLine"), .tst (xvB "BadLine" "ValueError" "ValueError.__new__" bm_ValueError), .fa (.meth "BadLine" "__init__"), .fa (.noat "BadLine" "line"), .fa (.glo "Impossible"), .tst (xvB "Impossible" "ValueError" "ValueError.__new__" bm_ValueError), .fa (.meth "Impossible" "__init__"), .fa (.noat "Impossible" "paper"), .fa (.glo "NoTransaction"), .tst (xvB "NoTransaction" "LookupError" "LookupError.__new__" bm_LookupError), .fa (.meth "NoTransaction" "__init__"), .fa (.noat "NoTransaction" "number"), .fa (.glo "NoRow"), .tst (xvB "NoRow" "LookupError" "LookupError.__new__" bm_LookupError), .fa (.meth "NoRow" "__init__"), .fa (.noat "NoRow" "key"), .fa (.glo "Held"), .tst (xvB "Held" "RuntimeError" "RuntimeError.__new__" bm_RuntimeError), .fa (.meth "Held" "__init__"), .fa (.noat "Held" "key"), .fa (.noat "Held" "number"), .fa (.glo "NotBare"), .tst (xvB "NotBare" "RuntimeError" "RuntimeError.__new__" bm_RuntimeError)]
def hfs2 : List Ft := [.fa (.meth "NotBare" "__init__"), .fa (.noat "NotBare" "page"), .fa (.glo "Busy"), .tst (xvB "Busy" "RuntimeError" "RuntimeError.__new__" bm_RuntimeError), .tst (excB "Busy" bm_RuntimeError "RuntimeError.__new__"), .fa (.glo "Idle"), .tst (xvB "Idle" "RuntimeError" "RuntimeError.__new__" bm_RuntimeError), .tst (excB "Idle" bm_RuntimeError "RuntimeError.__new__"), .fa (.glo "Down"), .tst (xvB "Down" "RuntimeError" "RuntimeError.__new__" bm_RuntimeError), .tst (excB "Down" bm_RuntimeError "RuntimeError.__new__"), .fa (.glo "Up"), .tst (xvB "Up" "RuntimeError" "RuntimeError.__new__" bm_RuntimeError), .tst (excB "Up" bm_RuntimeError "RuntimeError.__new__"), .fa (.glo "NoCheck"), .tst (xvB "NoCheck" "RuntimeError" "RuntimeError.__new__" bm_RuntimeError), .tst (excB "NoCheck" bm_RuntimeError "RuntimeError.__new__"), .fa (.glo "TooFar"), .tst (xvB "TooFar" "OverflowError" "OverflowError.__new__" bm_OverflowError), .fa (.meth "TooFar" "__init__"), .fa (.noat "TooFar" "lsn"), .tst ndB, .tst statB]
def hfs : List Ft := hfs0 ++ hfs1 ++ hfs2
def hfn0 : List He.DefD := [dF "tupled" s_tupled, dF "_law_box" s__law_box, dF "_law_take" s__law_take, dF "_law_cells" s__law_cells, dF "_law_of" s__law_of, dF "_law_same" s__law_same, dF "_law_lists" s__law_lists, dF "_law_sorts" s__law_sorts, dF "_law_right" s__law_right, dF "law" s_law]
def hfn : List He.DefD := hfn0
def hloose0 : List Str := ["FULL", "tupled", "NoMark", "BadText", "BadLine", "Impossible", "NoTransaction", "NoRow", "Held", "NotBare", "Busy", "Idle", "Down", "Up", "NoCheck", "TooFar", "_law_box", "_law_take", "_law_cells", "_law_of", "_law_same", "_law_lists", "_law_sorts", "_law_right"]
def hloose : List Str := hloose0
def hxn : List XDef := [xd_NoMark, xd_BadText, xd_BadLine, xd_Impossible, xd_NoTransaction, xd_NoRow, xd_Held, xd_NotBare, xd_TooFar]
abbrev hfile : Str := PG.main.file
abbrev RO : PySem.W.OpenRow := PySem.W.OpenLaw.row PySem.Challenge.rw_splitstays_k08_errors
abbrev hk : PySem.W.Hook := hookY 5 hfs hfn hfile hxn
def ob (s : PySem.W.SharedT) : AlX := obsYG 5 hfs hfn hfile hxn (HandSHeadRun.getT s)
theorem ob_eq (s : PySem.W.SharedT) : ob s = hk.obs s.abs := obsYG_eq (HandSHeadRun.getT_eq s)
theorem run (w : World) : HandSHeadRun.RunEq RO (PySem.W.view RO.prog [27]) hk ob 100000 hloose w := by
  intro os
  kernel_rfl
theorem facts {P : Program} {w : World} {K : PySem.W.Frag} {h : Heap} {mg : Str → Option Value} {fa : Addr} (PO : ProgOk P hfile) (X : K.In h) (G : h.Ns mainGlobals mg) (hfa : mg ("law" : Str) = some (.ref fa)) (cy : SaysY hfs hfn hfile hxn K) :
    ∃ fd : FuncData, (∀ (s : Shared) (u : Value), BindsTo s fd ⟨[u], []⟩ [("_law_script", u)]) ∧ ∀ base : Heap, FnD P w K mg base 13 fa fd ["_law_script"] cn_law := by
  have c := cy.toX
  have XS : Xs K mg (fun x => He.ga K x) := { g_NoMark := glo_x X G c 29, x_NoMark := (xvB_ok xb_ValueError (tst_x c 30 (t := xvB "NoMark" "ValueError" "ValueError.__new__" bm_ValueError))).1, f_NoMark_mark := nofld_x c 32, g_BadText := glo_x X G c 33, x_BadText := (xvB_ok xb_ValueError (tst_x c 34 (t := xvB "BadText" "ValueError" "ValueError.__new__" bm_ValueError))).1, f_BadText_line := nofld_x c 36, g_BadLine := glo_x X G c 37, x_BadLine := (xvB_ok xb_ValueError (tst_x c 38 (t := xvB "BadLine" "ValueError" "ValueError.__new__" bm_ValueError))).1, f_BadLine_line := nofld_x c 40, g_Impossible := glo_x X G c 41, x_Impossible := (xvB_ok xb_ValueError (tst_x c 42 (t := xvB "Impossible" "ValueError" "ValueError.__new__" bm_ValueError))).1, f_Impossible_paper := nofld_x c 44, g_NoTransaction := glo_x X G c 45, x_NoTransaction := (xvB_ok xb_LookupError (tst_x c 46 (t := xvB "NoTransaction" "LookupError" "LookupError.__new__" bm_LookupError))).1, f_NoTransaction_number := nofld_x c 48, g_NoRow := glo_x X G c 49, x_NoRow := (xvB_ok xb_LookupError (tst_x c 50 (t := xvB "NoRow" "LookupError" "LookupError.__new__" bm_LookupError))).1, f_NoRow_key := nofld_x c 52, g_Held := glo_x X G c 53, x_Held := (xvB_ok xb_RuntimeError (tst_x c 54 (t := xvB "Held" "RuntimeError" "RuntimeError.__new__" bm_RuntimeError))).1, f_Held_key := nofld_x c 56, f_Held_number := nofld_x c 57, g_NotBare := glo_x X G c 58, x_NotBare := (xvB_ok xb_RuntimeError (tst_x c 59 (t := xvB "NotBare" "RuntimeError" "RuntimeError.__new__" bm_RuntimeError))).1, f_NotBare_page := nofld_x c 61, g_Busy := glo_x X G c 62, x_Busy := (xvB_ok xb_RuntimeError (tst_x c 63 (t := xvB "Busy" "RuntimeError" "RuntimeError.__new__" bm_RuntimeError))).1, h_Busy := ⟨⟨_, _, _, _, (xvB_ok xb_RuntimeError (tst_x c 63 (t := xvB "Busy" "RuntimeError" "RuntimeError.__new__" bm_RuntimeError))).1, glo_x X G c 62, tst_x c 64 (t := excB "Busy" bm_RuntimeError "RuntimeError.__new__")⟩⟩, g_Idle := glo_x X G c 65, x_Idle := (xvB_ok xb_RuntimeError (tst_x c 66 (t := xvB "Idle" "RuntimeError" "RuntimeError.__new__" bm_RuntimeError))).1, h_Idle := ⟨⟨_, _, _, _, (xvB_ok xb_RuntimeError (tst_x c 66 (t := xvB "Idle" "RuntimeError" "RuntimeError.__new__" bm_RuntimeError))).1, glo_x X G c 65, tst_x c 67 (t := excB "Idle" bm_RuntimeError "RuntimeError.__new__")⟩⟩, g_Down := glo_x X G c 68, x_Down := (xvB_ok xb_RuntimeError (tst_x c 69 (t := xvB "Down" "RuntimeError" "RuntimeError.__new__" bm_RuntimeError))).1, h_Down := ⟨⟨_, _, _, _, (xvB_ok xb_RuntimeError (tst_x c 69 (t := xvB "Down" "RuntimeError" "RuntimeError.__new__" bm_RuntimeError))).1, glo_x X G c 68, tst_x c 70 (t := excB "Down" bm_RuntimeError "RuntimeError.__new__")⟩⟩, g_Up := glo_x X G c 71, x_Up := (xvB_ok xb_RuntimeError (tst_x c 72 (t := xvB "Up" "RuntimeError" "RuntimeError.__new__" bm_RuntimeError))).1, h_Up := ⟨⟨_, _, _, _, (xvB_ok xb_RuntimeError (tst_x c 72 (t := xvB "Up" "RuntimeError" "RuntimeError.__new__" bm_RuntimeError))).1, glo_x X G c 71, tst_x c 73 (t := excB "Up" bm_RuntimeError "RuntimeError.__new__")⟩⟩, g_NoCheck := glo_x X G c 74, x_NoCheck := (xvB_ok xb_RuntimeError (tst_x c 75 (t := xvB "NoCheck" "RuntimeError" "RuntimeError.__new__" bm_RuntimeError))).1, h_NoCheck := ⟨⟨_, _, _, _, (xvB_ok xb_RuntimeError (tst_x c 75 (t := xvB "NoCheck" "RuntimeError" "RuntimeError.__new__" bm_RuntimeError))).1, glo_x X G c 74, tst_x c 76 (t := excB "NoCheck" bm_RuntimeError "RuntimeError.__new__")⟩⟩, g_TooFar := glo_x X G c 77, x_TooFar := (xvB_ok xb_OverflowError (tst_x c 78 (t := xvB "TooFar" "OverflowError" "OverflowError.__new__" bm_OverflowError))).1, f_TooFar_lsn := nofld_x c 80, nd := of_decide_eq_true (tst_x c 81 (t := ndB)) }
  exact asm hfa ⟨(free_x X G c 0), (free_x X G c 1), (free_x X G c 2), (free_x X G c 3), (free_x X G c 4), (free_x X G c 5), (free_x X G c 6), (free_x X G c 7), (free_x X G c 8), (free_x X G c 9), (free_x X G c 10), (free_x X G c 11), (free_x X G c 12), (free_x X G c 13), (free_x X G c 14), (free_x X G c 15), (free_x X G c 16), (free_x X G c 17), (int_x X G c 18)⟩ PO (tst_x c 82 (t := statB)) XS (xcls_x (d := xd_NoMark) X G cy xb_ValueError 29 30 31 0) (xcls_x (d := xd_BadText) X G cy xb_ValueError 33 34 35 1) (xcls_x (d := xd_BadLine) X G cy xb_ValueError 37 38 39 2) (xcls_x (d := xd_Impossible) X G cy xb_ValueError 41 42 43 3) (xcls_x (d := xd_NoTransaction) X G cy xb_LookupError 45 46 47 4) (xcls_x (d := xd_NoRow) X G cy xb_LookupError 49 50 51 5) (xcls_x (d := xd_Held) X G cy xb_RuntimeError 53 54 55 6) (xcls_x (d := xd_NotBare) X G cy xb_RuntimeError 58 59 60 7) (xcls_x (d := xd_TooFar) X G cy xb_OverflowError 77 78 79 8) (defAt_x X G c 19 0) (defAt_x X G c 20 1) (defAt_x X G c 21 2) (defAt_x X G c 22 3) (defAt_x X G c 23 4) (defAt_x X G c 24 5) (defAt_x X G c 25 6) (defAt_x X G c 26 7) (defAt_x X G c 27 8) (defAt_x X G c 28 9)
end LW
open PySem PySem.W PySem.Calls PyProof.Rows
set_option maxHeartbeats 0 in
theorem PySem.Challenge.cw_splitstays_k08_errors_holds : PySem.Challenge.rw_splitstays_k08_errors.Holds := by
  w_on; o_law
  refine HandSHeadRun.head_any (r := OpenLaw.row PySem.Challenge.rw_splitstays_k08_errors) (q := view (OpenLaw.row PySem.Challenge.rw_splitstays_k08_errors).prog [27]) (H := LW.hk) (ob := LW.ob) (M := 100000) (loose := LW.hloose) (d := HandSHeadRun.topDef (OpenLaw.row PySem.Challenge.rw_splitstays_k08_errors).prog 27) (kwd := []) LW.ob_eq
    (by kernel_rfl) (fun s => by kernel_rfl) LW.run (by kernel_rfl) (by kernel_rfl) (by kernel_rfl) (by rfl) (by first | assumption | decide +kernel) (by decide +kernel) ⟨rfl, rfl, rfl, rfl, rfl, by decide +kernel⟩ ?hw ?hc
  case hw => w_witness2
  case hc =>
    refine DL.law_endE (l := PySem.Challenge.rw_splitstays_k08_errors) (n := 63) (lv := 13) (x := "_law_script") (cn := LW.cn_law) rfl (by decide) (by kernel_rfl) ⟨rfl, by decide, by decide⟩ ?F fun ns _ => ⟨ns, rfl, rfl⟩
    intro w mg fa h Y G hmg0
    obtain ⟨K, KX, c⟩ := Y
    have hmg : mg ("law" : PySem.Str) = some (.ref fa) := by
      have e : (HandSHeadRun.topDef (OpenLaw.row PySem.Challenge.rw_splitstays_k08_errors).prog 27).name = ("law" : PySem.Str) := by kernel_rfl
      rw [← e]
      exact hmg0
    exact ⟨K, KX, LW.facts ⟨by kernel_rfl, by kernel_rfl⟩ KX G hmg c⟩
