import PyProof.Rows.All
import Wide.All
import OpenK.AllK
import Wide.FinOn
import HandS.ForMost
import HandS.Evl
import HandS.Flow
import HandS.IsInst
import HandS.Wide
import HandS.TupAny
import PyProof.ReprRoads
import HandS.Zip
import PyProof.FitsInt
import HandS.SetFor
import HandS.Strs
import HandS.More
import KE.KDictPairs
import KE.KDictZip
import HandS.Conv
import HandS.SortRule
import PyProof.CollectIter
import HandS.Ends
import HandS.Style
import HandS.SortInts
import HandS.Iter
import HandS.DictComp
import KE.GoesEnumKw
import PyProof.Rows.CallKwBuiltin
import HandS.Star
import HandS.TryOnly
import KE.GoesZip
import KE.GoesMore
import PyProof.EnumMake
import HandS.Text
import HandS.TupLe
import HandS.Comp
import HandS.List
import HandS.WordsDict
import HandS.Defaults
import HandS.SetKeys
import HandS.ListItems
import HandS.SortOrd
import HandS.Keys
import KE.GoesEnum
import HandS.Head0
import HandS.Head1
import HandS.Head2
import HandS.HeadHook1
import HandS.HeadHook2
import PySem.Challenge.RW_splitstays_k09_known_logs
set_option Elab.async false
set_option linter.all false
set_option maxRecDepth 100000
set_option maxHeartbeats 4000000
/-! DA: data and memory over the hand layer: what a value is (Sl), what may change (Mem), the readings by data. -/
namespace DL
open PySem L2
open Evl (Ex)

/-- what is known of a value: a datum that never changes, or the value itself -/
inductive Sl where
  | d (x : PyData)
  | v (u : V)
  | r (ns : List Int)
  | w (ds : List PyData)
abbrev Sl.i (n : Int) : Sl := .d (.int n)
abbrev Sl.b (n : Bool) : Sl := .d (.bool n)
abbrev Sl.s (n : Str) : Sl := .d (.str n)
abbrev Sl.n : Sl := .d .none

/-- a tuple, a plain object -/
def TqT (K : PySem.W.Frag) (F : Hp) (a : Addr) (vs : List V) : Prop := (∃ o, F a = some (.frz o (.tup vs)) ∧ o.dict = none) ∨
  ∃ (o : Obj) (ws : Array Value) (n : Nat), K.lookup a = some o ∧ o.cls = .type "tuple" ∧ o.data = .seq ws n ∧ ws.size ≤ sizeLine ∧ Vals vs ws.toList ∧ o.dict = none
theorem TqT.sq {K : PySem.W.Frag} {F : Hp} {a : Addr} {vs : List V} (h : TqT K F a vs) : SqT K F a vs := by
  rcases h with ⟨o, q, _⟩ | ⟨o, ws, n, a1, a2, a3, a4, a5, _⟩
  · exact .inl (.inr ⟨o, q⟩)
  · exact .inr ⟨o, ws, n, a1, a2, a3, a4, a5⟩
theorem TqT.mono {K : PySem.W.Frag} {F F' : Hp} (e : Ex F F') {a : Addr} {vs : List V} (h : TqT K F a vs) : TqT K F' a vs := by
  rcases h with ⟨o, q, z⟩ | q
  · exact .inl ⟨o, e _ _ q, z⟩
  · exact .inr q
mutual
/-- the value v is the datum d, all of whose lists stand in F -/
inductive Dq (K : PySem.W.Frag) (F : Hp) : V → PyData → Prop
  | non : Dq K F .non .none
  | bl (b : Bool) : Dq K F (.bl b) (.bool b)
  | int (i : Int) : Dq K F (.int i) (.int i)
  | str (x : Str) : Dq K F (.str x) (.str x)
  | lst {a : Addr} {vs : List V} {ds : List PyData} : F a = some (.lst vs) → DqAll K F vs ds → Dq K F (.ref a) (.list ds)
  | tup {a : Addr} {vs : List V} {ds : List PyData} : TqT K F a vs → DqAll K F vs ds → Dq K F (.ref a) (.tuple ds)
inductive DqAll (K : PySem.W.Frag) (F : Hp) : List V → List PyData → Prop
  | nil : DqAll K F [] []
  | cons {v : V} {vs : List V} {d : PyData} {ds : List PyData} : Dq K F v d → DqAll K F vs ds → DqAll K F (v :: vs) (d :: ds)
end
mutual
theorem dq_dp {K : PySem.W.Frag} {F : Hp} : ∀ {d : PyData} {v : V}, Dq K F v d → Dp K F v d
  | _, _, .non => .non
  | _, _, .bl b => .bl b
  | _, _, .int i => .int i
  | _, _, .str x => .str x
  | _, _, .lst h1 h2 => .lst (SqL.of h1) (dqAll_dp h2)
  | _, _, .tup h1 h2 => .tup h1.sq (dqAll_dp h2)
theorem dqAll_dp {K : PySem.W.Frag} {F : Hp} : ∀ {ds : List PyData} {vs : List V}, DqAll K F vs ds → DpAll K F vs ds
  | _, _, .nil => .nil
  | _, _, .cons h1 h2 => .cons (dq_dp h1) (dqAll_dp h2)
end
mutual
theorem dq_mono {K : PySem.W.Frag} {F F' : Hp} (e : Ex F F') : ∀ {d : PyData} {v : V}, Dq K F v d → Dq K F' v d
  | _, _, .non => .non
  | _, _, .bl b => .bl b
  | _, _, .int i => .int i
  | _, _, .str x => .str x
  | _, _, .lst h1 h2 => .lst (e _ _ h1) (dqAll_mono e h2)
  | _, _, .tup h1 h2 => .tup (h1.mono e) (dqAll_mono e h2)
theorem dqAll_mono {K : PySem.W.Frag} {F F' : Hp} (e : Ex F F') : ∀ {ds : List PyData} {vs : List V}, DqAll K F vs ds → DqAll K F' vs ds
  | _, _, .nil => .nil
  | _, _, .cons h1 h2 => .cons (dq_mono e h1) (dqAll_mono e h2)
end

def Is (K : PySem.W.Frag) (F : Hp) : Sl → V → Prop
  | .d x, u => Dq K F u x
  | .v w, u => u = w
  | .r ns, u => ∃ a, u = .ref a ∧ SqL K F a (ns.map V.int)
  | .w ds, u => ∃ a vs, u = .ref a ∧ SqT K F a vs ∧ DqAll K F vs ds

theorem ex_l {K : PySem.W.Frag} {F F' : Hp} (e : Ex F F') {a : Addr} {xs : List V} (h : SqL K F a xs) : SqL K F' a xs := by
  rcases h with (q | ⟨o, q⟩) | q
  · exact .inl (.inl (e _ _ q))
  · exact .inl (.inr ⟨o, e _ _ q⟩)
  · exact .inr q
theorem is_mono {K : PySem.W.Frag} {F F' : Hp} (e : Ex F F') : ∀ {r : Sl} {v : V}, Is K F r v → Is K F' r v
  | .d _, _, h => dq_mono e h
  | .v _, _, h => h
  | .r _, _, ⟨a, h1, h2⟩ => ⟨a, h1, ex_l e h2⟩
  | .w _, _, ⟨a, vs, h1, h2, h3⟩ => ⟨a, vs, h1, Evl.ex_t e h2, dqAll_mono e h3⟩

/-- both lists go together -/
inductive All2 {A B : Type} (R : A → B → Prop) : List A → List B → Prop
  | nil : All2 R [] []
  | cons {a : A} {b : B} {as : List A} {bs : List B} : R a b → All2 R as bs → All2 R (a :: as) (b :: bs)
section
variable {A B : Type} {R S : A → B → Prop}
theorem All2.imp (f : ∀ a b, R a b → S a b) : ∀ {as : List A} {bs : List B}, All2 R as bs → All2 S as bs
  | _, _, .nil => .nil
  | _, _, .cons h t => .cons (f _ _ h) (All2.imp f t)
theorem All2.length : ∀ {as : List A} {bs : List B}, All2 R as bs → as.length = bs.length
  | _, _, .nil => rfl
  | _, _, .cons _ t => congrArg (· + 1) t.length
theorem All2.append : ∀ {as cs : List A} {bs ds : List B}, All2 R as bs → All2 R cs ds → All2 R (as ++ cs) (bs ++ ds)
  | _, _, _, _, .nil, h => h
  | _, _, _, _, .cons h t, k => .cons h (t.append k)
theorem All2.get : ∀ {as : List A} {bs : List B} {i : Nat} {a : A}, All2 R as bs → as[i]? = some a → ∃ b, bs[i]? = some b ∧ R a b
  | _, _, _, _, .nil, e => by simp at e
  | _, _, 0, _, .cons h _, e => by simp at e; subst e; exact ⟨_, rfl, h⟩
  | _, _, i + 1, a, .cons _ t, e => by
    obtain ⟨b, h1, h2⟩ := All2.get (i := i) (a := a) t (by simpa using e)
    exact ⟨b, by simpa using h1, h2⟩
theorem All2.get' : ∀ {as : List A} {bs : List B} {i : Nat} {b : B}, All2 R as bs → bs[i]? = some b → ∃ a, as[i]? = some a ∧ R a b
  | _, _, _, _, .nil, e => by simp at e
  | _, _, 0, _, .cons h _, e => by simp at e; subst e; exact ⟨_, rfl, h⟩
  | _, _, i + 1, a, .cons _ t, e => by
    obtain ⟨b, h1, h2⟩ := All2.get' (i := i) (b := a) t (by simpa using e)
    exact ⟨b, by simpa using h1, h2⟩
theorem All2.set {a : A} {b : B} (h : R a b) : ∀ {as : List A} {bs : List B} (i : Nat), All2 R as bs → All2 R (as.set i a) (bs.set i b)
  | _, _, _, .nil => .nil
  | _, _, 0, .cons _ t => .cons h t
  | _, _, i + 1, .cons q t => .cons q (t.set h i)
theorem All2.take : ∀ {as : List A} {bs : List B} (n : Nat), All2 R as bs → All2 R (as.take n) (bs.take n)
  | _, _, 0, _ => .nil
  | _, _, _ + 1, .nil => .nil
  | _, _, n + 1, .cons h t => .cons h (t.take n)
theorem All2.drop : ∀ {as : List A} {bs : List B} (n : Nat), All2 R as bs → All2 R (as.drop n) (bs.drop n)
  | _, _, 0, h => h
  | _, _, _ + 1, .nil => .nil
  | _, _, n + 1, .cons _ t => t.drop n
theorem All2.eraseIdx : ∀ {as : List A} {bs : List B} (n : Nat), All2 R as bs → All2 R (as.eraseIdx n) (bs.eraseIdx n)
  | _, _, _, .nil => .nil
  | _, _, 0, .cons _ t => t
  | _, _, n + 1, .cons h t => .cons h (t.eraseIdx n)
end

abbrev IsAll (K : PySem.W.Frag) (F : Hp) : List Sl → List V → Prop := All2 (Is K F)
theorem isAll_mono {K : PySem.W.Frag} {F F' : Hp} (e : Ex F F') {rs : List Sl} {vs : List V} (h : IsAll K F rs vs) : IsAll K F' rs vs := h.imp fun _ _ q => is_mono e q
theorem isAll_d {K : PySem.W.Frag} {F : Hp} : ∀ {ds : List PyData} {vs : List V}, DqAll K F vs ds → IsAll K F (ds.map Sl.d) vs
  | _, _, .nil => .nil
  | _, _, .cons h t => .cons h (isAll_d t)
theorem dqAll_of {K : PySem.W.Frag} {F : Hp} : ∀ {ds : List PyData} {vs : List V}, IsAll K F (ds.map Sl.d) vs → DqAll K F vs ds
  | [], _, h => by cases h; exact .nil
  | _ :: _, _, h => by cases h with | cons h t => exact .cons h (dqAll_of t)

/-- what may change: a list, a dict -/
inductive MO where
  | lst (ss : List Sl)
  | dic (ks : List (Key × Sl))
  | lok (od : Obj) (kvs : List (Key × V)) (ks : List (Key × Sl))
  | ob (C : Addr) (fs : List (Str × Sl))
abbrev Mem := Addr → Option MO
def upM (M : Mem) (a : Addr) (o : MO) : Mem := fun b => if b = a then some o else M b
theorem upM_same {M : Mem} {a : Addr} {o : MO} : upM M a o a = some o := by unfold upM; rw [if_pos rfl]
theorem upM_ne {M : Mem} {a b : Addr} {o : MO} (h : b ≠ a) : upM M a o b = M b := by unfold upM; rw [if_neg h]
theorem upM_upM {M : Mem} {a : Addr} {o u : MO} : upM (upM M a o) a u = upM M a u := by funext b; unfold upM; split <;> rfl
theorem neM {M : Mem} {a b : Addr} {o : MO} (h : M a = some o) (h' : M b = none) : a ≠ b := by intro e; subst e; rw [h] at h'; cases h'
/-- the second one knows all of the first one -/
def Le (M M' : Mem) : Prop := ∀ a o, M a = some o → M' a = some o
theorem Le.refl (M : Mem) : Le M M := fun _ _ h => h
theorem Le.trans {M M1 M2 : Mem} (a : Le M M1) (b : Le M1 M2) : Le M M2 := fun x o h => b x o (a x o h)
theorem Le.up {M M' : Mem} {p : Addr} {o : MO} (e : Le M M') (h : M p = none) : Le M (upM M' p o) := fun a u ha => by
  rw [upM_ne (neM ha h)]; exact e a u ha

abbrev KIs (K : PySem.W.Frag) (F : Hp) : Key × Sl → Key × V → Prop := fun p q => p.1 = q.1 ∧ Is K F p.2 q.2
abbrev FIs (K : PySem.W.Frag) (F : Hp) : Str × Sl → Str × V → Prop := fun p q => p.1 = q.1 ∧ Is K F p.2 q.2
def MIs (K : PySem.W.Frag) (F H : Hp) (a : Addr) : MO → Prop
  | .lst ss => ∃ vs, H a = some (.lst vs) ∧ IsAll K F ss vs
  | .dic ks => ∃ kvs, H a = some (.dK kvs) ∧ All2 (KIs K F) ks kvs
  | .lok od kvs ks => H a = some (.frz od (.dK kvs)) ∧ All2 (KIs K F) ks kvs
  | .ob C fs => ∃ dx vs, H a = some (.ins C dx vs) ∧ All2 (FIs K F) fs vs
theorem mis_mono {K : PySem.W.Frag} {F F' H H' : Hp} {a : Addr} (e : Ex F F') (hh : H' a = H a) : ∀ {o : MO}, MIs K F H a o → MIs K F' H' a o
  | .lst _, ⟨vs, h1, h2⟩ => ⟨vs, hh.trans h1, isAll_mono e h2⟩
  | .dic _, ⟨kvs, h1, h2⟩ => ⟨kvs, hh.trans h1, h2.imp fun _ _ q => ⟨q.1, is_mono e q.2⟩⟩
  | .lok _ _ _, ⟨h1, h2⟩ => ⟨hh.trans h1, h2.imp fun _ _ q => ⟨q.1, is_mono e q.2⟩⟩
  | .ob _ _, ⟨dx, vs, h1, h2⟩ => ⟨dx, vs, hh.trans h1, h2.imp fun _ _ q => ⟨q.1, is_mono e q.2⟩⟩

/-- the heap: what never changes (F) and what may (M) -/
structure At (K : PySem.W.Frag) (F : Hp) (M : Mem) (H : Hp) : Prop where
  ex : Ex F H
  mem : ∀ a o, M a = some o → F a = none ∧ MIs K F H a o
section
variable {K : PySem.W.Frag} {F F' H : Hp} {M M' : Mem} {a p : Addr}
theorem At.at (h : At K F M H) {o : MO} (e : M a = some o) : ∃ ho, H a = some ho := by
  obtain ⟨_, q⟩ := h.mem a o e
  cases o with
  | lst ss => obtain ⟨vs, q, _⟩ := q; exact ⟨_, q⟩
  | dic ks => obtain ⟨vs, q, _⟩ := q; exact ⟨_, q⟩
  | lok od kvs ks => exact ⟨_, q.1⟩
  | ob C fs => obtain ⟨dx, vs, q, _⟩ := q; exact ⟨_, q⟩
theorem At.freeM (h : At K F M H) (e : H p = none) : M p = none := by
  cases q : M p with
  | none => rfl
  | some o => obtain ⟨ho, z⟩ := h.at q; rw [e] at z; cases z
theorem At.freeF (h : At K F M H) (e : H p = none) : F p = none := Evl.fresh_back h.ex e
theorem At.le (h : At K F M H) (l : Le M' M) : At K F M' H := ⟨h.ex, fun a o e => h.mem a o (l a o e)⟩
/-- a new thing that never changes -/
theorem At.laid (h : At K F M H) {o : HO} (e : H p = none) : Ex F (upd F p o) ∧ At K (upd F p o) M (upd H p o) := by
  have e1 : Ex F (upd F p o) := Ex.new (h.freeF e)
  refine ⟨e1, fun b u q => ?_, fun b u q => ?_⟩
  · by_cases hb : b = p
    · subst hb; rw [upd_same] at q ⊢; exact q
    · rw [upd_ne hb] at q ⊢; exact h.ex b u q
  · have hb : b ≠ p := neM q (h.freeM e)
    obtain ⟨q1, q2⟩ := h.mem b u q
    exact ⟨by rw [upd_ne hb]; exact q1, mis_mono e1 (by rw [upd_ne hb]) q2⟩
/-- something that may change is changed, or is new -/
theorem At.put (h : At K F M H) {o : MO} {ho : HO} (f : F p = none) (q : MIs K F (upd H p ho) p o) : At K F (upM M p o) (upd H p ho) := by
  refine ⟨fun b u z => ?_, fun b u z => ?_⟩
  · rw [upd_ne (ne_of_none z f)]; exact h.ex b u z
  · by_cases hb : b = p
    · subst hb; rw [upM_same] at z; cases z; exact ⟨f, q⟩
    · rw [upM_ne hb] at z
      obtain ⟨q1, q2⟩ := h.mem b u z
      exact ⟨q1, mis_mono (Ex.refl F) (by rw [upd_ne hb]) q2⟩
end
/-- the heap has gone on: what never changes is there, what is not spoken of is as it was -/
structure Go (K : PySem.W.Frag) (F : Hp) (M : Mem) (H : Hp) (F' : Hp) (M' : Mem) (H' : Hp) : Prop where
  ex : Ex F F'
  at' : At K F' M' H'
  fr : ∀ a o, H a = some o → F a = none → M a = none → H' a = some o ∧ F' a = none ∧ M' a = none
section
variable {K : PySem.W.Frag} {F F1 F2 H H1 H2 : Hp} {M M1 M2 : Mem} {p : Addr}
theorem Go.refl (h : At K F M H) : Go K F M H F M H := ⟨Ex.refl F, h, fun _ _ a b c => ⟨a, b, c⟩⟩
theorem Go.trans (g : Go K F M H F1 M1 H1) (g' : Go K F1 M1 H1 F2 M2 H2) : Go K F M H F2 M2 H2 :=
  ⟨g.ex.trans g'.ex, g'.at', fun a o h1 h2 h3 => let ⟨q1, q2, q3⟩ := g.fr a o h1 h2 h3; g'.fr a o q1 q2 q3⟩
/-- a new thing that never changes -/
theorem Go.laid (h : At K F M H) {o : HO} (e : H p = none) : Go K F M H (upd F p o) M (upd H p o) := by
  obtain ⟨e1, a1⟩ := h.laid (o := o) e
  refine ⟨e1, a1, fun a u h1 h2 h3 => ?_⟩
  have hn : a ≠ p := ne_of_none h1 e
  exact ⟨by rw [upd_ne hn]; exact h1, by rw [upd_ne hn]; exact h2, h3⟩
/-- something that may change is new -/
theorem Go.new (h : At K F M H) {o : MO} {ho : HO} (e : H p = none) (q : MIs K F (upd H p ho) p o) : Go K F M H F (upM M p o) (upd H p ho) := by
  refine ⟨Ex.refl F, h.put (h.freeF e) q, fun a u h1 h2 h3 => ?_⟩
  have hn : a ≠ p := ne_of_none h1 e
  exact ⟨by rw [upd_ne hn]; exact h1, h2, by rw [upM_ne hn]; exact h3⟩
/-- .. is changed -/
theorem Go.put (h : At K F M H) {o o0 : MO} {ho : HO} (e : M p = some o0) (q : MIs K F (upd H p ho) p o) : Go K F M H F (upM M p o) (upd H p ho) := by
  refine ⟨Ex.refl F, h.put (h.mem p o0 e).1 q, fun a u h1 h2 h3 => ?_⟩
  have hn : a ≠ p := fun z => by subst z; rw [e] at h3; cases h3
  exact ⟨by rw [upd_ne hn]; exact h1, h2, by rw [upM_ne hn]; exact h3⟩
/-- less is spoken of -/
theorem Go.le (g : Go K F M H F1 M1 H1) (l : Le M2 M1) : Go K F M H F1 M2 H1 :=
  ⟨g.ex, g.at'.le l, fun a o h1 h2 h3 => by
    obtain ⟨q1, q2, q3⟩ := g.fr a o h1 h2 h3
    refine ⟨q1, q2, ?_⟩
    cases z : M2 a with
    | none => rfl
    | some u => rw [l a u z] at q3; cases q3⟩
/-- a list that will not change any more -/
theorem Go.freeze (h : At K F M H) {ds : List PyData} (e : M p = some (.lst (ds.map Sl.d))) (hl : Le M1 M) (hp : M1 p = none) : ∃ F', Go K F M H F' M1 H ∧ Dq K F' (.ref p) (.list ds) := by
  obtain ⟨f, vs, q1, q2⟩ := h.mem p _ e
  have e1 : Ex F (upd F p (.lst vs)) := Ex.new f
  refine ⟨upd F p (.lst vs), ⟨e1, ⟨fun b u z => ?_, fun b u z => ?_⟩, fun b u h1 h2 h3 => ?_⟩, .lst upd_same (dqAll_mono e1 (dqAll_of q2))⟩
  · by_cases hb : b = p
    · subst hb; rw [upd_same] at z; cases z; exact q1
    · rw [upd_ne hb] at z; exact h.ex b u z
  · have hb : b ≠ p := neM z hp
    obtain ⟨r1, r2⟩ := h.mem b u (hl b u z)
    exact ⟨by rw [upd_ne hb]; exact r1, mis_mono e1 rfl r2⟩
  · have hb : b ≠ p := fun z => by subst z; rw [e] at h3; cases h3
    refine ⟨h1, by rw [upd_ne hb]; exact h2, ?_⟩
    cases z : M1 b with
    | none => rfl
    | some w => rw [hl b w z] at h3; cases h3
end

/-! ### the slots -/
abbrev Env' := List (Option Sl)
def SIs (K : PySem.W.Frag) (F : Hp) : Option Sl → Option V → Prop
  | none, _ => True
  | some r, o => ∃ u, o = some u ∧ Is K F r u
abbrev SOk (K : PySem.W.Frag) (F : Hp) : Env' → St → Prop := All2 (SIs K F)
theorem sis_mono {K : PySem.W.Frag} {F F' : Hp} (e : Ex F F') : ∀ {r : Option Sl} {o : Option V}, SIs K F r o → SIs K F' r o
  | none, _, _ => trivial
  | some _, _, ⟨u, h1, h2⟩ => ⟨u, h1, is_mono e h2⟩
theorem sok_mono {K : PySem.W.Frag} {F F' : Hp} (e : Ex F F') {dl : Env'} {st : St} (h : SOk K F dl st) : SOk K F' dl st := h.imp fun _ _ q => sis_mono e q
theorem sok_get {K : PySem.W.Frag} {F : Hp} {dl : Env'} {st : St} {i : Nat} {r : Sl} (h : SOk K F dl st) (e : dl[i]? = some (some r)) : ∃ u, st[i]? = some (some u) ∧ Is K F r u := by
  obtain ⟨o, h1, u, rfl, h2⟩ := h.get e
  exact ⟨u, h1, h2⟩
theorem sok_start {K : PySem.W.Frag} {F : Hp} {rs : List Sl} {vs : List V} (h : IsAll K F rs vs) (n : Nat) : SOk K F (rs.map some ++ List.replicate n none) (vs.map some ++ List.replicate n none) := by
  refine All2.append ?_ ?_
  · induction h with
    | nil => exact .nil
    | cons h _ ih => exact .cons ⟨_, rfl, h⟩ ih
  · induction n with
    | zero => exact .nil
    | succ n ih => exact .cons trivial ih

/-! ### readings -/
abbrev RK := Sl → Mem → Prop
abbrev WE := Env' → Mem → RK → Prop
abbrev WT := Env' → Mem → (Bool → Mem → Prop) → Prop
abbrev WA := Env' → Mem → (List Sl → Mem → Prop) → Prop
structure PK where
  nx : Env' → Mem → Prop
  rt : RK
  bk : Env' → Mem → Prop := fun _ _ => False
  ct : Env' → Mem → Prop := fun _ _ => False
abbrev WS := PK → Env' → Mem → Prop

def Po (K : PySem.W.Frag) (F : Hp) (M : Mem) (H : Hp) (R : RK) (Q : VK) : Prop := ∀ v F' H' r M', R r M' → Go K F M H F' M' H' → Is K F' r v → Q v H'
def PoT (K : PySem.W.Frag) (F : Hp) (M : Mem) (H : Hp) (R : Bool → Mem → Prop) (Q : Bool → Hp → Prop) : Prop := ∀ b F' H' M', R b M' → Go K F M H F' M' H' → Q b H'
def PoA (K : PySem.W.Frag) (F : Hp) (M : Mem) (H : Hp) (R : List Sl → Mem → Prop) (Q : List V → Hp → Prop) : Prop := ∀ vs F' H' rs M', R rs M' → Go K F M H F' M' H' → IsAll K F' rs vs → Q vs H'
def PoN (K : PySem.W.Frag) (F : Hp) (M : Mem) (H : Hp) (R : Env' → Mem → Prop) (Q : St → Hp → Prop) : Prop := ∀ st F' H' dl M', R dl M' → Go K F M H F' M' H' → SOk K F' dl st → Q st H'
structure PoS (K : PySem.W.Frag) (F : Hp) (M : Mem) (H : Hp) (P : PK) (D : Ends) : Prop where
  nx : PoN K F M H P.nx D.nx
  rt : Po K F M H P.rt D.rt
  bk : PoN K F M H P.bk D.bk
  ct : PoN K F M H P.ct D.ct
section
variable {K : PySem.W.Frag} {F F' H H' : Hp} {M M' : Mem}
theorem Po.mono {R : RK} {Q : VK} (h : Po K F M H R Q) (e : Go K F M H F' M' H') : Po K F' M' H' R Q := fun v G J r N a b => h v G J r N a (e.trans b)
theorem PoT.mono {R : Bool → Mem → Prop} {Q : Bool → Hp → Prop} (h : PoT K F M H R Q) (e : Go K F M H F' M' H') : PoT K F' M' H' R Q := fun v G J N a b => h v G J N a (e.trans b)
theorem PoN.mono {R : Env' → Mem → Prop} {Q : St → Hp → Prop} (h : PoN K F M H R Q) (e : Go K F M H F' M' H') : PoN K F' M' H' R Q := fun v G J r N a b => h v G J r N a (e.trans b)
theorem PoS.mono {P : PK} {D : Ends} (h : PoS K F M H P D) (e : Go K F M H F' M' H') : PoS K F' M' H' P D := ⟨h.nx.mono e, h.rt.mono e, h.bk.mono e, h.ct.mono e⟩
end

def tD (K : PySem.W.Frag) (w : WE) : TE := fun st H Q => ∃ F dl M R, SOk K F dl st ∧ At K F M H ∧ w dl M R ∧ Po K F M H R Q
def tDT (K : PySem.W.Frag) (w : WT) : TT := fun st H Q => ∃ F dl M R, SOk K F dl st ∧ At K F M H ∧ w dl M R ∧ PoT K F M H R Q
def tDA (K : PySem.W.Frag) (w : WA) : TA := fun st H Q => ∃ F dl M R, SOk K F dl st ∧ At K F M H ∧ w dl M R ∧ PoA K F M H R Q
def tDS (K : PySem.W.Frag) (w : WS) : TS := fun D st H => ∃ F dl M P, SOk K F dl st ∧ At K F M H ∧ w P dl M ∧ PoS K F M H P D

def PD (X : Cx) (e : Expr) (w : WE) : Prop := PE X e (tD X.K w)
def PDT (X : Cx) (e : Expr) (w : WT) : Prop := PT X e (tDT X.K w)
def PDA (X : Cx) (es : List Expr) (w : WA) : Prop := PA X es (tDA X.K w)
def PDS (X : Cx) (st : Stmt) (w : WS) : Prop := PS X st (tDS X.K w)
def PDB (X : Cx) (st : List Stmt) (w : WS) : Prop := PSs X st (tDS X.K w)

theorem pe_imp {X : Cx} {e : Expr} {t u : TE} (h : PE X e t) (i : ∀ st H Q, u st H Q → t st H Q) : PE X e u := ⟨fun pins s st H Q I q => h.run pins s st H Q I (i st H Q q)⟩
theorem pt_imp {X : Cx} {e : Expr} {t u : TT} (h : PT X e t) (i : ∀ st H Q, u st H Q → t st H Q) : PT X e u := ⟨fun pins s st H Q I q => h.run pins s st H Q I (i st H Q q)⟩
theorem pa_imp {X : Cx} {e : List Expr} {t u : TA} (h : PA X e t) (i : ∀ st H Q, u st H Q → t st H Q) : PA X e u := ⟨fun po pins s st H Q I q => h.run po pins s st H Q I (i st H Q q)⟩
theorem ps_imp {X : Cx} {e : Stmt} {t u : TS} (h : PS X e t) (i : ∀ D st H, u D st H → t D st H) : PS X e u := ⟨fun pins s st H D I q => h.run pins s st H D I (i D st H q)⟩
theorem pss_imp {X : Cx} {e : List Stmt} {t u : TS} (h : PSs X e t) (i : ∀ D st H, u D st H → t D st H) : PSs X e u := ⟨fun pins s st H D I q => h.run pins s st H D I (i D st H q)⟩

/-- one reading behind another -/
theorem tD_to {K : PySem.W.Frag} {F : Hp} {dl : Env'} {M : Mem} {st : St} {H : Hp} {w : WE} {R : RK} {Q : VK} (so : SOk K F dl st) (at0 : At K F M H) (hw : w dl M R) (k : ∀ v F' H' r M', R r M' → Go K F M H F' M' H' → SOk K F' dl st → At K F' M' H' → Is K F' r v → Q v H') : tD K w st H Q :=
  ⟨F, dl, M, R, so, at0, hw, fun v F' H' r M' a b d => k v F' H' r M' a b (sok_mono b.ex so) b.at' d⟩
theorem tDT_to {K : PySem.W.Frag} {F : Hp} {dl : Env'} {M : Mem} {st : St} {H : Hp} {w : WT} {R : Bool → Mem → Prop} {Q : Bool → Hp → Prop} (so : SOk K F dl st) (at0 : At K F M H) (hw : w dl M R) (k : ∀ b F' H' M', R b M' → Go K F M H F' M' H' → SOk K F' dl st → At K F' M' H' → Q b H') : tDT K w st H Q :=
  ⟨F, dl, M, R, so, at0, hw, fun v F' H' M' a b => k v F' H' M' a b (sok_mono b.ex so) b.at'⟩
theorem tDA_to {K : PySem.W.Frag} {F : Hp} {dl : Env'} {M : Mem} {st : St} {H : Hp} {w : WA} {R : List Sl → Mem → Prop} {Q : List V → Hp → Prop} (so : SOk K F dl st) (at0 : At K F M H) (hw : w dl M R) (k : ∀ vs F' H' rs M', R rs M' → Go K F M H F' M' H' → SOk K F' dl st → At K F' M' H' → IsAll K F' rs vs → Q vs H') : tDA K w st H Q :=
  ⟨F, dl, M, R, so, at0, hw, fun v F' H' r M' a b d => k v F' H' r M' a b (sok_mono b.ex so) b.at' d⟩

/-! ### expressions -/
abbrev wVar (i : Nat) : WE := fun dl M R => ∃ r, dl[i]? = some (some r) ∧ R r M
abbrev wC (r : Sl) : WE := fun _ M R => R r M
section
variable {X : Cx} {a b c : Expr} {wa wb wc : WE} {pos : Pos}
theorem pd_var (i : Nat) {x : Str} (hN : X.N[i]? = some x := by rfl) (hv : Vis X.env.scope x := by first | exact Or.inl rfl | exact Or.inr (Or.inl rfl) | exact Or.inr (Or.inr rfl)) (hd : (x == ("__debug__" : Str)) = false := by decide)
    (hcd : (x == ("__classdict__" : Str)) = false := by decide) : PD X (.Name x pos) (wVar i) := by
  refine pe_imp (pv i hN hv hd hcd) fun st H Q ⟨F, dl, M, R, so, at0, ⟨r, h1, h2⟩, po⟩ => ?_
  obtain ⟨u, g1, g2⟩ := sok_get so h1
  exact ⟨u, g1, po u F H r M h2 (Go.refl at0) g2⟩
theorem pd_c {e : Expr} {v : V} {x : PyData} (h : PE X e (tC v)) (hd : ∀ F, Dq X.K F v x) : PD X e (wC (.d x)) :=
  pe_imp h fun st H Q ⟨F, dl, M, R, so, at0, hw, po⟩ => po v F H _ M hw (Go.refl at0) (hd F)
theorem pd_int {i j pos} : PD X (.Constant (.int i) j pos) (wC (.i i)) := pd_c pe_int fun _ => .int i
theorem pd_str {i j pos} : PD X (.Constant (.str i) j pos) (wC (.s i)) := pd_c pe_str fun _ => .str i
theorem pd_bl {i j pos} : PD X (.Constant (.bool i) j pos) (wC (.b i)) := pd_c pe_bl fun _ => .bl i
theorem pd_non {j pos} : PD X (.Constant .none j pos) (wC .n) := pd_c pe_non fun _ => .non

/-- a two-place operation by what is known of its operands -/
abbrev W2 := Sl → Sl → Mem → RK → Prop
def OpD (X : Cx) (f : Value → Value → Sem Value) (g : W2) : Prop := ∃ r : R2, OpR X f r ∧ ∀ (F H : Hp) (M : Mem) (x y : V) (p q : Sl) (R : RK) (Q : VK), At X.K F M H → Is X.K F p x → Is X.K F q y → g p q M R → Po X.K F M H R Q → r x y H Q
abbrev wOp (g : W2) (wa wb : WE) : WE := fun dl M R => wa dl M fun p M1 => wb dl M1 fun q M2 => g p q M2 R
theorem tD_op {K : PySem.W.Frag} {g : W2} {r : R2} (hr : ∀ (F H : Hp) (M : Mem) (x y : V) (p q : Sl) (R : RK) (Q : VK), At K F M H → Is K F p x → Is K F q y → g p q M R → Po K F M H R Q → r x y H Q) {st : St} {H : Hp} {Q : VK}
    (h : tD K (wOp g wa wb) st H Q) : tOp r (tD K wa) (tD K wb) st H Q := by
  obtain ⟨F, dl, M, R, so, at0, hw, po⟩ := h
  refine tD_to so at0 hw fun x F1 H1 p M1 h1 e1 so1 at1 i1 => ?_
  refine tD_to so1 at1 h1 fun y F2 H2 q M2 h2 e2 so2 at2 i2 => ?_
  exact hr F2 H2 M2 x y p q R Q at2 (is_mono e2.ex i1) i2 h2 (po.mono (e1.trans e2))
theorem pd_op {op : Operator} {g : W2} (ho : OpD X (binaryOp op) g) (ha : PD X a wa) (hb : PD X b wb) : PD X (.BinOp a op b pos) (wOp g wa wb) := by
  obtain ⟨r, h1, h2⟩ := ho
  exact pe_imp (pe_op h1 ha hb) fun st H Q h => tD_op h2 h
theorem pd_cmp {op : CmpOp} {g : W2} (ho : OpD X (compareOp op) g) (ha : PD X a wa) (hb : PD X b wb) (hm : behindInMarks op b = false) : PD X (.Compare a [op] [b] pos) (wOp g wa wb) := by
  obtain ⟨r, h1, h2⟩ := ho
  exact pe_imp (pe_cmpR h1 ha hb hm) fun st H Q h => tD_op h2 h
end
end DL

set_option Elab.async false
set_option linter.all false
set_option maxRecDepth 100000
set_option maxHeartbeats 4000000
/-! DB: operators, tests, displays, items, slices by data. -/
namespace DL
open PySem L2
open Evl (Ex)

/-- every rule of an operation at once -/
def rAny (X : Cx) (f : Value → Value → Sem Value) : R2 := fun x y H Q => ∃ r : R2, OpR X f r ∧ r x y H Q
theorem opR_any {X : Cx} {f : Value → Value → Sem Value} : OpR X f (rAny X f) := fun pins s st H x y v u Q I rx ry ⟨_, ho, h⟩ => ho pins s st H x y v u Q I rx ry h
/-- an operation by shapes -/
theorem opD_of {X : Cx} {f : Value → Value → Sem Value} {g : W2} (h : ∀ (F H : Hp) (M : Mem) (x y : V) (p q : Sl) (R : RK) (Q : VK), At X.K F M H → Is X.K F p x → Is X.K F q y → g p q M R → Po X.K F M H R Q → rAny X f x y H Q) : OpD X f g := ⟨rAny X f, opR_any, h⟩

/-- the items of a list, of a tuple -/
def lsOf (M : Mem) : Sl → Option (List Sl)
  | .d (.list ds) => some (ds.map Sl.d)
  | .v (.ref p) => match M p with
    | some (.lst ss) => some ss
    | _ => none
  | _ => none
theorem lsOf_at {K : PySem.W.Frag} {F H : Hp} {M : Mem} (at0 : At K F M H) : ∀ {r : Sl} {v : V} {ss : List Sl}, Is K F r v → lsOf M r = some ss → ∃ a vs, v = .ref a ∧ H a = some (.lst vs) ∧ IsAll K F ss vs
  | .d (.list ds), _, _, h, e => by
    cases e
    cases h with
    | lst h1 h2 => exact ⟨_, _, rfl, at0.ex _ _ h1, isAll_d h2⟩
  | .v (.ref p), v, ss, h, e => by
    have h' : v = .ref p := h
    subst h'
    simp only [lsOf] at e
    split at e
    · rename_i s2 q
      cases e
      obtain ⟨_, vs, h1, h2⟩ := at0.mem p _ q
      exact ⟨p, vs, rfl, h1, h2⟩
    · cases e
  | .r _, _, _, _, e => by simp [lsOf] at e
  | .w _, _, _, _, e => by simp [lsOf] at e
  | .d .none, _, _, _, e => by simp [lsOf] at e
  | .d (.bool _), _, _, _, e => by simp [lsOf] at e
  | .d (.int _), _, _, _, e => by simp [lsOf] at e
  | .d (.str _), _, _, _, e => by simp [lsOf] at e
  | .d (.tuple _), _, _, _, e => by simp [lsOf] at e
  | .d (.dict _), _, _, _, e => by simp [lsOf] at e
theorem sqT_at {K : PySem.W.Frag} {F H : Hp} {M : Mem} (at0 : At K F M H) {v : V} {ds : List PyData} (h : Dq K F v (.tuple ds)) : ∃ a vs, v = .ref a ∧ SqT K H a vs ∧ DqAll K F vs ds := by
  cases h with
  | tup h1 h2 => exact ⟨_, _, rfl, Evl.ex_t at0.ex h1.sq, h2⟩
/-- .. that is only read -/
def rlOf (M : Mem) : Sl → Option (List Sl)
  | .r ns => some (ns.map fun n => Sl.i n)
  | .d x => lsOf M (.d x)
  | .v x => lsOf M (.v x)
  | .w x => lsOf M (.w x)
theorem isAll_ints {K : PySem.W.Frag} {F : Hp} : ∀ ns : List Int, IsAll K F (ns.map fun n => Sl.i n) (ns.map V.int)
  | [] => .nil
  | n :: r => .cons (Dq.int n) (isAll_ints r)
theorem rlOf_at {K : PySem.W.Frag} {F H : Hp} {M : Mem} (at0 : At K F M H) : ∀ {r : Sl} {v : V} {ss : List Sl}, Is K F r v → rlOf M r = some ss → ∃ a vs, v = .ref a ∧ SqL K H a vs ∧ IsAll K F ss vs
  | .r ns, _, _, ⟨a, h1, h2⟩, e => by
    cases e
    exact ⟨a, _, h1, ex_l at0.ex h2, isAll_ints ns⟩
  | .d _, _, _, h, e => by
    obtain ⟨a, vs, h1, h2, h3⟩ := lsOf_at at0 h e
    exact ⟨a, vs, h1, SqL.of h2, h3⟩
  | .v _, _, _, h, e => by
    obtain ⟨a, vs, h1, h2, h3⟩ := lsOf_at at0 h e
    exact ⟨a, vs, h1, SqL.of h2, h3⟩
  | .w _, _, _, _, e => by simp [rlOf, lsOf] at e
/-- data out of slots -/
def datOf : List Sl → Option (List PyData)
  | [] => some []
  | .d x :: r => (datOf r).map (x :: ·)
  | .v _ :: _ => none
  | .r _ :: _ => none
  | .w _ :: _ => none
theorem datOf_eq : ∀ {ss : List Sl} {ds : List PyData}, datOf ss = some ds → ss = ds.map Sl.d
  | [], _, h => by cases h; rfl
  | .d x :: r, ds, h => by
    simp only [datOf, Option.map_eq_some_iff] at h
    obtain ⟨rs, h1, rfl⟩ := h
    rw [datOf_eq h1]; rfl
  | .v _ :: _, _, h => by cases h
  | .r _ :: _, _, h => by cases h
  | .w _ :: _, _, h => by cases h
theorem datOf_map (ds : List PyData) : datOf (ds.map Sl.d) = some ds := by
  induction ds with
  | nil => rfl
  | cons a r ih => simp only [List.map_cons, datOf, ih, Option.map_some]

section
variable {X : Cx}
theorem dq_int {K : PySem.W.Frag} {F : Hp} {v : V} {i : Int} (h : Dq K F v (.int i)) : v = .int i := by cases h; rfl
theorem dq_str {K : PySem.W.Frag} {F : Hp} {v : V} {i : Str} (h : Dq K F v (.str i)) : v = .str i := by cases h; rfl
theorem dq_bl {K : PySem.W.Frag} {F : Hp} {v : V} {i : Bool} (h : Dq K F v (.bool i)) : v = .bl i := by cases h; rfl
theorem dq_non {K : PySem.W.Frag} {F : Hp} {v : V} (h : Dq K F v .none) : v = .non := by cases h; rfl
/-- two ints -/
abbrev gI (C : Int → Int → Prop) (g : Int → Int → PyData) : W2 := fun p q M R => match p, q with
  | .d (.int i), .d (.int j) => C i j ∧ R (.d (g i j)) M
  | _, _ => False
abbrev gI0 (g : Int → Int → PyData) : W2 := fun p q M R => match p, q with
  | .d (.int i), .d (.int j) => R (.d (g i j)) M
  | _, _ => False
theorem gI_to {C : Int → Int → Prop} {g : Int → Int → PyData} {p q : Sl} {M : Mem} {R : RK} (h : gI C g p q M R) : ∃ i j, p = .i i ∧ q = .i j ∧ C i j ∧ R (.d (g i j)) M := by
  unfold gI at h
  split at h
  · exact ⟨_, _, rfl, rfl, h⟩
  · exact h.elim
theorem gI0_to {g : Int → Int → PyData} {p q : Sl} {M : Mem} {R : RK} (h : gI0 g p q M R) : ∃ i j, p = .i i ∧ q = .i j ∧ R (.d (g i j)) M := by
  unfold gI0 at h
  split at h
  · exact ⟨_, _, rfl, rfl, h⟩
  · exact h.elim
theorem oI {f : Value → Value → Sem Value} {C : Int → Int → Prop} {g : Int → Int → PyData} {gv : Int → Int → V} (ho : OpR X f (rI C gv)) (hg : ∀ F i j, Dq X.K F (gv i j) (g i j)) : OpD X f (gI C g) :=
  opD_of fun F H M x y p q R Q at0 h1 h2 h3 po => by
    obtain ⟨i, j, rfl, rfl, hc, hR⟩ := gI_to h3
    exact ⟨_, ho, i, j, dq_int h1, dq_int h2, hc, po _ F H _ M hR (Go.refl at0) (hg F i j)⟩
theorem oI0 {f : Value → Value → Sem Value} {g : Int → Int → PyData} {gv : Int → Int → V} (ho : OpR X f (rI0 gv)) (hg : ∀ F i j, Dq X.K F (gv i j) (g i j)) : OpD X f (gI0 g) :=
  opD_of fun F H M x y p q R Q at0 h1 h2 h3 po => by
    obtain ⟨i, j, rfl, rfl, hR⟩ := gI0_to h3
    exact ⟨_, ho, i, j, dq_int h1, dq_int h2, po _ F H _ M hR (Go.refl at0) (hg F i j)⟩
abbrev gAdd : W2 := gI0 fun i j => .int (i + j)
abbrev gSub : W2 := gI0 fun i j => .int (i - j)
abbrev gMul : W2 := gI (fun i j => (-(2 ^ 64) < i ∧ i < 2 ^ 64) ∨ (-(2 ^ 64) < j ∧ j < 2 ^ 64)) fun i j => .int (i * j)
abbrev gDiv : W2 := gI (fun _ j => 0 < j ∧ j < 1073741824) fun i j => .int (i / j)
abbrev gMod : W2 := gI (fun _ j => 0 < j) fun i j => .int (i % j)
abbrev gPow : W2 := gI (fun i j => 0 ≤ j ∧ j ≤ 1000000 ∧ i.natAbs < 2 ^ 64) fun i j => .int (i ^ j.toNat)
abbrev gLt : W2 := gI0 fun i j => .bool (decide (i < j))
abbrev gLe : W2 := gI0 fun i j => .bool (decide (i ≤ j))
abbrev gGt : W2 := gI0 fun i j => .bool (decide (j < i))
abbrev gGe : W2 := gI0 fun i j => .bool (decide (j ≤ i))
theorem o_add : OpD X (binaryOp .Add) gAdd := oI0 op_add fun _ _ _ => .int _
theorem o_sub : OpD X (binaryOp .Sub) gSub := oI0 op_sub fun _ _ _ => .int _
theorem o_mul : OpD X (binaryOp .Mult) gMul := oI op_mul fun _ _ _ => .int _
theorem o_div : OpD X (binaryOp .FloorDiv) gDiv := oI op_fdiv fun _ _ _ => .int _
theorem o_mod : OpD X (binaryOp .Mod) gMod := oI op_mod fun _ _ _ => .int _
theorem o_pow : OpD X (binaryOp .Pow) gPow := oI op_pow fun _ _ _ => .int _
theorem o_lt : OpD X (compareOp .Lt) gLt := oI0 op_lt fun _ _ _ => .bl _
theorem o_le : OpD X (compareOp .LtE) gLe := oI0 op_le fun _ _ _ => .bl _
theorem o_gt : OpD X (compareOp .Gt) gGt := oI0 op_gt fun _ _ _ => .bl _
theorem o_ge : OpD X (compareOp .GtE) gGe := oI0 op_ge fun _ _ _ => .bl _

/-! ### == and != of data -/
abbrev gEq : W2 := fun p q M R => match p, q with
  | .d (.str a), .d (.str b) => R (.b (decide (a = b))) M
  | .d (.int a), .d (.int b) => R (.b (decide (a = b))) M
  | .d a, .d b => SeqAt.shaped a = true ∧ SeqAt.shaped b = true ∧ R (.b (PyData.eqv a b)) M
  | .v (.ref p), .d b => ∃ ss ds, M p = some (.lst ss) ∧ datOf ss = some ds ∧ SeqAt.shaped (.list ds) = true ∧ SeqAt.shaped b = true ∧ R (.b (PyData.eqv (.list ds) b)) M
  | _, _ => False
abbrev gNe : W2 := fun p q M R => match p, q with
  | .d (.str a), .d (.str b) => R (.b (!decide (a = b))) M
  | .d (.int a), .d (.int b) => R (.b (!decide (a = b))) M
  | .d a, .d b => SeqAt.shaped a = true ∧ SeqAt.shaped b = true ∧ R (.b (!PyData.eqv a b)) M
  | .v (.ref p), .d b => ∃ ss ds, M p = some (.lst ss) ∧ datOf ss = some ds ∧ SeqAt.shaped (.list ds) = true ∧ SeqAt.shaped b = true ∧ R (.b (!PyData.eqv (.list ds) b)) M
  | _, _ => False
theorem dq_up {K : PySem.W.Frag} {F H : Hp} (e : Ex F H) {v : V} {d : PyData} (h : Dq K F v d) : Dp K H v d := dq_dp (dq_mono e h)
theorem dp_mem {K : PySem.W.Frag} {F H : Hp} {M : Mem} (at0 : At K F M H) {p : Addr} {ss : List Sl} {ds : List PyData} (m : M p = some (.lst ss)) (e : datOf ss = some ds) : Dp K H (.ref p) (.list ds) := by
  obtain ⟨_, vs, h1, h2⟩ := at0.mem p _ m
  rw [datOf_eq e] at h2
  exact .lst (SqL.of h1) (dqAll_dp (dqAll_mono at0.ex (dqAll_of h2)))
theorem decV_str {a b : Str} : decide (V.str a = V.str b) = decide (a = b) := by simp
theorem decV_int {a b : Int} : decide (V.int a = V.int b) = decide (a = b) := by simp
theorem o_eq (hu : X.A.units + 64 < cLine) : OpD X (compareOp .Eq) gEq :=
  opD_of fun F H M x y p q R Q at0 h1 h2 h3 po => by
    unfold gEq at h3
    split at h3
    · cases dq_str h1; cases dq_str h2
      exact ⟨_, op_eq, rfl, by rw [decV_str]; exact po _ F H _ M h3 (Go.refl at0) (.bl _)⟩
    · cases dq_int h1; cases dq_int h2
      exact ⟨_, op_eq, rfl, by rw [decV_int]; exact po _ F H _ M h3 (Go.refl at0) (.bl _)⟩
    · exact ⟨_, op_eqD hu, _, _, dq_up at0.ex h1, dq_up at0.ex h2, h3.1, h3.2.1, po _ F H _ M h3.2.2 (Go.refl at0) (.bl _)⟩
    · obtain ⟨ss, ds, m, e, s1, s2, hR⟩ := h3
      have e1 : x = .ref _ := h1
      subst e1
      exact ⟨_, op_eqD hu, _, _, dp_mem at0 m e, dq_up at0.ex h2, s1, s2, po _ F H _ M hR (Go.refl at0) (.bl _)⟩
    · exact h3.elim
theorem o_ne (hu : X.A.units + 64 < cLine) : OpD X (compareOp .NotEq) gNe :=
  opD_of fun F H M x y p q R Q at0 h1 h2 h3 po => by
    unfold gNe at h3
    split at h3
    · cases dq_str h1; cases dq_str h2
      exact ⟨_, op_ne, rfl, by rw [decV_str]; exact po _ F H _ M h3 (Go.refl at0) (.bl _)⟩
    · cases dq_int h1; cases dq_int h2
      exact ⟨_, op_ne, rfl, by rw [decV_int]; exact po _ F H _ M h3 (Go.refl at0) (.bl _)⟩
    · exact ⟨_, op_neD hu, _, _, dq_up at0.ex h1, dq_up at0.ex h2, h3.1, h3.2.1, po _ F H _ M h3.2.2 (Go.refl at0) (.bl _)⟩
    · obtain ⟨ss, ds, m, e, s1, s2, hR⟩ := h3
      have e1 : x = .ref _ := h1
      subst e1
      exact ⟨_, op_neD hu, _, _, dp_mem at0 m e, dq_up at0.ex h2, s1, s2, po _ F H _ M hR (Go.refl at0) (.bl _)⟩
    · exact h3.elim
/-! ### is None -/
def isN : PyData → Bool
  | .none => true
  | _ => false
abbrev gIsN : W2 := fun p q M R => match p, q with
  | .d a, .d .none => R (.b (isN a)) M
  | _, _ => False
abbrev gNotN : W2 := fun p q M R => match p, q with
  | .d a, .d .none => R (.b (!isN a)) M
  | _, _ => False
theorem isN_eq {K : PySem.W.Frag} {F : Hp} {v : V} {d : PyData} (h : Dq K F v d) : decide (v = V.non) = isN d := by cases h <;> rfl
theorem gIsN_to {p q : Sl} {M : Mem} {R : RK} (h : gIsN p q M R) : ∃ a, p = .d a ∧ q = .n ∧ R (.b (isN a)) M := by
  unfold gIsN at h
  split at h
  · exact ⟨_, rfl, rfl, h⟩
  · exact h.elim
theorem gNotN_to {p q : Sl} {M : Mem} {R : RK} (h : gNotN p q M R) : ∃ a, p = .d a ∧ q = .n ∧ R (.b (!isN a)) M := by
  unfold gNotN at h
  split at h
  · exact ⟨_, rfl, rfl, h⟩
  · exact h.elim
theorem o_isN : OpD X (compareOp .Is) gIsN :=
  opD_of fun F H M x y p q R Q at0 h1 h2 h3 po => by
    obtain ⟨a, rfl, rfl, hR⟩ := gIsN_to h3
    exact ⟨_, op_isN, dq_non h2, by rw [isN_eq h1]; exact po _ F H _ M hR (Go.refl at0) (.bl _)⟩
theorem o_notN : OpD X (compareOp .IsNot) gNotN :=
  opD_of fun F H M x y p q R Q at0 h1 h2 h3 po => by
    obtain ⟨a, rfl, rfl, hR⟩ := gNotN_to h3
    exact ⟨_, op_notN, dq_non h2, by rw [isN_eq h1]; exact po _ F H _ M hR (Go.refl at0) (.bl _)⟩

/-! ### new things -/
theorem po_dat {K : PySem.W.Frag} {F H : Hp} {M : Mem} {R : RK} {Q : VK} {p : Addr} {o : HO} {d : PyData} (at0 : At K F M H) (po : Po K F M H R Q) (hp : H p = none) (hR : R (.d d) M) (hd : ∀ F', Ex F F' → F' p = some o → Dq K F' (.ref p) d) : Q (.ref p) (upd H p o) := by
  have g := Go.laid at0 (o := o) hp
  exact po _ _ _ _ M hR g (hd _ g.ex upd_same)
theorem po_lst {K : PySem.W.Frag} {F H : Hp} {M : Mem} {R : RK} {Q : VK} {p : Addr} {vs : List V} {ss : List Sl} (at0 : At K F M H) (po : Po K F M H R Q) (hp : H p = none) (h : IsAll K F ss vs) (hR : ∀ a, M a = none → R (.v (.ref a)) (upM M a (.lst ss))) : Q (.ref p) (upd H p (.lst vs)) :=
  po _ F _ _ _ (hR p (at0.freeM hp)) (Go.new at0 hp ⟨vs, upd_same, h⟩) rfl

/-! ### + of lists and tuples, * of a list -/
/-- lists, to a datum -/
abbrev gCat : W2 := fun p q M R => ∃ xs ys zs, lsOf M p = some xs ∧ lsOf M q = some ys ∧ datOf (xs ++ ys) = some zs ∧ xs.length + ys.length ≤ sizeLine ∧ R (.d (.list zs)) M
/-- lists, to a new list that may change -/
abbrev gCatM : W2 := fun p q M R => ∃ xs ys, lsOf M p = some xs ∧ lsOf M q = some ys ∧ xs.length + ys.length ≤ sizeLine ∧ ∀ a, M a = none → R (.v (.ref a)) (upM M a (.lst (xs ++ ys)))
theorem o_cat : OpD X (binaryOp .Add) gCat :=
  opD_of fun F H M x y p q R Q at0 h1 h2 h3 po => by
    obtain ⟨xs, ys, zs, e1, e2, e3, hz, hR⟩ := h3
    obtain ⟨a, vs, rfl, g1, i1⟩ := lsOf_at at0 h1 e1
    obtain ⟨b, us, rfl, g2, i2⟩ := lsOf_at at0 h2 e2
    refine ⟨_, op_cat, a, b, vs, us, rfl, rfl, g1, g2, by rw [← i1.length, ← i2.length]; exact hz, fun c hc => ?_⟩
    have i3 := i1.append i2
    rw [datOf_eq e3] at i3
    exact po_dat at0 po hc hR fun F' e h => .lst h (dqAll_mono e (dqAll_of i3))
theorem o_catM : OpD X (binaryOp .Add) gCatM :=
  opD_of fun F H M x y p q R Q at0 h1 h2 h3 po => by
    obtain ⟨xs, ys, e1, e2, hz, hR⟩ := h3
    obtain ⟨a, vs, rfl, g1, i1⟩ := lsOf_at at0 h1 e1
    obtain ⟨b, us, rfl, g2, i2⟩ := lsOf_at at0 h2 e2
    exact ⟨_, op_cat, a, b, vs, us, rfl, rfl, g1, g2, by rw [← i1.length, ← i2.length]; exact hz, fun c hc => po_lst at0 po hc (i1.append i2) hR⟩
theorem dqAll_app {K : PySem.W.Frag} {F : Hp} : ∀ {xs ys : List PyData} {vs us : List V}, DqAll K F vs xs → DqAll K F us ys → DqAll K F (vs ++ us) (xs ++ ys)
  | _, _, _, _, .nil, h => h
  | _, _, _, _, .cons a t, h => .cons a (dqAll_app t h)
theorem dqAll_len {K : PySem.W.Frag} {F : Hp} : ∀ {xs : List PyData} {vs : List V}, DqAll K F vs xs → vs.length = xs.length
  | _, _, .nil => rfl
  | _, _, .cons _ t => congrArg (· + 1) (dqAll_len t)
/-- tuples (the left one not empty) -/
abbrev gCatT : W2 := fun p q M R => match p, q with
  | .d (.tuple xs), .d (.tuple ys) => xs ≠ [] ∧ xs.length + ys.length ≤ sizeLine ∧ R (.d (.tuple (xs ++ ys))) M
  | _, _ => False
abbrev gRep : W2 := fun p q M R => match q with
  | .d (.int k) => ∃ xs zs, lsOf M p = some xs ∧ datOf xs = some zs ∧ 0 ≤ k ∧ k < 1000000 ∧ xs.length * k.toNat ≤ sizeLine ∧ R (.d (.list (List.replicate k.toNat zs).flatten)) M
  | _ => False
theorem dqAll_rep {K : PySem.W.Frag} {F : Hp} {zs : List PyData} {vs : List V} (h : DqAll K F vs zs) : ∀ n : Nat, DqAll K F (List.replicate n vs).flatten (List.replicate n zs).flatten
  | 0 => .nil
  | n + 1 => by
    rw [List.replicate_succ, List.replicate_succ, List.flatten_cons, List.flatten_cons]
    exact dqAll_app h (dqAll_rep h n)
theorem o_rep : OpD X (binaryOp .Mult) gRep :=
  opD_of fun F H M x y p q R Q at0 h1 h2 h3 po => by
    unfold gRep at h3
    split at h3
    · rename_i k
      obtain ⟨xs, zs, e1, e3, k0, k1, hz, hR⟩ := h3
      obtain ⟨a, vs, rfl, g1, i1⟩ := lsOf_at at0 h1 e1
      rw [datOf_eq e3] at i1
      refine ⟨_, op_rep, a, k, vs, rfl, dq_int h2, g1, by omega, by omega, ?_, fun c hc => ?_⟩
      · have := i1.length
        rw [← datOf_eq e3] at this
        rw [← this]; exact hz
      · exact po_dat at0 po hc hR fun F' e h => .lst h (dqAll_mono e (dqAll_rep (dqAll_of i1) _))
    · exact h3.elim
end

section
variable {X : Cx} {a b c : Expr} {wa wb wc : WE} {pos : Pos}
/-! ### argument lists, displays -/
abbrev wNil : WA := fun _ M R => R [] M
abbrev wCons (wa : WE) (wr : WA) : WA := fun dl M R => wa dl M fun r M1 => wr dl M1 fun rs M2 => R (r :: rs) M2
theorem pda_nil : PDA X [] wNil := pa_imp pa_nil fun st H Q ⟨F, dl, M, R, so, at0, hw, po⟩ => po [] F H [] M hw (Go.refl at0) .nil
theorem pda_cons {e : Expr} {es : List Expr} {wr : WA} (ha : PD X e wa) (hr : PDA X es wr) (hs : starEach (e :: es) X.env = (false, eval e X.env) :: starEach es X.env := by rfl) : PDA X (e :: es) (wCons wa wr) := by
  refine pa_imp (pa_cons ha hr hs) fun st H Q ⟨F, dl, M, R, so, at0, hw, po⟩ => ?_
  refine tD_to so at0 hw fun x F1 H1 p M1 h1 e1 so1 at1 i1 => ?_
  refine tDA_to so1 at1 h1 fun vs F2 H2 rs M2 h2 e2 so2 at2 i2 => ?_
  exact po (x :: vs) F2 H2 (p :: rs) M2 h2 (e1.trans e2) (.cons (is_mono e2.ex i1) i2)
/-- (a, b, ..) of data -/
abbrev wTup (wa : WA) : WE := fun dl M R => wa dl M fun rs M1 => ∃ ds, datOf rs = some ds ∧ ds.length ≤ sizeLine ∧ R (.d (.tuple ds)) M1
/-- [a, b, ..] of data -/
abbrev wLst (wa : WA) : WE := fun dl M R => wa dl M fun rs M1 => ∃ ds, datOf rs = some ds ∧ ds.length ≤ sizeLine ∧ R (.d (.list ds)) M1
/-- [a, b, ..] that may change -/
abbrev wLstM (wa : WA) : WE := fun dl M R => wa dl M fun rs M1 => rs.length ≤ sizeLine ∧ ∀ p, M1 p = none → R (.v (.ref p)) (upM M1 p (.lst rs))
/-- a display makes a plain tuple -/
theorem pe_tupF {X : Cx} {es : List Expr} {pos : Pos} {k : Nat} {ta : TA} (h : PA X es ta) : PE X (.Tuple es k pos) (fun st H Q => ta st H fun xs H1 => xs.length ≤ sizeLine ∧ ∀ p o, o.dict = none → H1 p = none → Q (.ref p) (upd H1 p (.frz o (.tup xs)))) := by
  refine ⟨fun pins s st H Q I hq => wpAny_Tuple_spliced (thn (h.run pos pins s st H _ I hq) fun us s1 ⟨xs, H1, I1, r, z, q⟩ => ⟨r.length ▸ z, ?_⟩)⟩
  let ob : Obj := { cls := .type "tuple", data := .seq us.toArray }
  have got : (s1.heap.push ob).get? s1.heap.objs.size = some ob := Heap.get?_push_size _ rfl
  have J : Inv X pins st (upd H1 s1.heap.objs.size (.frz ob (.tup xs))) { s1 with heap := s1.heap.push ob } := I1.laid (t' := s1.toks) (fun _ _ e => Heap.get?_push_of_some _ e) (Nat.le_refl _) ⟨got, z, us, r, ob, got, rfl, _, rfl⟩
  exact ⟨.ref s1.heap.objs.size, _, J, rfl, q _ ob rfl (I1.hok.fresh (Nat.le_refl _))⟩
theorem pd_tup {es : List Expr} {wr : WA} {k : Nat} (h : PDA X es wr) : PD X (.Tuple es k pos) (wTup wr) := by
  refine pe_imp (pe_tupF h) fun st H Q ⟨F, dl, M, R, so, at0, hw, po⟩ => ?_
  refine tDA_to so at0 hw fun vs F1 H1 rs M1 h1 e1 so1 at1 i1 => ?_
  obtain ⟨ds, hd, hz, hR⟩ := h1
  rw [datOf_eq hd] at i1
  have i2 := dqAll_of i1
  exact ⟨by rw [dqAll_len i2]; exact hz, fun p o ho hp => po_dat at1 (po.mono e1) hp hR fun F' e h => .tup (.inl ⟨o, h, ho⟩) (dqAll_mono e i2)⟩
theorem pd_lst {es : List Expr} {wr : WA} (h : PDA X es wr) : PD X (.List es pos) (wLst wr) := by
  refine pe_imp (pe_lst h) fun st H Q ⟨F, dl, M, R, so, at0, hw, po⟩ => ?_
  refine tDA_to so at0 hw fun vs F1 H1 rs M1 h1 e1 so1 at1 i1 => ?_
  obtain ⟨ds, hd, hz, hR⟩ := h1
  rw [datOf_eq hd] at i1
  have i2 := dqAll_of i1
  exact ⟨by rw [dqAll_len i2]; exact hz, fun p hp => po_dat at1 (po.mono e1) hp hR fun F' e h => .lst h (dqAll_mono e i2)⟩
theorem pd_lstM {es : List Expr} {wr : WA} (h : PDA X es wr) : PD X (.List es pos) (wLstM wr) := by
  refine pe_imp (pe_lst h) fun st H Q ⟨F, dl, M, R, so, at0, hw, po⟩ => ?_
  refine tDA_to so at0 hw fun vs F1 H1 rs M1 h1 e1 so1 at1 i1 => ?_
  obtain ⟨hz, hR⟩ := h1
  exact ⟨by rw [← i1.length]; exact hz, fun p hp => po_lst at1 (po.mono e1) hp i1 hR⟩

/-! ### items and slices -/
theorem atI_all {K : PySem.W.Frag} {F : Hp} {ss : List Sl} {vs : List V} {i : Int} {r : Sl} (h : IsAll K F ss vs) (e : atI ss i = some r) : ∃ v, atI vs i = some v ∧ Is K F r v := by
  unfold atI at e ⊢
  rw [← h.length]
  cases q : ixN ss.length i with
  | none => rw [q] at e; cases e
  | some j =>
    rw [q] at e
    obtain ⟨v, g1, g2⟩ := h.get (i := j) e
    exact ⟨v, g1, g2⟩
/-- the items of what is subscripted by a number -/
def sqOf (M : Mem) : Sl → Option (List Sl)
  | .d (.tuple ds) => some (ds.map Sl.d)
  | r => rlOf M r
theorem sqOf_at {K : PySem.W.Frag} {F H : Hp} {M : Mem} (at0 : At K F M H) {r : Sl} {v : V} {ss : List Sl} (h : Is K F r v) (e : sqOf M r = some ss) : ∃ a vs, v = .ref a ∧ (SqL K H a vs ∨ SqT K H a vs) ∧ IsAll K F ss vs := by
  unfold sqOf at e
  split at e
  · cases e
    obtain ⟨a, vs, rfl, h1, h2⟩ := sqT_at at0 h
    exact ⟨a, vs, rfl, .inr h1, isAll_d h2⟩
  · obtain ⟨a, vs, rfl, h1, h2⟩ := rlOf_at at0 h e
    exact ⟨a, vs, rfl, .inl h1, h2⟩
abbrev gIx : W2 := fun p q M R => match q with
  | .d (.int i) => ∃ ss r, sqOf M p = some ss ∧ atI ss i = some r ∧ R r M
  | _ => False
theorem gIx_to {p q : Sl} {M : Mem} {R : RK} (h : gIx p q M R) : ∃ i ss r, q = .i i ∧ sqOf M p = some ss ∧ atI ss i = some r ∧ R r M := by
  unfold gIx at h
  split at h
  · obtain ⟨ss, r, h1, h2, h3⟩ := h
    exact ⟨_, ss, r, rfl, h1, h2, h3⟩
  · exact h.elim
theorem pd_ix (ha : PD X a wa) (hb : PD X b wb) (hs : PlainIx b := by exact fun _ _ => rfl) : PD X (.Subscript a b pos) (wOp gIx wa wb) := by
  refine pe_imp (pe_ix (ix_list.or ix_tup) ha hb hs) fun st H Q h => tD_op (fun F H M x y p q R Q at0 h1 h2 h3 po => ?_) h
  obtain ⟨i, ss, r, rfl, e1, e2, hR⟩ := gIx_to h3
  obtain ⟨a, vs, rfl, hsq, hall⟩ := sqOf_at at0 h1 e1
  obtain ⟨v, g1, g2⟩ := atI_all hall e2
  have hq := po v F H r M hR (Go.refl at0) g2
  rcases hsq with hsq | hsq
  · exact .inl ⟨a, vs, i, v, rfl, dq_int h2, hsq, g1, hq⟩
  · exact .inr ⟨a, vs, i, v, rfl, dq_int h2, hsq, g1, hq⟩

/-- a part of a slice -/
abbrev WO := Env' → Mem → (Option Int → Mem → Prop) → Prop
def PoO (K : PySem.W.Frag) (F : Hp) (M : Mem) (H : Hp) (R : Option Int → Mem → Prop) (Q : Option Int → Hp → Prop) : Prop := ∀ o F' H' M', R o M' → Go K F M H F' M' H' → Q o H'
def tDO (K : PySem.W.Frag) (w : WO) : TO := fun st H Q => ∃ F dl M R, SOk K F dl st ∧ At K F M H ∧ w dl M R ∧ PoO K F M H R Q
def PDO (X : Cx) (e : Option Expr) (w : WO) : Prop := PO X e (tDO X.K w)
abbrev wNoPart : WO := fun _ M R => R none M
abbrev wPart (wa : WE) : WO := fun dl M R => wa dl M fun r M1 => match r with
  | .d (.int i) => R (some i) M1
  | _ => False
theorem po_imp {e : Option Expr} {t u : TO} (h : PO X e t) (i : ∀ st H Q, u st H Q → t st H Q) : PO X e u := ⟨fun pins s st H Q I q => h.run pins s st H Q I (i st H Q q)⟩
theorem pdo_none : PDO X none wNoPart := po_imp po_none fun st H Q ⟨F, dl, M, R, so, at0, hw, po⟩ => po none F H M hw (Go.refl at0)
theorem pdo_some {e : Expr} (h : PD X e wa) : PDO X (some e) (wPart wa) := by
  refine po_imp (po_some h) fun st H Q ⟨F, dl, M, R, so, at0, hw, po⟩ => ?_
  refine tD_to so at0 hw fun x F1 H1 r M1 h1 e1 so1 at1 i1 => ?_
  split at h1
  · exact ⟨_, dq_int i1, po _ F1 H1 M1 h1 e1⟩
  · exact h1.elim
def cutA {A : Type} (xs : List A) (lo hi : Option Int) : List A := (xs.drop (HT.sIx xs.length 0 lo)).take (HT.sIx xs.length xs.length hi - HT.sIx xs.length 0 lo)
theorem cut_all {K : PySem.W.Frag} {F : Hp} {ss : List Sl} {vs : List V} {lo hi : Option Int} (h : IsAll K F ss vs) : IsAll K F (cutA ss lo hi) (cutV vs lo hi) := by
  unfold cutA cutV
  rw [h.length]
  exact (h.drop _).take _
theorem cut_map {A B : Type} (f : A → B) (xs : List A) (lo hi : Option Int) : cutA (xs.map f) lo hi = (cutA xs lo hi).map f := by
  unfold cutA
  rw [List.length_map, List.map_take, List.map_drop]
/-- s[lo:hi]: a list's to a new datum -/
abbrev wSl (g : Sl → Option Int → Option Int → Mem → RK → Prop) (wa : WE) (wl wh : WO) : WE := fun dl M R => wa dl M fun r M1 => wl dl M1 fun l M2 => wh dl M2 fun h M3 => g r l h M3 R
abbrev gSl : Sl → Option Int → Option Int → Mem → RK → Prop := fun r lo hi M R => match r with
  | .d (.tuple ds) => R (.d (.tuple (cutA ds lo hi))) M
  | r => ∃ ss ds, rlOf M r = some ss ∧ datOf (cutA ss lo hi) = some ds ∧ R (.d (.list ds)) M
abbrev gSlM : Sl → Option Int → Option Int → Mem → RK → Prop := fun r lo hi M R => ∃ ss, rlOf M r = some ss ∧ ∀ p, M p = none → R (.v (.ref p)) (upM M p (.lst (cutA ss lo hi)))
end
end DL

set_option Elab.async false
set_option linter.all false
set_option maxRecDepth 100000
set_option maxHeartbeats 4000000
/-! DC: slices, truth, tests, built-in calls by data. -/
namespace DL
open PySem L2
open Evl (Ex)
section
variable {X : Cx} {a b c : Expr} {wa wb wc : WE} {pos : Pos}
theorem cutA_whole {A : Type} (xs : List A) (lo hi : Option Int) (h : HT.sIx xs.length 0 lo = 0 ∧ HT.sIx xs.length xs.length hi = xs.length) : cutA xs lo hi = xs := by
  unfold cutA
  rw [h.1, h.2, List.drop_zero, Nat.sub_zero, List.take_length]
theorem dqAll_cut {K : PySem.W.Frag} {F : Hp} {ds : List PyData} {vs : List V} {lo hi : Option Int} (h : DqAll K F vs ds) : DqAll K F (cutV vs lo hi) (cutA ds lo hi) := by
  have := cut_all (lo := lo) (hi := hi) (isAll_d h)
  rw [cut_map] at this
  exact dqAll_of this
/-- a cut makes a plain tuple, or is the whole of it -/
def rSlF (K : PySem.W.Frag) : V → Option Int → Option Int → Hp → VK → Prop := fun x lo hi H Q => ∃ a xs, x = .ref a ∧ SqT K H a xs ∧ (HT.sIx xs.length 0 lo = 0 ∧ HT.sIx xs.length xs.length hi = xs.length → Q (.ref a) H) ∧
  (¬ (HT.sIx xs.length 0 lo = 0 ∧ HT.sIx xs.length xs.length hi = xs.length) → ∀ p o, o.dict = none → H p = none → Q (.ref p) (upd H p (.frz o (.tup (cutV xs lo hi)))))
theorem sl_tupF : SlR X (rSlF X.K) := by
  intro pins s st H x v vl vu lo hi sl Q I rx hs pl pu ⟨a, xs, ex, hx, q1, q2⟩
  subst ex
  by_cases hw : HT.sIx xs.length 0 lo = 0 ∧ HT.sIx xs.length xs.length hi = xs.length
  · exact sl_tupA pins s st H _ v vl vu lo hi sl Q I rx hs pl pu ⟨a, xs, rfl, hx, q1, fun z => absurd hw z⟩
  · cases rx
    obtain ⟨us, r, ht, hz⟩ := I.tuple hx
    have hl : us.toArray.size = xs.length := (List.size_toArray ..).trans r.length.symm
    refine ⟨"tuple", _, PyProof.Rows.slot_tuple_getitem.lookup, ht.typeIs, HT.getItem_tuple_cut ht hs pl pu (hl.symm ▸ hw) ?_ (hl.symm ▸ hz)⟩
    rw [hl]
    have r2 := (r.drop (HT.sIx xs.length 0 lo)).take (HT.sIx xs.length xs.length hi - HT.sIx xs.length 0 lo)
    generalize (us.drop (HT.sIx xs.length 0 lo)).take (HT.sIx xs.length xs.length hi - HT.sIx xs.length 0 lo) = cut at r2 ⊢
    let ob : Obj := { cls := .type "tuple", data := .seq cut.toArray }
    have got : (s.heap.push ob).get? s.heap.objs.size = some ob := Heap.get?_push_size _ rfl
    have J : Inv X pins st (upd H s.heap.objs.size (.frz ob (.tup (cutV xs lo hi)))) { s with heap := s.heap.push ob } := I.laid (t' := s.toks) (fun _ _ e => Heap.get?_push_of_some _ e) (Nat.le_refl _) ⟨got, Nat.le_trans (cutV_length xs lo hi) hz, cut, r2, ob, got, rfl, _, rfl⟩
    exact ⟨.ref s.heap.objs.size, _, J, rfl, q2 hw _ ob rfl (I.hok.fresh (Nat.le_refl _))⟩
theorem pd_slice {lo hi : Option Expr} {wl wh : WO} {p2 : Pos} (ha : PD X a wa) (hl : PDO X lo wl) (hh : PDO X hi wh) : PD X (.Subscript a (.Slice lo hi none p2) pos) (wSl gSl wa wl wh) := by
  refine pe_imp (pe_slice (sl_list.or sl_tupF) ha hl hh) fun st H Q ⟨F, dl, M, R, so, at0, hw, po⟩ => ?_
  refine tD_to so at0 hw fun x F1 H1 r M1 h1 e1 so1 at1 i1 => ?_
  refine ⟨F1, dl, M1, _, so1, at1, h1, fun l F2 H2 M2 h2 e2 => ?_⟩
  refine ⟨F2, dl, M2, _, sok_mono e2.ex so1, e2.at', h2, fun h F3 H3 M3 h3 e3 => ?_⟩
  have at3 := e3.at'
  have i3 := is_mono (e2.trans e3).ex i1
  have po3 := po.mono ((e1.trans e2).trans e3)
  unfold gSl at h3
  split at h3
  · obtain ⟨c, vs, rfl, q1, q2⟩ := sqT_at at3 i3
    refine .inr ⟨c, vs, rfl, q1, fun hwh => ?_, fun _ p o ho hp => po_dat at3 po3 hp h3 fun F' e hh => .tup (.inl ⟨o, hh, ho⟩) (dqAll_mono e (dqAll_cut q2))⟩
    have hwh' := hwh
    rw [dqAll_len q2] at hwh'
    rw [cutA_whole _ _ _ hwh'] at h3
    exact po3 _ F3 H3 _ M3 h3 (Go.refl at3) i3
  · obtain ⟨ss, ds, g1, g2, hR⟩ := h3
    obtain ⟨c, vs, rfl, q1, q2⟩ := rlOf_at at3 i3 g1
    have q3 := cut_all (lo := l) (hi := h) q2
    rw [datOf_eq g2] at q3
    exact .inl ⟨c, vs, rfl, q1, fun p hp => po_dat at3 po3 hp hR fun F' e hh => .lst hh (dqAll_mono e (dqAll_of q3))⟩
theorem pd_sliceM {lo hi : Option Expr} {wl wh : WO} {p2 : Pos} (ha : PD X a wa) (hl : PDO X lo wl) (hh : PDO X hi wh) : PD X (.Subscript a (.Slice lo hi none p2) pos) (wSl gSlM wa wl wh) := by
  refine pe_imp (pe_slice sl_list ha hl hh) fun st H Q ⟨F, dl, M, R, so, at0, hw, po⟩ => ?_
  refine tD_to so at0 hw fun x F1 H1 r M1 h1 e1 so1 at1 i1 => ?_
  refine ⟨F1, dl, M1, _, so1, at1, h1, fun l F2 H2 M2 h2 e2 => ?_⟩
  refine ⟨F2, dl, M2, _, sok_mono e2.ex so1, e2.at', h2, fun h F3 H3 M3 h3 e3 => ?_⟩
  have at3 := e3.at'
  have i3 := is_mono (e2.trans e3).ex i1
  have po3 := po.mono ((e1.trans e2).trans e3)
  obtain ⟨ss, g1, hR⟩ := h3
  obtain ⟨c, vs, rfl, q1, q2⟩ := rlOf_at at3 i3 g1
  exact ⟨c, vs, rfl, q1, fun p hp => po_lst at3 po3 hp (cut_all q2) hR⟩

/-! ### truth -/
def tru (M : Mem) : Sl → Option Bool
  | .d .none => some false
  | .d (.bool b) => some b
  | .d (.int i) => some (i != 0)
  | .d (.str s) => if s.length ≤ sizeLine then some ((s.length : Int) != 0) else none
  | .d (.list ds) => some (!ds.isEmpty)
  | .d (.tuple ds) => some (!ds.isEmpty)
  | .d (.dict _) => none
  | .v (.ref p) => match M p with
    | some (.lst ss) => some (!ss.isEmpty)
    | some (.dic ks) => some (!ks.isEmpty)
    | some (.lok _ _ _) => none
    | some (.ob _ _) => none
    | none => none
  | .v _ => none
  | .r ns => some (!ns.isEmpty)
  | .w ds => some (!ds.isEmpty)
theorem all2_isEmpty {A B : Type} {R : A → B → Prop} {as : List A} {bs : List B} (h : All2 R as bs) : as.isEmpty = bs.isEmpty := by cases h <;> rfl
theorem dqAll_isEmpty {K : PySem.W.Frag} {F : Hp} {ds : List PyData} {vs : List V} (h : DqAll K F vs ds) : ds.isEmpty = vs.isEmpty := by cases h <;> rfl
theorem tru_at {K : PySem.W.Frag} {F H : Hp} {M : Mem} (at0 : At K F M H) : ∀ {r : Sl} {v : V} {k : Bool}, Is K F r v → tru M r = some k → TruV K v H k
  | .d .none, _, _, h, e => by cases e; cases h; exact rfl
  | .d (.bool b), _, _, h, e => by cases e; cases h; exact rfl
  | .d (.int b), _, _, h, e => by cases e; cases h; exact rfl
  | .d (.str s), _, _, h, e => by
    cases h
    simp only [tru] at e
    split at e
    · rename_i hz; cases e; exact ⟨hz, rfl⟩
    · cases e
  | .d (.list ds), _, _, h, e => by
    cases e
    cases h with
    | lst h1 h2 => exact .inl ⟨_, SqL.of (at0.ex _ _ h1), by rw [dqAll_isEmpty h2]⟩
  | .d (.tuple ds), _, _, h, e => by
    cases e
    cases h with
    | tup h1 h2 => exact .inr (.inl ⟨_, Evl.ex_t at0.ex h1.sq, by rw [dqAll_isEmpty h2]⟩)
  | .d (.dict _), _, _, _, e => by cases e
  | .r ns, _, _, ⟨a, h1, h2⟩, e => by
    cases e
    subst h1
    exact .inl ⟨_, ex_l at0.ex h2, by cases ns <;> rfl⟩
  | .w ds, _, _, ⟨a, vs, h1, h2, h3⟩, e => by
    cases e
    subst h1
    exact .inr (.inl ⟨_, Evl.ex_t at0.ex h2, by rw [dqAll_isEmpty h3]⟩)
  | .v (.ref p), v, k, h, e => by
    have h' : v = .ref p := h
    subst h'
    simp only [tru] at e
    split at e
    · rename_i ss q
      cases e
      obtain ⟨_, vs, h1, h2⟩ := at0.mem p _ q
      exact .inl ⟨_, SqL.of h1, by rw [all2_isEmpty h2]⟩
    · rename_i ks q
      cases e
      obtain ⟨_, vs, h1, h2⟩ := at0.mem p _ q
      exact .inr (.inr ⟨_, h1, by rw [all2_isEmpty h2]⟩)
    · cases e
    · cases e
    · cases e
abbrev wOr (wa wb : WE) : WE := fun dl M R => wa dl M fun r M1 => ∃ k, tru M1 r = some k ∧ if k = true then R r M1 else wb dl M1 R
abbrev wAnd (wa wb : WE) : WE := fun dl M R => wa dl M fun r M1 => ∃ k, tru M1 r = some k ∧ if k = true then wb dl M1 R else R r M1
abbrev wNot (wa : WE) : WE := fun dl M R => wa dl M fun r M1 => ∃ k, tru M1 r = some k ∧ R (.b (!k)) M1
theorem pd_one {op : BoolOp} (h : PD X a wa) : PD X (.BoolOp op [a] pos) wa := pe_one h
theorem pd_or {rest : List Expr} (ha : PD X a wa) (hb : PD X (.BoolOp .Or (b :: rest) pos) wb) : PD X (.BoolOp .Or (a :: b :: rest) pos) (wOr wa wb) := by
  refine pe_imp (pe_orT ha hb) fun st H Q ⟨F, dl, M, R, so, at0, hw, po⟩ => ?_
  refine tD_to so at0 hw fun x F1 H1 r M1 h1 e1 so1 at1 i1 => ?_
  obtain ⟨k, hk, h1⟩ := h1
  refine ⟨k, tru_at at1 i1 hk, ?_⟩
  cases k with
  | true => exact po _ F1 H1 _ M1 h1 e1 i1
  | false => exact tD_to so1 at1 h1 fun x F2 H2 r M2 h2 e2 so2 at2 i2 => po _ F2 H2 _ M2 h2 (e1.trans e2) i2
theorem pd_and {rest : List Expr} (ha : PD X a wa) (hb : PD X (.BoolOp .And (b :: rest) pos) wb) : PD X (.BoolOp .And (a :: b :: rest) pos) (wAnd wa wb) := by
  refine pe_imp (pe_andT ha hb) fun st H Q ⟨F, dl, M, R, so, at0, hw, po⟩ => ?_
  refine tD_to so at0 hw fun x F1 H1 r M1 h1 e1 so1 at1 i1 => ?_
  obtain ⟨k, hk, h1⟩ := h1
  refine ⟨k, tru_at at1 i1 hk, ?_⟩
  cases k with
  | false => exact po _ F1 H1 _ M1 h1 e1 i1
  | true => exact tD_to so1 at1 h1 fun x F2 H2 r M2 h2 e2 so2 at2 i2 => po _ F2 H2 _ M2 h2 (e1.trans e2) i2
theorem pd_not (ha : PD X a wa) : PD X (.UnaryOp .Not a pos) (wNot wa) := by
  refine pe_imp (pe_notT ha) fun st H Q ⟨F, dl, M, R, so, at0, hw, po⟩ => ?_
  refine tD_to so at0 hw fun x F1 H1 r M1 h1 e1 so1 at1 i1 => ?_
  obtain ⟨k, hk, h1⟩ := h1
  exact ⟨k, tru_at at1 i1 hk, po _ F1 H1 _ M1 h1 e1 (.bl _)⟩

/-! ### tests -/
/-- an expression's truth -/
abbrev wTru (wa : WE) : WT := fun dl M R => wa dl M fun r M1 => ∃ k, tru M1 r = some k ∧ R k M1
theorem pdt_tru (ha : PD X a wa) (he : ∀ whole, isTrue a X.env whole = (do let v ← whole; standAt a.pos; holding [v] (truthy v)) := by intro _; rfl) : PDT X a (wTru wa) := by
  refine pt_imp (pt_truth ha he) fun st H Q ⟨F, dl, M, R, so, at0, hw, po⟩ => ?_
  refine tD_to so at0 hw fun x F1 H1 r M1 h1 e1 so1 at1 i1 => ?_
  obtain ⟨k, hk, h1⟩ := h1
  exact ⟨k, tru_at at1 i1 hk, po k F1 H1 M1 h1 e1⟩
/-- a comparison -/
abbrev wBl (wa : WE) : WT := fun dl M R => wa dl M fun r M1 => match r with
  | .d (.bool k) => R k M1
  | _ => False
theorem pdt_cmp {op : CmpOp} {g : W2} (ho : OpD X (compareOp op) g) (ha : PD X a wa) (hb : PD X b wb) (hm : behindInMarks op b = false) : PDT X (.Compare a [op] [b] pos) (wBl (wOp g wa wb)) := by
  obtain ⟨r, h1, h2⟩ := ho
  refine pt_imp (pt_cmpR h1 ha hb hm) fun st H Q ⟨F, dl, M, R, so, at0, hw, po⟩ => ?_
  refine tD_op h2 (Q := fun x H' => ∃ k, x = V.bl k ∧ Q k H') ⟨F, dl, M, _, so, at0, hw, fun v F' H' r M' hr e i1 => ?_⟩
  split at hr
  · exact ⟨_, dq_bl i1, po _ F' H' M' hr e⟩
  · exact hr.elim
abbrev wTNot (w : WT) : WT := fun dl M R => w dl M fun k M1 => R (!k) M1
abbrev wTAnd (w u : WT) : WT := fun dl M R => w dl M fun k M1 => if k = true then u dl M1 R else R false M1
abbrev wTOr (w u : WT) : WT := fun dl M R => w dl M fun k M1 => if k = true then R true M1 else u dl M1 R
theorem pdt_not {w : WT} (h : PDT X a w) : PDT X (.UnaryOp .Not a pos) (wTNot w) := by
  refine pt_imp (pt_not h) fun st H Q ⟨F, dl, M, R, so, at0, hw, po⟩ => ?_
  exact tDT_to so at0 hw fun k F1 H1 M1 h1 e1 so1 at1 => po _ F1 H1 M1 h1 e1
def PDW (X : Cx) (e : Expr) (w : WT) : Prop := PW X e (tDT X.K w)
theorem pw_imp {e : Expr} {t u : TT} (h : PW X e t) (i : ∀ st H Q, u st H Q → t st H Q) : PW X e u := ⟨fun wh pins s st H Q I q => h.run wh pins s st H Q I (i st H Q q)⟩
theorem PDW.t {e : Expr} {w : WT} (h : PDW X e w) : PDT X e w := PW.pt h
theorem pdw_and1 {w : WT} (h : PDT X a w) : PDW X (.BoolOp .And [a] pos) w := pw_and1 h
theorem pdw_or1 {w : WT} (h : PDT X a w) : PDW X (.BoolOp .Or [a] pos) w := pw_or1 h
theorem pdw_and {w u : WT} {rest : List Expr} (h : PDT X a w) (k : PDW X (.BoolOp .And (b :: rest) pos) u) : PDW X (.BoolOp .And (a :: b :: rest) pos) (wTAnd w u) := by
  refine pw_imp (pw_and h k) fun st H Q ⟨F, dl, M, R, so, at0, hw, po⟩ => ?_
  refine tDT_to so at0 hw fun k F1 H1 M1 h1 e1 so1 at1 => ?_
  cases k with
  | false => exact po _ F1 H1 M1 h1 e1
  | true => exact tDT_to so1 at1 h1 fun k F2 H2 M2 h2 e2 so2 at2 => po _ F2 H2 M2 h2 (e1.trans e2)
theorem pdw_or {w u : WT} {rest : List Expr} (h : PDT X a w) (k : PDW X (.BoolOp .Or (b :: rest) pos) u) : PDW X (.BoolOp .Or (a :: b :: rest) pos) (wTOr w u) := by
  refine pw_imp (pw_or h k) fun st H Q ⟨F, dl, M, R, so, at0, hw, po⟩ => ?_
  refine tDT_to so at0 hw fun k F1 H1 M1 h1 e1 so1 at1 => ?_
  cases k with
  | true => exact po _ F1 H1 M1 h1 e1
  | false => exact tDT_to so1 at1 h1 fun k F2 H2 M2 h2 e2 so2 at2 => po _ F2 H2 M2 h2 (e1.trans e2)
/-- a if t else b -/
abbrev wIf (w : WT) (wa wb : WE) : WE := fun dl M R => w dl M fun k M1 => if k = true then wa dl M1 R else wb dl M1 R
theorem pd_if {w : WT} (h : PDT X c w) (ha : PD X a wa) (hb : PD X b wb) : PD X (.IfExp c a b pos) (wIf w wa wb) := by
  refine pe_imp (pe_ifExp h ha hb) fun st H Q ⟨F, dl, M, R, so, at0, hw, po⟩ => ?_
  refine tDT_to so at0 hw fun k F1 H1 M1 h1 e1 so1 at1 => ?_
  cases k with
  | true => exact tD_to so1 at1 h1 fun x F2 H2 r M2 h2 e2 so2 at2 i2 => po _ F2 H2 _ M2 h2 (e1.trans e2) i2
  | false => exact tD_to so1 at1 h1 fun x F2 H2 r M2 h2 e2 so2 at2 i2 => po _ F2 H2 _ M2 h2 (e1.trans e2) i2
/-- a < b < c -/
abbrev wChain (g g' : W2) (wa wb wc : WE) : WE := fun dl M R => wa dl M fun p M1 => wb dl M1 fun q M2 => g p q M2 fun z M3 => match z with
  | .d (.bool k) => if k = true then wc dl M3 fun r M4 => g' q r M4 R else R (.b false) M3
  | _ => False
end

/-! ### calls of built-in functions and types -/
abbrev WCl := List Sl → Mem → RK → Prop
def CaD (X : Cx) (f : Value) (g : WCl) : Prop := ∃ r : List V → Hp → VK → Prop, CallR X f r ∧ ∀ (F H : Hp) (M : Mem) (vs : List V) (rs : List Sl) (R : RK) (Q : VK), At X.K F M H → IsAll X.K F rs vs → g rs M R → Po X.K F M H R Q → r vs H Q
def rAnyC (X : Cx) (f : Value) : List V → Hp → VK → Prop := fun vs H Q => ∃ r, CallR X f r ∧ r vs H Q
theorem callR_any {X : Cx} {f : Value} : CallR X f (rAnyC X f) := fun pins s st H vs us Q I rv ⟨_, ho, h⟩ => ho pins s st H vs us Q I rv h
theorem caD_of {X : Cx} {f : Value} {g : WCl} (h : ∀ (F H : Hp) (M : Mem) (vs : List V) (rs : List Sl) (R : RK) (Q : VK), At X.K F M H → IsAll X.K F rs vs → g rs M R → Po X.K F M H R Q → rAnyC X f vs H Q) : CaD X f g := ⟨rAnyC X f, callR_any, h⟩
abbrev wCall (g : WCl) (wa : WA) : WE := fun dl M R => wa dl M fun rs M1 => g rs M1 R
section
variable {X : Cx} {x : Str} {p pos : Pos} {e : Expr} {es : List Expr} {wa : WA} {id T : String} {g : WCl}
theorem tD_call {K : PySem.W.Frag} {r : List V → Hp → VK → Prop} {g : WCl} (hr : ∀ (F H : Hp) (M : Mem) (vs : List V) (rs : List Sl) (R : RK) (Q : VK), At K F M H → IsAll K F rs vs → g rs M R → Po K F M H R Q → r vs H Q) {st : St} {H : Hp} {Q : VK}
    (h : tD K (wCall g wa) st H Q) : tCB r (tDA K wa) st H Q := by
  obtain ⟨F, dl, M, R, so, at0, hw, po⟩ := h
  exact tDA_to so at0 hw fun vs F1 H1 rs M1 h1 e1 so1 at1 i1 => hr F1 H1 M1 vs rs R Q at1 i1 h1 (po.mono e1)
theorem pd_callB (hc : CaD X (.builtin id) g) (hg : Gl X x) (hm : X.mg x = none) (hv : bootBuiltins x = some (.builtin id)) (ha : PDA X (e :: es) wa) (hn : x ≠ "__name__" := by decide) (hdb : (x == ("__debug__" : Str)) = false := by decide)
    (he : starEach (e :: es) X.env = (false, eval e X.env) :: starEach es X.env := by rfl) (hpl : (backTo pos (starEach es X.env)).any (·.1) = false := by rfl) : PD X (.Call (.Name x p) (e :: es) [] pos) (wCall g wa) := by
  obtain ⟨r, h1, h2⟩ := hc
  exact pe_imp (pe_callB h1 hg hm hv ha hn hdb he hpl) fun st H Q h => tD_call h2 h
theorem pd_callT (hc : CaD X (.type T) g) (hg : Gl X x) (hm : X.mg x = none) (hv : bootBuiltins x = some (.type T)) (ha : PDA X (e :: es) wa) (hn : x ≠ "__name__" := by decide) (hdb : (x == ("__debug__" : Str)) = false := by decide)
    (he : starEach (e :: es) X.env = (false, eval e X.env) :: starEach es X.env := by rfl) (hpl : (backTo pos (starEach es X.env)).any (·.1) = false := by rfl) : PD X (.Call (.Name x p) (e :: es) [] pos) (wCall g wa) := by
  obtain ⟨r, h1, h2⟩ := hc
  exact pe_imp (pe_callTy h1 hg hm hv ha hn hdb he hpl) fun st H Q h => tD_call h2 h

theorem isAll1 {K : PySem.W.Frag} {F : Hp} {r : Sl} {vs : List V} (h : IsAll K F [r] vs) : ∃ v, vs = [v] ∧ Is K F r v := by
  cases h with
  | cons h t => cases t; exact ⟨_, rfl, h⟩
theorem isAll2 {K : PySem.W.Frag} {F : Hp} {r q : Sl} {vs : List V} (h : IsAll K F [r, q] vs) : ∃ v u, vs = [v, u] ∧ Is K F r v ∧ Is K F q u := by
  cases h with
  | cons h t => obtain ⟨u, rfl, h2⟩ := isAll1 t; exact ⟨_, _, rfl, h, h2⟩
/-- one argument -/
abbrev g1 (g : Sl → Mem → RK → Prop) : WCl := fun rs M R => match rs with
  | [r] => g r M R
  | _ => False
theorem ca1 {f : Value} {g : Sl → Mem → RK → Prop} (h : ∀ (F H : Hp) (M : Mem) (v : V) (r : Sl) (R : RK) (Q : VK), At X.K F M H → Is X.K F r v → g r M R → Po X.K F M H R Q → rAnyC X f [v] H Q) : CaD X f (g1 g) :=
  caD_of fun F H M vs rs R Q at0 i1 h1 po => by
    unfold g1 at h1
    split at h1
    · obtain ⟨v, rfl, i2⟩ := isAll1 i1
      exact h F H M v _ R Q at0 i2 h1 po
    · exact h1.elim
abbrev gAbs : Sl → Mem → RK → Prop := fun r M R => match r with
  | .d (.int i) => R (.i (if i < 0 then -i else i)) M
  | _ => False
theorem c_abs : CaD X (.builtin "abs") (g1 gAbs) := ca1 fun F H M v r R Q at0 i1 h1 po => by
  unfold gAbs at h1
  split at h1
  · exact ⟨_, call_abs, _, by rw [dq_int i1], po _ F H _ M h1 (Go.refl at0) (.int _)⟩
  · exact h1.elim
abbrev gInt : Sl → Mem → RK → Prop := fun r M R => match r with
  | .d (.int i) => R (.i i) M
  | .d (.bool k) => R (.i (if k then 1 else 0)) M
  | _ => False
theorem c_int : CaD X (.type "int") (g1 gInt) := ca1 fun F H M v r R Q at0 i1 h1 po => by
  unfold gInt at h1
  split at h1
  · exact ⟨_, call_int1, .inl ⟨_, by rw [dq_int i1], po _ F H _ M h1 (Go.refl at0) (.int _)⟩⟩
  · exact ⟨_, call_int1, .inr ⟨_, by rw [dq_bl i1], po _ F H _ M h1 (Go.refl at0) (.int _)⟩⟩
  · exact h1.elim
/-- how many items -/
def lenOf (M : Mem) (r : Sl) : Option Nat := (sqOf M r).map (·.length)
abbrev gLen : Sl → Mem → RK → Prop := fun r M R => ∃ ss, sqOf M r = some ss ∧ R (.i (ss.length : Int)) M
theorem c_len : CaD X (.builtin "len") (g1 gLen) := ca1 fun F H M v r R Q at0 i1 h1 po => by
  obtain ⟨ss, e, hR⟩ := h1
  obtain ⟨a, vs, rfl, hsq, hall⟩ := sqOf_at at0 i1 e
  exact ⟨_, call_len_seq, a, vs, rfl, hsq, po _ F H _ M hR (Go.refl at0) (by rw [hall.length]; exact .int _)⟩
abbrev gLenS : Sl → Mem → RK → Prop := fun r M R => match r with
  | .d (.str s) => s.length ≤ sizeLine ∧ R (.i (s.length : Int)) M
  | _ => False
theorem c_lenS : CaD X (.builtin "len") (g1 gLenS) := ca1 fun F H M v r R Q at0 i1 h1 po => by
  unfold gLenS at h1
  split at h1
  · exact ⟨_, call_len_str, _, by rw [dq_str i1], h1.1, po _ F H _ M h1.2 (Go.refl at0) (.int _)⟩
  · exact h1.elim
/-- list(s) to a datum, to what may change; tuple(s) -/
abbrev gList : Sl → Mem → RK → Prop := fun r M R => ∃ ss ds, sqOf M r = some ss ∧ datOf ss = some ds ∧ R (.d (.list ds)) M
abbrev gListM : Sl → Mem → RK → Prop := fun r M R => ∃ ss, sqOf M r = some ss ∧ ∀ p, M p = none → R (.v (.ref p)) (upM M p (.lst ss))
def sqOf' (M : Mem) : Sl → Option (List Sl)
  | .d (.tuple ds) => some (ds.map Sl.d)
  | r => lsOf M r
theorem sqOf'_at {K : PySem.W.Frag} {F H : Hp} {M : Mem} (at0 : At K F M H) {r : Sl} {v : V} {ss : List Sl} (h : Is K F r v) (e : sqOf' M r = some ss) : ∃ a vs, v = .ref a ∧ (SqL K H a vs ∨ SqT K H a vs) ∧ IsAll K F ss vs := by
  unfold sqOf' at e
  split at e
  · cases e
    obtain ⟨a, vs, rfl, h1, h2⟩ := sqT_at at0 h
    exact ⟨a, vs, rfl, .inr h1, isAll_d h2⟩
  · obtain ⟨a, vs, rfl, h1, h2⟩ := lsOf_at at0 h e
    exact ⟨a, vs, rfl, .inl (SqL.of h1), h2⟩
abbrev gTuple : Sl → Mem → RK → Prop := fun r M R => ∃ ss ds, sqOf' M r = some ss ∧ datOf ss = some ds ∧ R (.d (.tuple ds)) M
theorem c_list : CaD X (.type "list") (g1 gList) := ca1 fun F H M v r R Q at0 i1 h1 po => by
  obtain ⟨ss, ds, e, ed, hR⟩ := h1
  obtain ⟨a, vs, rfl, hsq, hall⟩ := sqOf_at at0 i1 e
  rw [datOf_eq ed] at hall
  exact ⟨_, call_list_of, a, vs, rfl, hsq, fun l hl => po_dat at0 po hl hR fun F' e h => .lst h (dqAll_mono e (dqAll_of hall))⟩
theorem c_listM : CaD X (.type "list") (g1 gListM) := ca1 fun F H M v r R Q at0 i1 h1 po => by
  obtain ⟨ss, e, hR⟩ := h1
  obtain ⟨a, vs, rfl, hsq, hall⟩ := sqOf_at at0 i1 e
  exact ⟨_, call_list_of, a, vs, rfl, hsq, fun l hl => po_lst at0 po hl hall hR⟩
/-- tuple(a list) makes a plain tuple -/
theorem call_tupF {X : Cx} : CallR X (.type "tuple") (fun xs H Q => ∃ p ys, xs = [.ref p] ∧ SqL X.K H p ys ∧ ∀ l o, o.dict = none → H l = none → Q (.ref l) (upd H l (.frz o (.tup ys)))) := by
  intro pins s st H xs us Q I r ⟨p, ys, ex, hq, q⟩
  subst ex
  obtain ⟨u, eu, rx⟩ := vals1 r
  subst eu
  cases rx
  obtain ⟨ws, r2, pl, hz⟩ := I.list hq
  have hl := r2.length
  refine call_tuple_list pl.isList (fun h2 kp => ?_) (by rw [List.size_toArray]; omega)
  have I1 : Inv X pins st H { s with heap := h2 } := I.kept (t' := s.toks) kp
  let ob : Obj := { cls := .type "tuple", data := .seq ws.toArray }
  have got : (h2.push ob).get? h2.objs.size = some ob := Heap.get?_push_size _ rfl
  have J : Inv X pins st (upd H h2.objs.size (.frz ob (.tup ys))) { s with heap := h2.push ob } := I1.laid (t' := s.toks) (fun _ _ e => Heap.get?_push_of_some _ e) (Nat.le_refl _) ⟨got, hz, ws, r2, ob, got, rfl, _, rfl⟩
  exact ⟨.ref h2.objs.size, _, J, rfl, q _ ob rfl (I1.hok.fresh (Nat.le_refl _))⟩
theorem c_tuple : CaD X (.type "tuple") (g1 gTuple) := ca1 fun F H M v r R Q at0 i1 h1 po => by
  obtain ⟨ss, ds, e, ed, hR⟩ := h1
  unfold sqOf' at e
  split at e
  · cases e
    obtain ⟨a, vs, rfl, hsq, _⟩ := sqT_at at0 i1
    rw [datOf_map] at ed
    cases ed
    exact ⟨_, call_tupleT, a, vs, rfl, hsq, po _ F H _ M hR (Go.refl at0) i1⟩
  · obtain ⟨b, us, rfl, q1, q2⟩ := lsOf_at at0 i1 e
    rw [datOf_eq ed] at q2
    exact ⟨_, call_tupF, b, us, rfl, SqL.of q1, fun l o ho hl => po_dat at0 po hl hR fun F' e h => .tup (.inl ⟨o, h, ho⟩) (dqAll_mono e (dqAll_of q2))⟩
end
end DL

set_option Elab.async false
set_option linter.all false
set_option maxRecDepth 100000
set_option maxHeartbeats 4000000
/-! DD: targets, statements, loops, comprehensions by data. -/
namespace DL
open PySem L2
open Evl (Ex)

/-! ### targets -/
abbrev NK := Env' → Mem → Prop
abbrev WG := Sl → Env' → Mem → NK → Prop
abbrev WGs := List Sl → Env' → Mem → NK → Prop
def tDG (K : PySem.W.Frag) (w : WG) : TG := fun v st H Q => ∃ F dl M r R, SOk K F dl st ∧ At K F M H ∧ Is K F r v ∧ w r dl M R ∧ PoN K F M H R Q
def tDGs (K : PySem.W.Frag) (w : WGs) : TGs := fun vs st H Q => ∃ F dl M rs R, SOk K F dl st ∧ At K F M H ∧ IsAll K F rs vs ∧ w rs dl M R ∧ PoN K F M H R Q
def PDG (X : Cx) (tg : Expr) (w : WG) : Prop := PG X tg (tDG X.K w)
def PDGs (X : Cx) (ts : List Expr) (w : WGs) : Prop := PGs X ts (tDGs X.K w)
section
variable {X : Cx} {pos : Pos}
theorem pg_imp {e : Expr} {t u : TG} (h : PG X e t) (i : ∀ v st H Q, u v st H Q → t v st H Q) : PG X e u := ⟨fun pins s st H v w Q I r q => h.run pins s st H v w Q I r (i v st H Q q)⟩
theorem pgs_imp {e : List Expr} {t u : TGs} (h : PGs X e t) (i : ∀ v st H Q, u v st H Q → t v st H Q) : PGs X e u := ⟨fun pins s st H v w Q I r q => h.run pins s st H v w Q I r (i v st H Q q)⟩
def gN (i : Nat) : WG := fun r dl M R => R (dl.set i (some r)) M
theorem sok_set {K : PySem.W.Frag} {F : Hp} {dl : Env'} {st : St} {i : Nat} {r : Sl} {v : V} (so : SOk K F dl st) (h : Is K F r v) : SOk K F (dl.set i (some r)) (st.set i (some v)) := All2.set (R := SIs K F) (a := some r) (b := some v) (show SIs K F (some r) (some v) from ⟨v, rfl, h⟩) i so
theorem pdg_name (i : Nat) {x : Str} (hN : X.N.Nodup) (hi : X.N[i]? = some x := by rfl) (hx : Loc X.env.scope x := by first | exact .inl rfl | exact .inr rfl) (hf : X.fn x = true ∨ X.env.scope.names.lookup x = some .local := by first | exact .inl rfl | exact .inr rfl | assumption) : PDG X (.Name x pos) (gN i) :=
  pg_imp (pg_name hN hi hx hf) fun v st H Q ⟨F, dl, M, r, R, so, at0, i1, hw, po⟩ => po _ F H _ M hw (Go.refl at0) (sok_set so i1)
abbrev gNil' : WGs := fun rs dl M R => match rs with
  | [] => R dl M
  | _ => False
abbrev gCons' (w : WG) (ws : WGs) : WGs := fun rs dl M R => match rs with
  | r :: rs => w r dl M fun dl1 M1 => ws rs dl1 M1 R
  | [] => False
theorem pdgs_nil : PDGs X [] gNil' := pgs_imp pgs_nil fun v st H Q ⟨F, dl, M, rs, R, so, at0, i1, hw, po⟩ => by
  unfold gNil' at hw
  split at hw
  · cases i1; exact ⟨rfl, po _ F H _ M hw (Go.refl at0) so⟩
  · exact hw.elim
theorem pdgs_cons {e : Expr} {es : List Expr} {w : WG} {ws : WGs} (h1 : PDG X e w) (h2 : PDGs X es ws) (hs : (assignEach (e :: es) X.env).map (·.2) = assign e X.env :: (assignEach es X.env).map (·.2) := by rfl) : PDGs X (e :: es) (gCons' w ws) :=
  pgs_imp (pgs_cons h1 h2 hs) fun v st H Q ⟨F, dl, M, rs, R, so, at0, i1, hw, po⟩ => by
    unfold gCons' at hw
    split at hw
    · cases i1 with
      | cons i1 it =>
        refine ⟨_, _, rfl, F, dl, M, _, _, so, at0, i1, hw, fun st1 F1 H1 dl1 M1 h1 g1 so1 => ?_⟩
        exact ⟨F1, dl1, M1, _, _, so1, g1.at', isAll_mono g1.ex it, h1, po.mono g1⟩
    · exact hw.elim
/-- (a, b, ..) = a tuple -/
def gTup' (n : Nat) (ws : WGs) : WG := fun r dl M R => match r with
  | .d (.tuple ds) => ds.length = n ∧ ws (ds.map Sl.d) dl M R
  | .w ds => ds.length = n ∧ ws (ds.map Sl.d) dl M R
  | _ => False
theorem pdg_tup {es : List Expr} {k n : Nat} {ws : WGs} (hc : X.calm = true) (h : PDGs X es ws) (hn : (assignEach es X.env).length = n := by rfl) (hst : (assignEach es X.env).findIdx? (·.1) = none := by rfl) : PDG X (.Tuple es k pos) (gTup' n ws) :=
  pg_imp (pg_tup hc h hn hst) fun v st H Q ⟨F, dl, M, r, R, so, at0, i1, hw, po⟩ => by
    unfold gTup' at hw
    split at hw
    · obtain ⟨a, vs, rfl, h1, h2⟩ := sqT_at at0 i1
      exact ⟨a, vs, rfl, h1, by rw [dqAll_len h2]; exact hw.1, F, dl, M, _, _, so, at0, isAll_d h2, hw.2, po⟩
    · obtain ⟨a, vs, rfl, h1, h2⟩ := i1
      exact ⟨a, vs, rfl, Evl.ex_t at0.ex h1, by rw [dqAll_len h2]; exact hw.1, F, dl, M, _, _, so, at0, isAll_d h2, hw.2, po⟩
    · exact hw.elim

/-! ### statements -/
abbrev wNext : WS := fun P dl M => P.nx dl M
abbrev wSeq (w u : WS) : WS := fun P dl M => w { P with nx := u P } dl M
theorem pdb_nil : PDB X [] wNext := pss_imp pss_nil fun D st H ⟨F, dl, M, P, so, at0, hw, po⟩ => po.nx _ F H _ M hw (Go.refl at0) so
theorem pdb_cons {s : Stmt} {rest : List Stmt} {w u : WS} (h1 : PDS X s w) (h2 : PDB X rest u) : PDB X (s :: rest) (wSeq w u) :=
  pss_imp (pss_cons h1 h2) fun D st H ⟨F, dl, M, P, so, at0, hw, po⟩ =>
    ⟨F, dl, M, _, so, at0, hw, ⟨fun st1 F1 H1 dl1 M1 k1 g1 so1 => ⟨F1, dl1, M1, P, so1, g1.at', k1, po.mono g1⟩, po.rt, po.bk, po.ct⟩⟩
theorem pdb_one {s : Stmt} {w : WS} (h1 : PDS X s w) : PDB X [s] w := pss_one h1
abbrev wAsg (we : WE) (wg : WG) : WS := fun P dl M => we dl M fun r M1 => wg r dl M1 P.nx
theorem tDS_asg {K : PySem.W.Frag} {we : WE} {wg : WG} {D : Ends} {st : St} {H : Hp} (h : tDS K (wAsg we wg) D st H) : tAsg (tD K we) (tDG K wg) D st H := by
  obtain ⟨F, dl, M, P, so, at0, hw, po⟩ := h
  exact tD_to so at0 hw fun v F1 H1 r M1 h1 g1 so1 at1 i1 => ⟨F1, dl, M1, r, _, so1, at1, i1, h1, po.nx.mono g1⟩
theorem pds_asg {tg e : Expr} {we : WE} {wg : WG} (he : PD X e we) (hg : PDG X tg wg) (hs : swapsWithSole [tg] e pos.line X.env = pure false := by rfl) (hw : swappedStores [tg] e X.env = pure none := by rfl)
    (h1 : (assignEach [tg] X.env).map (·.2) = [assign tg X.env] := by rfl) : PDS X (.Assign [tg] e pos) (wAsg we wg) := ps_imp (ps_asg he hg hs hw h1) fun D st H h => tDS_asg h
theorem pds_set (i : Nat) {x : Str} {e : Expr} {we : WE} {pos' : Pos} (hN : X.N.Nodup) (he : PD X e we) (hi : X.N[i]? = some x := by rfl) (hx : Loc X.env.scope x := by first | exact .inl rfl | exact .inr rfl) (hs : swapsWith e (some (.Name x pos')) pos.line X.env = pure false := by rfl)
    (hf : X.fn x = true ∨ X.env.scope.names.lookup x = some .local := by first | exact .inl rfl | exact .inr rfl | assumption) : PDS X (.Assign [.Name x pos'] e pos) (wAsg we (gN i)) :=
  ps_imp (ps_set hN hi hx he hs hf) fun D st H ⟨F, dl, M, P, so, at0, hw, po⟩ =>
    tD_to so at0 hw fun v F1 H1 r M1 h1 g1 so1 at1 i1 => po.nx _ F1 H1 _ M1 h1 g1 (sok_set so1 i1)
/-- a, b = x, y of two names -/
abbrev wPar (i j : Nat) (wa : WA) : WS := fun P dl M => wa dl M fun rs M1 => match rs with
  | [r, q] => P.nx ((dl.set i (some r)).set j (some q)) M1
  | _ => False
theorem pds_par (i j : Nat) {x y : Str} {a b : Expr} {wa : WA} {px py pt : Pos} {kt k2 pt2} (hc : X.calm = true) (hN : X.N.Nodup) (hij : i ≠ j) (ha : PDA X [a, b] wa) (hi : X.N[i]? = some x := by rfl) (hj : X.N[j]? = some y := by rfl)
    (hx : X.env.scope.names.lookup x = some .local := by rfl) (hy : X.env.scope.names.lookup y = some .local := by rfl)
    (hw : swappedStores [.Tuple [.Name x px, .Name y py] kt pt] (.Tuple [a, b] k2 pt2) X.env = pure (some [x, y]) := by rfl)
    (hs : swapsWithSole [.Tuple [.Name x px, .Name y py] kt pt] (.Tuple [a, b] k2 pt2) pos.line X.env = pure false := by rfl) : PDS X (.Assign [.Tuple [.Name x px, .Name y py] kt pt] (.Tuple [a, b] k2 pt2) pos) (wPar i j wa) :=
  ps_imp (ps_par hc hN hi hj hij hx hy ha hw hs) fun D st H ⟨F, dl, M, P, so, at0, hw, po⟩ =>
    tDA_to so at0 hw fun vs F1 H1 rs M1 h1 g1 so1 at1 i1 => by
      split at h1
      · obtain ⟨v, u, rfl, q1, q2⟩ := isAll2 i1
        exact ⟨v, u, rfl, po.nx _ F1 H1 _ M1 h1 g1 (sok_set (sok_set so1 q1) q2)⟩
      · exact h1.elim
abbrev wRet (we : WE) : WS := fun P dl M => we dl M P.rt
theorem pds_ret {e : Expr} {we : WE} (he : PD X e we) : PDS X (.Return (some e) pos) (wRet we) := ps_imp (ps_ret he) fun D st H ⟨F, dl, M, P, so, at0, hw, po⟩ => ⟨F, dl, M, _, so, at0, hw, po.rt⟩
abbrev wDrop (we : WE) : WS := fun P dl M => we dl M fun _ M1 => P.nx dl M1
theorem pds_expr {e : Expr} {we : WE} (he : PD X e we) (hs : swapsWith e none pos.line X.env = pure false := by rfl) : PDS X (.Expr e pos) (wDrop we) := ps_imp (ps_expr he hs) fun D st H ⟨F, dl, M, P, so, at0, hw, po⟩ =>
  tD_to so at0 hw fun v F1 H1 r M1 h1 g1 so1 at1 i1 => po.nx _ F1 H1 _ M1 h1 g1 so1
abbrev wIfS (c : WT) (w u : WS) : WS := fun P dl M => c dl M fun k M1 => if k = true then w P dl M1 else u P dl M1
theorem pds_if {c : Expr} {a b : List Stmt} {wc : WT} {w u : WS} (hc : PDT X c wc) (ha : PDB X a w) (hb : PDB X b u) : PDS X (.If c a b pos) (wIfS wc w u) := ps_imp (ps_if hc ha hb) fun D st H ⟨F, dl, M, P, so, at0, hw, po⟩ =>
  tDT_to so at0 hw fun k F1 H1 M1 h1 g1 so1 at1 => by
    cases k with
    | true => exact ⟨F1, dl, M1, P, so1, at1, h1, po.mono g1⟩
    | false => exact ⟨F1, dl, M1, P, so1, at1, h1, po.mono g1⟩
abbrev wPass : WS := fun P dl M => P.nx dl M
theorem pds_pass : PDS X (.Pass pos) wPass := ps_imp ps_pass fun D st H ⟨F, dl, M, P, so, at0, hw, po⟩ => po.nx _ F H _ M hw (Go.refl at0) so
abbrev wBreak : WS := fun P dl M => P.bk dl M
theorem pds_break : PDS X (.Break pos) wBreak := ps_imp ps_break fun D st H ⟨F, dl, M, P, so, at0, hw, po⟩ => po.bk _ F H _ M hw (Go.refl at0) so

/-! ### while: by so many turns at most -/
def whGo (c : WT) (wb : WS) (P : PK) : Nat → NK
  | 0 => fun _ _ => False
  | n + 1 => fun dl M => c dl M fun k M1 => if k = true then wb { nx := whGo c wb P n, rt := P.rt, bk := P.nx, ct := whGo c wb P n } dl M1 else P.nx dl M1
abbrev wWhile (c : WT) (wb : WS) : WS := fun P dl M => ∃ n, whGo c wb P n dl M
theorem pds_while {c : Expr} {body : List Stmt} {wc : WT} {wb : WS} (hp : PassesOwn (model X.prog X.w) X.A X.env X.xe) (hc : PDT X c wc) (hb : PDB X body wb) : PDS X (.While c body [] pos) (wWhile wc wb) :=
  ps_imp (ps_while hp hc hb) fun D st H ⟨F, dl, M, P, so, at0, ⟨n, hw⟩, po⟩ => by
    refine ⟨fun n st H => ∃ F dl M, SOk X.K F dl st ∧ At X.K F M H ∧ whGo wc wb P n dl M ∧ PoS X.K F M H P D, ⟨n, F, dl, M, so, at0, hw, po⟩, ?_⟩
    rintro n st H ⟨F, dl, M, so, at0, hw, po⟩
    cases n with
    | zero => exact hw.elim
    | succ n =>
      refine tDT_to so at0 hw fun k F1 H1 M1 h1 g1 so1 at1 => ?_
      cases k with
      | false => exact po.nx _ F1 H1 _ M1 h1 g1 so1
      | true =>
        have po1 := po.mono g1
        refine ⟨fun st H => ∃ F dl M, SOk X.K F dl st ∧ At X.K F M H ∧ whGo wc wb P n dl M ∧ PoS X.K F M H P D, fun st' H' q => ⟨n, Nat.lt_succ_self n, q⟩, F1, dl, M1, _, so1, at1, h1, ?_⟩
        exact ⟨fun st2 F2 H2 dl2 M2 k2 g2 so2 => ⟨F2, dl2, M2, so2, g2.at', k2, po1.mono g2⟩, po1.rt, po1.nx, fun st2 F2 H2 dl2 M2 k2 g2 so2 => ⟨F2, dl2, M2, so2, g2.at', k2, po1.mono g2⟩⟩

/-! ### what is walked: its items, while C stays true of the memory -/
structure Wk (K : PySem.W.Frag) (F0 : Hp) (C : Mem → Prop) (J : It) (items : List Sl) : Prop where
  go : ∀ F M H i, Ex F0 F → At K F M H → C M → i < items.length → J.go i H
  yld : ∀ F M H i x H' r, Ex F0 F → At K F M H → C M → J.yld i H x H' → items[i]? = some r → ∃ F', Go K F M H F' M H' ∧ Is K F' r x
  stop : ∀ F M H, Ex F0 F → At K F M H → C M → J.stop items.length H
abbrev IK := List Sl → (Mem → Prop) → Mem → Prop
abbrev WI := Env' → Mem → IK → Prop
def tDI (K : PySem.W.Frag) (w : WI) : TI := fun st H R => ∃ F dl M T, SOk K F dl st ∧ At K F M H ∧ w dl M T ∧ ∀ F' M' H' items C J, T items C M' → Go K F M H F' M' H' → Wk K F' C J items → R J H'
def PDI (X : Cx) (tg iter : Expr) (w : WI) : Prop := PI X tg iter (tDI X.K w)
theorem pi_imp {tg e : Expr} {t u : TI} (h : PI X tg e t) (i : ∀ st H Q, u st H Q → t st H Q) : PI X tg e u := ⟨fun pins s st H Q I q => h.run pins s st H Q I (i st H Q q)⟩
abbrev C0 : Mem → Prop := fun _ => True
/-- over a list or a tuple that is a datum -/
abbrev wiD (we : WE) : WI := fun dl M T => we dl M fun r M1 => match r with
  | .d (.list ds) => T (ds.map Sl.d) C0 M1
  | .d (.tuple ds) => T (ds.map Sl.d) C0 M1
  | _ => False
theorem wk_list {K : PySem.W.Frag} {F0 : Hp} {a : Addr} {ss : List Sl} {vs : List V} {C : Mem → Prop} (h : ∀ F M H, Ex F0 F → At K F M H → C M → ∃ vs, SqL K H a vs ∧ IsAll K F ss vs) : Wk K F0 C (Itl K a) ss := by
  refine ⟨fun F M H i e at0 c hi => ?_, fun F M H i x H' r e at0 c y hr => ?_, fun F M H e at0 c => ?_⟩
  · obtain ⟨vs, q1, q2⟩ := h F M H e at0 c
    exact ⟨vs, vs[i]'(by rw [← q2.length]; exact hi), q1, by simp [List.getElem?_eq_getElem (by rw [← q2.length]; exact hi : i < vs.length)]⟩
  · obtain ⟨vs, q1, q2⟩ := h F M H e at0 c
    obtain ⟨rfl, y⟩ := y
    obtain ⟨v, h1, h2⟩ := q2.get hr
    have := y vs q1
    rw [h1] at this
    cases this
    exact ⟨F, Go.refl at0, h2⟩
  · obtain ⟨vs, q1, q2⟩ := h F M H e at0 c
    exact ⟨vs, q1, by rw [q2.length]; exact Nat.le_refl _⟩
theorem wk_tup {K : PySem.W.Frag} {F0 : Hp} {a : Addr} {ss : List Sl} {C : Mem → Prop} (h : ∀ F M H, Ex F0 F → At K F M H → C M → ∃ vs, SqT K H a vs ∧ IsAll K F ss vs) : Wk K F0 C (Itt K a) ss := by
  refine ⟨fun F M H i e at0 c hi => ?_, fun F M H i x H' r e at0 c y hr => ?_, fun F M H e at0 c => ?_⟩
  · obtain ⟨vs, q1, q2⟩ := h F M H e at0 c
    exact ⟨vs, vs[i]'(by rw [← q2.length]; exact hi), q1, by simp [List.getElem?_eq_getElem (by rw [← q2.length]; exact hi : i < vs.length)]⟩
  · obtain ⟨vs, q1, q2⟩ := h F M H e at0 c
    obtain ⟨rfl, y⟩ := y
    obtain ⟨v, h1, h2⟩ := q2.get hr
    have := y vs q1
    rw [h1] at this
    cases this
    exact ⟨F, Go.refl at0, h2⟩
  · obtain ⟨vs, q1, q2⟩ := h F M H e at0 c
    exact ⟨vs, q1, by rw [q2.length]; exact Nat.le_refl _⟩
/-- the list's address, the tuple's: two rules (the form is chosen by what the value is) -/
abbrev wiL (we : WE) : WI := fun dl M T => we dl M fun r M1 => match r with
  | .d (.list ds) => T (ds.map Sl.d) C0 M1
  | .v (.ref p) => ∃ ss, M1 p = some (.lst ss) ∧ T ss (fun M => M p = some (.lst ss)) M1
  | _ => False
abbrev wiT (we : WE) : WI := fun dl M T => we dl M fun r M1 => match r with
  | .d (.tuple ds) => T (ds.map Sl.d) C0 M1
  | _ => False
theorem pdi_list {tg e : Expr} {we : WE} (he : PD X e we) : PDI X tg e (wiL we) :=
  pi_imp (pi_list he) fun st H Q ⟨F, dl, M, T, so, at0, hw, po⟩ =>
    tD_to so at0 hw fun v F1 H1 r M1 h1 g1 so1 at1 i1 => by
      split at h1
      · cases i1 with
        | lst q1 q2 =>
          refine ⟨_, rfl, ⟨_, SqL.of (at1.ex _ _ q1)⟩, po F1 M1 H1 _ _ _ h1 g1 (wk_list (vs := []) fun F' M' H' e at' _ => ⟨_, SqL.of (at'.ex _ _ (e _ _ q1)), isAll_mono e (isAll_d q2)⟩)⟩
      · rename_i p
        have i2 : v = .ref p := i1
        subst i2
        obtain ⟨ss, q0, h1⟩ := h1
        obtain ⟨_, vs, q1, q2⟩ := at1.mem p _ q0
        refine ⟨p, rfl, ⟨vs, SqL.of q1⟩, po F1 M1 H1 _ _ _ h1 g1 (wk_list (vs := []) fun F' M' H' e at' c => ?_)⟩
        obtain ⟨_, us, z1, z2⟩ := at'.mem p _ c
        exact ⟨us, SqL.of z1, z2⟩
      · exact h1.elim
theorem pdi_tup {tg e : Expr} {we : WE} (he : PD X e we) : PDI X tg e (wiT we) :=
  pi_imp (pi_tup he) fun st H Q ⟨F, dl, M, T, so, at0, hw, po⟩ =>
    tD_to so at0 hw fun v F1 H1 r M1 h1 g1 so1 at1 i1 => by
      split at h1
      · obtain ⟨a, vs, rfl, q1, q2⟩ := sqT_at at1 i1
        refine ⟨a, rfl, ⟨vs, q1⟩, po F1 M1 H1 _ _ _ h1 g1 (wk_tup fun F' M' H' e at' _ => ?_)⟩
        obtain ⟨b, us, e2, z1, z2⟩ := sqT_at at' (dq_mono e i1)
        cases e2
        exact ⟨us, z1, isAll_d z2⟩
      · exact h1.elim
/-- range(n), range(m, n) -/
def rngS (lo : Int) (n : Nat) : List Sl := (List.range n).map fun (i : Nat) => Sl.i (lo + (i : Int))
theorem wk_range {K : PySem.W.Frag} {F0 : Hp} {lo : Int} {n : Nat} : Wk K F0 C0 (Itr lo n) (rngS lo n) := by
  have hl : (rngS lo n).length = n := by unfold rngS; rw [List.length_map, List.length_range]
  refine ⟨fun F M H i e at0 c hi => ?_, fun F M H i x H' r e at0 c y hr => ?_, fun F M H e at0 c => ?_⟩
  · rw [hl] at hi; exact hi
  · obtain ⟨rfl, rfl⟩ := y
    unfold rngS at hr
    rw [List.getElem?_map] at hr
    obtain ⟨j, hj, rfl⟩ := Option.map_eq_some_iff.mp hr
    obtain ⟨hi, hj⟩ := List.getElem?_eq_some_iff.mp hj
    rw [List.getElem_range] at hj
    subst hj
    exact ⟨F, Go.refl at0, .int _⟩
  · show n ≤ (rngS lo n).length
    rw [hl]; exact Nat.le_refl _
abbrev wiR1 (wa : WA) : WI := fun dl M T => wa dl M fun rs M1 => match rs with
  | [.d (.int n)] => -(2 ^ 62) ≤ n ∧ n < 2 ^ 62 ∧ T (rngS 0 n.toNat) C0 M1
  | _ => False
abbrev wiR2 (wa : WA) : WI := fun dl M T => wa dl M fun rs M1 => match rs with
  | [.d (.int m), .d (.int n)] => (-(2 ^ 62) ≤ m ∧ m < 2 ^ 62 ∧ -(2 ^ 62) ≤ n ∧ n < 2 ^ 62) ∧ T (rngS m (n - m).toNat) C0 M1
  | _ => False
theorem pdi_range1 {tg e : Expr} {wa : WA} {p pos : Pos} (hg : Gl X "range") (hm : X.mg "range" = none) (ha : PDA X [e] wa) (hs : starEach [e] X.env = [(false, eval e X.env)] := by rfl) : PDI X tg (.Call (.Name "range" p) [e] [] pos) (wiR1 wa) :=
  pi_imp (pi_range1 hg hm ha hs) fun st H Q ⟨F, dl, M, T, so, at0, hw, po⟩ =>
    tDA_to so at0 hw fun vs F1 H1 rs M1 h1 g1 so1 at1 i1 => by
      split at h1
      · obtain ⟨v, rfl, i2⟩ := isAll1 i1
        exact ⟨_, by rw [dq_int i2], h1.1, h1.2.1, po F1 M1 H1 _ _ _ h1.2.2 g1 wk_range⟩
      · exact h1.elim
theorem pdi_range2 {tg e e2 : Expr} {wa : WA} {p pos : Pos} (hg : Gl X "range") (hm : X.mg "range" = none) (ha : PDA X [e, e2] wa) (hs : starEach [e, e2] X.env = [(false, eval e X.env), (false, eval e2 X.env)] := by rfl) (hs2 : starEach [e2] X.env = [(false, eval e2 X.env)] := by rfl) : PDI X tg (.Call (.Name "range" p) [e, e2] [] pos) (wiR2 wa) :=
  pi_imp (pi_range2 hg hm ha hs hs2) fun st H Q ⟨F, dl, M, T, so, at0, hw, po⟩ =>
    tDA_to so at0 hw fun vs F1 H1 rs M1 h1 g1 so1 at1 i1 => by
      split at h1
      · obtain ⟨v, u, rfl, i2, i3⟩ := isAll2 i1
        exact ⟨_, _, by rw [dq_int i2, dq_int i3], h1.1, po F1 M1 H1 _ _ _ h1.2 g1 wk_range⟩
      · exact h1.elim

/-! ### for -/
def forGo (g : WG) (wb : WS) (C : Mem → Prop) (P : PK) : List Sl → NK
  | [] => fun dl M => C M ∧ P.nx dl M
  | x :: xs => fun dl M => C M ∧ g x dl M fun dl2 M2 => wb { nx := forGo g wb C P xs, rt := P.rt, bk := P.nx, ct := forGo g wb C P xs } dl2 M2
abbrev wFor (wi : WI) (g : WG) (wb : WS) : WS := fun P dl M => wi dl M fun items C M1 => forGo g wb C P items dl M1
theorem forGo_C {g : WG} {wb : WS} {C : Mem → Prop} {P : PK} : ∀ {xs : List Sl} {dl : Env'} {M : Mem}, forGo g wb C P xs dl M → C M
  | [], _, _, h => h.1
  | _ :: _, _, _, h => h.1
theorem pds_for {tg iter : Expr} {body : List Stmt} {wi : WI} {g : WG} {wb : WS} (hp : PassesOwn (model X.prog X.w) X.A X.env X.xe) (hc : X.calm = true) (hi : PDI X tg iter wi) (hg : PDG X tg g) (hb : PDB X body wb)
    (hs : ∀ x, foldedSetIterable iter X.env x = pure x := by intro _; rfl) : PDS X (.For tg iter body [] pos) (wFor wi g wb) :=
  ps_imp (ps_for hp hc hi hg hb hs) fun D st H ⟨F, dl, M, P, so, at0, hw, po⟩ => by
    refine ⟨F, dl, M, _, so, at0, hw, fun F1 M1 H1 items C J h1 g1 wk => ?_⟩
    refine ⟨fun i m st H => m = items.length - i ∧ i ≤ items.length ∧ ∃ F dl M, Ex F1 F ∧ SOk X.K F dl st ∧ At X.K F M H ∧ forGo g wb C P (items.drop i) dl M ∧ PoS X.K F M H P D,
      ⟨_, rfl, Nat.zero_le _, F1, dl, M1, Ex.refl _, sok_mono g1.ex so, g1.at', h1, po.mono g1⟩, ?_⟩
    rintro i m st H ⟨rfl, hi, F, dl, M, e, so, at0, hw, po⟩
    have c := forGo_C hw
    by_cases hlt : i < items.length
    · refine .inr ⟨wk.go F M H i e at0 c hlt, fun st' H' => i + 1 ≤ items.length ∧ ∃ F dl M, Ex F1 F ∧ SOk X.K F dl st' ∧ At X.K F M H' ∧ forGo g wb C P (items.drop (i + 1)) dl M ∧ PoS X.K F M H' P D, fun st' H' q => ⟨_, by omega, rfl, q⟩, fun x H' y => ?_⟩
      have hx : items[i]? = some items[i] := List.getElem?_eq_getElem hlt
      obtain ⟨F2, g2, i2⟩ := wk.yld F M H i x H' _ e at0 c y hx
      rw [List.drop_eq_getElem_cons hlt] at hw
      obtain ⟨_, hw⟩ := hw
      refine ⟨F2, dl, M, _, _, sok_mono g2.ex so, g2.at', i2, hw, fun st3 F3 H3 dl3 M3 h3 g3 so3 => ?_⟩
      have po3 := po.mono (g2.trans g3)
      have e3 := e.trans (g2.ex.trans g3.ex)
      exact ⟨F3, dl3, M3, _, so3, g3.at', h3, ⟨fun st4 F4 H4 dl4 M4 h4 g4 so4 => ⟨hlt, F4, dl4, M4, e3.trans g4.ex, so4, g4.at', h4, po3.mono g4⟩, po3.rt, po3.nx, fun st4 F4 H4 dl4 M4 h4 g4 so4 => ⟨hlt, F4, dl4, M4, e3.trans g4.ex, so4, g4.at', h4, po3.mono g4⟩⟩⟩
    · have ei : i = items.length := by omega
      subst ei
      rw [List.drop_length] at hw
      exact .inl ⟨wk.stop F M H e at0 c, po.nx _ F H _ M hw.2 (Go.refl at0) so⟩
end
end DL

set_option Elab.async false
set_option linter.all false
set_option maxRecDepth 100000
set_option maxHeartbeats 4000000
/-! DE: comprehensions, defs and their promises. -/
namespace DL
open PySem PySem.Spec L2
open PyProof.Rows (envOfC)
open Evl (Ex)

/-! ### targets of a comprehension: only its own slots change -/
def tDGw (K : PySem.W.Frag) (vs : List Nat) (w : WG) : TG := fun v st H Q => ∃ F dl M r R, SOk K F dl st ∧ At K F M H ∧ Is K F r v ∧ w r dl M R ∧ ∀ st' F' H' dl' M', R dl' M' → Go K F M H F' M' H' → SOk K F' dl' st' → wipe st' vs = wipe st vs → Q st' H'
def tDGsw (K : PySem.W.Frag) (vs : List Nat) (w : WGs) : TGs := fun v st H Q => ∃ F dl M rs R, SOk K F dl st ∧ At K F M H ∧ IsAll K F rs v ∧ w rs dl M R ∧ ∀ st' F' H' dl' M', R dl' M' → Go K F M H F' M' H' → SOk K F' dl' st' → wipe st' vs = wipe st vs → Q st' H'
def PDGw (X : Cx) (vs : List Nat) (tg : Expr) (w : WG) : Prop := PG X tg (tDGw X.K vs w)
def PDGsw (X : Cx) (vs : List Nat) (ts : List Expr) (w : WGs) : Prop := PGs X ts (tDGsw X.K vs w)
theorem wipe_get (st : St) (i : Nat) : ∀ vs : List Nat, (wipe st vs)[i]? = if i ∈ vs then st[i]?.map (fun _ => none) else st[i]?
  | [] => by simp [wipe]
  | v :: vs => by
    unfold wipe
    have ih := wipe_get st i vs
    by_cases hv : v = i
    · subst hv
      rw [if_pos List.mem_cons_self]
      by_cases hl : v < st.length
      · rw [List.getElem?_set_self (by rw [wipe_length]; exact hl), List.getElem?_eq_getElem hl]; rfl
      · rw [List.getElem?_eq_none (by rw [List.length_set, wipe_length]; omega), List.getElem?_eq_none (by omega)]; rfl
    · rw [List.getElem?_set_ne hv, ih]
      by_cases hm : i ∈ vs
      · rw [if_pos hm, if_pos (List.mem_cons_of_mem _ hm)]
      · rw [if_neg hm, if_neg (fun z => by rcases List.mem_cons.mp z with z | z; exact hv z.symm; exact hm z)]
theorem wipe_set (st : St) (o : Option V) (i : Nat) (vs : List Nat) (h : i ∈ vs) : wipe (st.set i o) vs = wipe st vs := by
  apply List.ext_getElem?
  intro j
  rw [wipe_get, wipe_get]
  by_cases hj : i = j
  · subst hj
    rw [if_pos h, if_pos h]
    by_cases hl : i < st.length
    · rw [List.getElem?_set_self hl, List.getElem?_eq_getElem hl]; rfl
    · rw [List.getElem?_eq_none (by rw [List.length_set]; omega), List.getElem?_eq_none (by omega)]
  · rw [List.getElem?_set_ne hj]
theorem wipe_wipe (st : St) (vs : List Nat) : wipe (wipe st vs) vs = wipe st vs := by
  apply List.ext_getElem?
  intro j
  rw [wipe_get, wipe_get]
  by_cases hj : j ∈ vs
  · rw [if_pos hj, if_pos hj]
    cases st[j]? <;> rfl
  · rw [if_neg hj]
section
variable {X : Cx} {pos : Pos} {vs : List Nat}
theorem pdgw_name (i : Nat) {x : Str} (hN : X.N.Nodup) (hv : i ∈ vs := by decide) (hi : X.N[i]? = some x := by rfl) (hx : Loc X.env.scope x := by first | exact .inl rfl | exact .inr rfl) (hf : X.fn x = true ∨ X.env.scope.names.lookup x = some .local := by first | exact .inl rfl | exact .inr rfl | assumption) : PDGw X vs (.Name x pos) (gN i) :=
  pg_imp (pg_name hN hi hx hf) fun v st H Q ⟨F, dl, M, r, R, so, at0, i1, hw, po⟩ => po _ F H _ M hw (Go.refl at0) (sok_set so i1) (wipe_set st _ i vs hv)
theorem pdgsw_nil : PDGsw X vs [] gNil' := pgs_imp pgs_nil fun v st H Q ⟨F, dl, M, rs, R, so, at0, i1, hw, po⟩ => by
  unfold gNil' at hw
  split at hw
  · cases i1; exact ⟨rfl, po _ F H _ M hw (Go.refl at0) so rfl⟩
  · exact hw.elim
theorem pdgsw_cons {e : Expr} {es : List Expr} {w : WG} {ws : WGs} (h1 : PDGw X vs e w) (h2 : PDGsw X vs es ws) (hs : (assignEach (e :: es) X.env).map (·.2) = assign e X.env :: (assignEach es X.env).map (·.2) := by rfl) : PDGsw X vs (e :: es) (gCons' w ws) :=
  pgs_imp (pgs_cons h1 h2 hs) fun v st H Q ⟨F, dl, M, rs, R, so, at0, i1, hw, po⟩ => by
    unfold gCons' at hw
    split at hw
    · cases i1 with
      | cons i1 it =>
        refine ⟨_, _, rfl, F, dl, M, _, _, so, at0, i1, hw, fun st1 F1 H1 dl1 M1 h1 g1 so1 w1 => ?_⟩
        exact ⟨F1, dl1, M1, _, _, so1, g1.at', isAll_mono g1.ex it, h1, fun st2 F2 H2 dl2 M2 h2 g2 so2 w2 => po st2 F2 H2 dl2 M2 h2 (g1.trans g2) so2 (w2.trans w1)⟩
    · exact hw.elim
theorem pdgw_tup {es : List Expr} {k n : Nat} {ws : WGs} (hc : X.calm = true) (h : PDGsw X vs es ws) (hn : (assignEach es X.env).length = n := by rfl) (hst : (assignEach es X.env).findIdx? (·.1) = none := by rfl) : PDGw X vs (.Tuple es k pos) (gTup' n ws) :=
  pg_imp (pg_tup hc h hn hst) fun v st H Q ⟨F, dl, M, r, R, so, at0, i1, hw, po⟩ => by
    unfold gTup' at hw
    split at hw
    · obtain ⟨a, us, rfl, h1, h2⟩ := sqT_at at0 i1
      exact ⟨a, us, rfl, h1, by rw [dqAll_len h2]; exact hw.1, F, dl, M, _, _, so, at0, isAll_d h2, hw.2, po⟩
    · obtain ⟨a, us, rfl, h1, h2⟩ := i1
      exact ⟨a, us, rfl, Evl.ex_t at0.ex h1, by rw [dqAll_len h2]; exact hw.1, F, dl, M, _, _, so, at0, isAll_d h2, hw.2, po⟩
    · exact hw.elim

/-! ### [e for t in it if c] -/
def lcGo (g : WG) (wt : WT) (we : WE) (C : Mem → Prop) (dl : Env') (R : List Sl → Mem → Prop) : List Sl → List Sl → Mem → Prop
  | [], acc, M => C M ∧ R acc M
  | x :: xs, acc, M => C M ∧ g x dl M fun dl2 M2 => wt dl2 M2 fun k M3 => if k = true then we dl2 M3 fun y M4 => acc.length < sizeLine ∧ lcGo g wt we C dl R xs (acc ++ [y]) M4 else lcGo g wt we C dl R xs acc M3
theorem lcGo_C {g : WG} {wt : WT} {we : WE} {C : Mem → Prop} {dl : Env'} {R : List Sl → Mem → Prop} : ∀ {xs acc : List Sl} {M : Mem}, lcGo g wt we C dl R xs acc M → C M
  | [], _, _, h => h.1
  | _ :: _, _, _, h => h.1
def wipeD (dl : Env') : List Nat → Env'
  | [] => dl
  | v :: vs => (wipeD dl vs).set v none
theorem sok_wipe {K : PySem.W.Frag} {F : Hp} {dl : Env'} {st : St} (so : SOk K F dl st) : ∀ vs : List Nat, SOk K F (wipeD dl vs) (wipe st vs)
  | [] => so
  | v :: vs => All2.set (R := SIs K F) (a := none) (b := none) trivial v (sok_wipe so vs)
/-- the comprehension to a datum, to a list that may change -/
abbrev wLc (wi : WI) (g : WG) (wt : WT) (we : WE) (vs : List Nat) : WE := fun dl M R => wi dl M fun items C M1 => lcGo g wt we C (wipeD dl vs) (fun acc M2 => ∃ ds, datOf acc = some ds ∧ R (.d (.list ds)) M2) items [] M1
abbrev wLcM (wi : WI) (g : WG) (wt : WT) (we : WE) (vs : List Nat) : WE := fun dl M R => wi dl M fun items C M1 => lcGo g wt we C (wipeD dl vs) (fun acc M2 => ∀ p, M2 p = none → R (.v (.ref p)) (upM M2 p (.lst acc))) items [] M1
/-- what is at an address that nothing speaks of does not matter -/
theorem At.hid {K : PySem.W.Frag} {F H : Hp} {M : Mem} {p : Addr} {o : HO} (h : At K F M H) (f : F p = none) (m : M p = none) : At K F M (upd H p o) := by
  refine ⟨fun b u z => ?_, fun b u z => ?_⟩
  · rw [upd_ne (ne_of_none z f)]; exact h.ex b u z
  · obtain ⟨q1, q2⟩ := h.mem b u z
    exact ⟨q1, mis_mono (Ex.refl F) (by rw [upd_ne (neM z m)]) q2⟩
structure LcW (K : PySem.W.Frag) (F0 : Hp) (M0 : Mem) (H0 : Hp) (p : Addr) (F : Hp) (M : Mem) (H : Hp) (acc : List Sl) : Prop where
  go : Go K F0 M0 H0 F M H
  f : F p = none
  m : M p = none
  h : ∃ vs, H p = some (.lst vs) ∧ IsAll K F acc vs
theorem LcW.step {K : PySem.W.Frag} {F0 H0 F H F1 H1 : Hp} {M0 M M1 : Mem} {p : Addr} {acc : List Sl} (l : LcW K F0 M0 H0 p F M H acc) (g : Go K F M H F1 M1 H1) : LcW K F0 M0 H0 p F1 M1 H1 acc := by
  obtain ⟨vs, h1, h2⟩ := l.h
  obtain ⟨q1, q2, q3⟩ := g.fr p _ h1 l.f l.m
  exact ⟨l.go.trans g, q2, q3, vs, q1, isAll_mono g.ex h2⟩
theorem lc_run {K : PySem.W.Frag} {g : WG} {wt : WT} {we : WE} {C : Mem → Prop} {dl : Env'} {vs : List Nat} {st : St} {R : List Sl → Mem → Prop} {F1 H1 : Hp} {M1 : Mem} {items : List Sl} {J : It} {Q : VK} {p : Addr} (so : SOk K F1 dl st) (at1 : At K F1 M1 H1) (wk : Wk K F1 C J items) (hp : H1 p = none)
    (h : lcGo g wt we C (wipeD dl vs) R items [] M1) (hQ : ∀ F M H acc, R acc M → LcW K F1 M1 H1 p F M H acc → Q (.ref p) H) :
    ∃ W : Nat → Nat → Hp → Prop, (∃ m, W 0 m (upd H1 p (.lst []))) ∧ ∀ i m H, W i m H →
      (J.stop i H ∧ Q (.ref p) H) ∨ (J.go i H ∧ ∃ Nx : Hp → Prop, (∀ H', Nx H' → ∃ m', m' < m ∧ W (i + 1) m' H') ∧ ∀ x H', J.yld i H x H' → tDGw K vs g x (wipe st vs) H' fun st2 H2 => wipe st2 vs = wipe st vs ∧ tDT K wt st2 H2 fun k H3 =>
        if k = true then tD K we st2 H3 fun y H4 => ∃ acc, H4 p = some (.lst acc) ∧ acc.length < sizeLine ∧ Nx (upd H4 p (.lst (acc ++ [y]))) else Nx H3) := by
  have f1 := at1.freeF hp
  have m1 := at1.freeM hp
  refine ⟨fun i m H => m = items.length - i ∧ i ≤ items.length ∧ ∃ F M acc, LcW K F1 M1 H1 p F M H acc ∧ lcGo g wt we C (wipeD dl vs) R (items.drop i) acc M,
    ⟨_, rfl, Nat.zero_le _, F1, M1, [], ⟨⟨Ex.refl _, at1.hid f1 m1, fun a o h1 h2 h3 => ⟨by rw [upd_ne (ne_of_none h1 hp)]; exact h1, h2, h3⟩⟩, f1, m1, [], upd_same, .nil⟩, h⟩, ?_⟩
  rintro i m H ⟨rfl, hi, F, M, acc, l, hw⟩
  have c := lcGo_C hw
  have at0 := l.go.at'
  by_cases hlt : i < items.length
  · refine .inr ⟨wk.go F M H i l.go.ex at0 c hlt, fun H' => i + 1 ≤ items.length ∧ ∃ F M acc, LcW K F1 M1 H1 p F M H' acc ∧ lcGo g wt we C (wipeD dl vs) R (items.drop (i + 1)) acc M, fun H' q => ⟨_, by omega, rfl, q⟩, fun x H' y => ?_⟩
    obtain ⟨F2, g2, i2⟩ := wk.yld F M H i x H' _ l.go.ex at0 c y (List.getElem?_eq_getElem hlt)
    rw [List.drop_eq_getElem_cons hlt] at hw
    obtain ⟨_, hw⟩ := hw
    have l2 := l.step g2
    refine ⟨F2, wipeD dl vs, M, _, _, sok_wipe (sok_mono l2.go.ex so) vs, g2.at', i2, hw, fun st3 F3 H3 dl3 M3 h3 g3 so3 w3 => ⟨?_, ?_⟩⟩
    · rw [w3]; exact wipe_wipe st vs
    · have l3 := l2.step g3
      refine tDT_to so3 g3.at' h3 fun k F4 H4 M4 h4 g4 so4 at4 => ?_
      have l4 := l3.step g4
      cases k with
      | false => exact ⟨hlt, F4, M4, acc, l4, h4⟩
      | true =>
        refine tD_to so4 at4 h4 fun y F5 H5 r M5 h5 g5 so5 at5 i5 => ?_
        have l5 := l4.step g5
        obtain ⟨us, q1, q2⟩ := l5.h
        refine ⟨us, q1, by rw [← q2.length]; exact h5.1, hlt, F5, M5, acc ++ [r], ⟨⟨l5.go.ex, l5.go.at'.hid l5.f l5.m, fun a o z1 z2 z3 => ?_⟩, l5.f, l5.m, us ++ [y], upd_same, q2.append (.cons i5 .nil)⟩, h5.2⟩
        obtain ⟨w1, w2, w3⟩ := l5.go.fr a o z1 z2 z3
        exact ⟨by rw [upd_ne (ne_of_none z1 hp)]; exact w1, w2, w3⟩
  · have ei : i = items.length := by omega
    subst ei
    rw [List.drop_length] at hw
    exact .inl ⟨wk.stop F M H l.go.ex at0 c, hQ F M H acc hw.2 l⟩
theorem LcW.dat {K : PySem.W.Frag} {F0 H0 F H : Hp} {M0 M : Mem} {p : Addr} {acc : List Sl} {ds : List PyData} (l : LcW K F0 M0 H0 p F M H acc) (hp : H0 p = none) (e : datOf acc = some ds) : ∃ F', Go K F0 M0 H0 F' M H ∧ Dq K F' (.ref p) (.list ds) := by
  obtain ⟨vs, q1, q2⟩ := l.h
  rw [datOf_eq e] at q2
  have e1 : Ex F (upd F p (.lst vs)) := Ex.new l.f
  refine ⟨upd F p (.lst vs), ⟨l.go.ex.trans e1, ⟨fun b u z => ?_, fun b u z => ?_⟩, fun b u h1 h2 h3 => ?_⟩, .lst upd_same (dqAll_mono e1 (dqAll_of q2))⟩
  · by_cases hb : b = p
    · subst hb; rw [upd_same] at z; cases z; exact q1
    · rw [upd_ne hb] at z; exact l.go.at'.ex b u z
  · have hb : b ≠ p := neM z l.m
    obtain ⟨r1, r2⟩ := l.go.at'.mem b u z
    exact ⟨by rw [upd_ne hb]; exact r1, mis_mono e1 rfl r2⟩
  · obtain ⟨w1, w2, w3⟩ := l.go.fr b u h1 h2 h3
    exact ⟨w1, by rw [upd_ne (ne_of_none h1 hp)]; exact w2, w3⟩
theorem LcW.mem {K : PySem.W.Frag} {F0 H0 F H : Hp} {M0 M : Mem} {p : Addr} {acc : List Sl} (l : LcW K F0 M0 H0 p F M H acc) (hp : H0 p = none) : Go K F0 M0 H0 F (upM M p (.lst acc)) H := by
  obtain ⟨vs, q1, q2⟩ := l.h
  refine ⟨l.go.ex, ⟨l.go.at'.ex, fun b u z => ?_⟩, fun b u h1 h2 h3 => ?_⟩
  · by_cases hb : b = p
    · subst hb; rw [upM_same] at z; cases z; exact ⟨l.f, vs, q1, q2⟩
    · rw [upM_ne hb] at z; exact l.go.at'.mem b u z
  · obtain ⟨w1, w2, w3⟩ := l.go.fr b u h1 h2 h3
    exact ⟨w1, w2, by rw [upM_ne (ne_of_none h1 hp)]; exact w3⟩
theorem tD_lc {K : PySem.W.Frag} {wi : WI} {g : WG} {wt : WT} {we : WE} {vs : List Nat} {st : St} {H : Hp} {Q : VK} (h : tD K (wLc wi g wt we vs) st H Q) : tLc (tDI K wi) (tDGw K vs g) (tDT K wt) (tD K we) vs st H Q := by
  obtain ⟨F, dl, M, R, so, at0, hw, po⟩ := h
  refine ⟨F, dl, M, _, so, at0, hw, fun F1 M1 H1 items C J h1 g1 wk p hp => ?_⟩
  refine lc_run (sok_mono g1.ex so) g1.at' wk hp h1 fun F2 M2 H2 acc hR l => ?_
  obtain ⟨ds, e, hR⟩ := hR
  obtain ⟨F3, g3, d3⟩ := l.dat hp e
  exact po _ F3 H2 _ M2 hR (g1.trans g3) d3
theorem tD_lcM {K : PySem.W.Frag} {wi : WI} {g : WG} {wt : WT} {we : WE} {vs : List Nat} {st : St} {H : Hp} {Q : VK} (h : tD K (wLcM wi g wt we vs) st H Q) : tLc (tDI K wi) (tDGw K vs g) (tDT K wt) (tD K we) vs st H Q := by
  obtain ⟨F, dl, M, R, so, at0, hw, po⟩ := h
  refine ⟨F, dl, M, _, so, at0, hw, fun F1 M1 H1 items C J h1 g1 wk p hp => ?_⟩
  refine lc_run (sok_mono g1.ex so) g1.at' wk hp h1 fun F2 M2 H2 acc hR l => ?_
  exact po _ F2 H2 _ _ (hR p l.m) (g1.trans (l.mem hp)) rfl
/-- tests of a comprehension -/
def PDTs (X : Cx) (ifs : List Expr) (w : WT) : Prop := PTs X ifs (tDT X.K w)
theorem pts_imp {ifs : List Expr} {t u : TT} (h : PTs X ifs t) (i : ∀ st H Q, u st H Q → t st H Q) : PTs X ifs u := ⟨fun pins s st H Q I q => h.run pins s st H Q I (i st H Q q)⟩
abbrev wYes : WT := fun _ M R => R true M
theorem pdts_nil : PDTs X [] wYes := pts_imp pts_nil fun st H Q ⟨F, dl, M, R, so, at0, hw, po⟩ => po _ F H M hw (Go.refl at0)
theorem pdts_one {c : Expr} {w : WT} (h : PDT X c w) : PDTs X [c] w := pts_one h
section
variable {elt tg iter : Expr} {ifs : List Expr} {scope : Scope} {own : List (Str × Nat)} {wi : WI} {g : WG} {wt : WT} {we : WE}
theorem pd_lc (hc : X.calm = true) (hN : X.N.Nodup) (hi : PDI X tg iter wi) (ok : BlkOk X.N X.env.scope scope own)
    (hg : ∀ (s : Shared) (H : Hp) (C : Addr) (cl : List (Str × Addr)) (fp : List Addr), PDGw (X.blk s H scope (compEnvC scope cl C X.env) fp) (own.map (·.2)) tg g) (ht : ∀ (s : Shared) (H : Hp) (C : Addr) (cl : List (Str × Addr)) (fp : List Addr), PDTs (X.blk s H scope (compEnvC scope cl C X.env) fp) ifs wt)
    (he : ∀ (s : Shared) (H : Hp) (C : Addr) (cl : List (Str × Addr)) (fp : List Addr), PD (X.blk s H scope (compEnvC scope cl C X.env) fp) elt we) (hs : ∀ x, foldedSetIterable iter X.env x = pure x := by intro _; rfl) : PD X (.ListComp elt [⟨tg, iter, ifs, 0⟩] scope pos) (wLc wi g wt we (own.map (·.2))) :=
  pe_imp (pe_lc (g := tDGw X.K (own.map (fun z : Str × Nat => z.2)) g) (tt := tDT X.K wt) (te := tD X.K we) hc hN hi ok hg ht he hs) fun st H Q h => tD_lc h
theorem pd_lcM (hc : X.calm = true) (hN : X.N.Nodup) (hi : PDI X tg iter wi) (ok : BlkOk X.N X.env.scope scope own)
    (hg : ∀ (s : Shared) (H : Hp) (C : Addr) (cl : List (Str × Addr)) (fp : List Addr), PDGw (X.blk s H scope (compEnvC scope cl C X.env) fp) (own.map (·.2)) tg g) (ht : ∀ (s : Shared) (H : Hp) (C : Addr) (cl : List (Str × Addr)) (fp : List Addr), PDTs (X.blk s H scope (compEnvC scope cl C X.env) fp) ifs wt)
    (he : ∀ (s : Shared) (H : Hp) (C : Addr) (cl : List (Str × Addr)) (fp : List Addr), PD (X.blk s H scope (compEnvC scope cl C X.env) fp) elt we) (hs : ∀ x, foldedSetIterable iter X.env x = pure x := by intro _; rfl) : PD X (.ListComp elt [⟨tg, iter, ifs, 0⟩] scope pos) (wLcM wi g wt we (own.map (·.2))) :=
  pe_imp (pe_lc (g := tDGw X.K (own.map (fun z : Str × Nat => z.2)) g) (tt := tDT X.K wt) (te := tD X.K we) hc hN hi ok hg ht he hs) fun st H Q h => tD_lcM h
/-- y = [..] -/
theorem pds_setLc (i : Nat) {y : Str} {py spos : Pos} (hc : X.calm = true) (hN : X.N.Nodup) (hy : X.N[i]? = some y) (hyl : X.env.scope.names.lookup y = some .local)
    (hsw : swapsWith (.ListComp elt [⟨tg, iter, ifs, 0⟩] scope pos) (some (.Name y py)) spos.line X.env = pure true) (hi : PDI X tg iter wi) (ok : BlkOk X.N X.env.scope scope own)
    (hg : ∀ (s : Shared) (H : Hp) (C : Addr) (cl : List (Str × Addr)) (fp : List Addr), PDGw (X.blk s H scope (compEnvC scope cl C X.env) fp) (own.map (·.2)) tg g) (ht : ∀ (s : Shared) (H : Hp) (C : Addr) (cl : List (Str × Addr)) (fp : List Addr), PDTs (X.blk s H scope (compEnvC scope cl C X.env) fp) ifs wt)
    (he : ∀ (s : Shared) (H : Hp) (C : Addr) (cl : List (Str × Addr)) (fp : List Addr), PD (X.blk s H scope (compEnvC scope cl C X.env) fp) elt we) (hs : ∀ x, foldedSetIterable iter X.env x = pure x := by intro _; rfl) : PDS X (.Assign [.Name y py] (.ListComp elt [⟨tg, iter, ifs, 0⟩] scope pos) spos) (wAsg (wLc wi g wt we (own.map (·.2))) (gN i)) :=
  ps_imp (ps_setLc (g := tDGw X.K (own.map (fun z : Str × Nat => z.2)) g) (tt := tDT X.K wt) (te := tD X.K we) hc hN hy hyl hsw hi ok hg ht he hs) fun D st H ⟨F, dl, M, P, so, at0, hw, po⟩ =>
    tD_lc ⟨F, dl, M, _, so, at0, hw, fun v F1 H1 r M1 h1 g1 i1 => po.nx _ F1 H1 _ M1 h1 g1 (sok_set (sok_mono g1.ex so) i1)⟩
theorem pds_setLcM (i : Nat) {y : Str} {py spos : Pos} (hc : X.calm = true) (hN : X.N.Nodup) (hy : X.N[i]? = some y) (hyl : X.env.scope.names.lookup y = some .local)
    (hsw : swapsWith (.ListComp elt [⟨tg, iter, ifs, 0⟩] scope pos) (some (.Name y py)) spos.line X.env = pure true) (hi : PDI X tg iter wi) (ok : BlkOk X.N X.env.scope scope own)
    (hg : ∀ (s : Shared) (H : Hp) (C : Addr) (cl : List (Str × Addr)) (fp : List Addr), PDGw (X.blk s H scope (compEnvC scope cl C X.env) fp) (own.map (·.2)) tg g) (ht : ∀ (s : Shared) (H : Hp) (C : Addr) (cl : List (Str × Addr)) (fp : List Addr), PDTs (X.blk s H scope (compEnvC scope cl C X.env) fp) ifs wt)
    (he : ∀ (s : Shared) (H : Hp) (C : Addr) (cl : List (Str × Addr)) (fp : List Addr), PD (X.blk s H scope (compEnvC scope cl C X.env) fp) elt we) (hs : ∀ x, foldedSetIterable iter X.env x = pure x := by intro _; rfl) : PDS X (.Assign [.Name y py] (.ListComp elt [⟨tg, iter, ifs, 0⟩] scope pos) spos) (wAsg (wLcM wi g wt we (own.map (·.2))) (gN i)) :=
  ps_imp (ps_setLc (g := tDGw X.K (own.map (fun z : Str × Nat => z.2)) g) (tt := tDT X.K wt) (te := tD X.K we) hc hN hy hyl hsw hi ok hg ht he hs) fun D st H ⟨F, dl, M, P, so, at0, hw, po⟩ =>
    tD_lcM ⟨F, dl, M, _, so, at0, hw, fun v F1 H1 r M1 h1 g1 i1 => po.nx _ F1 H1 _ M1 h1 g1 (sok_set (sok_mono g1.ex so) i1)⟩
end
end

/-! ### defs -/
/-- a def's promise by data -/
abbrev Cn := List Sl → Mem → RK → Prop
def spD (K : PySem.W.Frag) (cn : Cn) : List V → Hp → VK → Prop := fun vs H Q => ∃ F M rs R, IsAll K F rs vs ∧ At K F M H ∧ cn rs M R ∧ Po K F M H R Q
structure FnD (P : Program) (w : World) (K : PySem.W.Frag) (mg : Str → Option Value) (base : Heap) (k : Nat) (f : Addr) (fd : FuncData) (ps : List Str) (cn : Cn) : Prop where
  len : ∀ rs M R, cn rs M R → rs.length = ps.length
  run : ∀ (A : Around) (outer : List Env) (s : Shared) (H : Hp) (args : Args) (us : List Value) (vs : List V) (Q : VK), A.guards = some [] → Room k A → Env0 P w K mg base A outer s H → BindsTo s fd args (ps.zip us) → Vals vs us → spD K cn vs H Q →
    codeAny (model P w) A (.call (.ref f) args) (CR CX0 outer P w H s Q E0) s
/-- what a result may be seen as: less memory, a list that stays -/
def Vw (M : Mem) (r : Sl) (M' : Mem) (r' : Sl) : Prop := ∀ (K : PySem.W.Frag) (F H : Hp) (v : V), At K F M H → Is K F r v → ∃ F', Go K F M H F' M' H ∧ Is K F' r' v
theorem Vw.le {M M' : Mem} {r : Sl} (h : Le M' M) : Vw M r M' r := fun K F H v at0 i => ⟨F, (Go.refl at0).le h, i⟩
theorem Vw.refl (M : Mem) (r : Sl) : Vw M r M r := Vw.le (Le.refl M)
theorem Vw.frz {M M' : Mem} {p : Addr} {ds : List PyData} (e : M p = some (.lst (ds.map Sl.d))) (hl : Le M' M) (hp : M' p = none) : Vw M (.v (.ref p)) M' (.d (.list ds)) := fun K F H v at0 i => by
  obtain ⟨F', g, d⟩ := Go.freeze at0 e hl hp
  have i' : v = .ref p := i
  subst i'
  exact ⟨F', g, d⟩
/-- the wish at a def's end -/
def upR (R : RK) : RK := fun r M => ∃ r' M', Vw M r M' r' ∧ R r' M'
theorem upR.of {R : RK} {r : Sl} {M : Mem} (h : R r M) : upR R r M := ⟨r, M, Vw.refl M r, h⟩
theorem upR.le {R : RK} {r : Sl} {M M' : Mem} (h : R r M) (l : Le M M') : upR R r M' := ⟨r, M, Vw.le l, h⟩
theorem Po.up {K : PySem.W.Frag} {F H : Hp} {M : Mem} {R : RK} {Q : VK} (h : Po K F M H R Q) : Po K F M H (upR R) Q := fun v F' H' r M' ⟨r2, M2, vw, hR⟩ g i => by
  obtain ⟨F2, g2, i2⟩ := vw K F' H' v g.at' i
  exact h v F2 H' r2 M2 hR (g.trans g2) i2
def startD (N : List Str) (rs : List Sl) : Env' := rs.map some ++ List.replicate (N.length - rs.length) none
/-- the wishes around a def's body -/
def bodyK (R : RK) : PK := { nx := fun _ M => upR R .n M, rt := upR R }
section
variable {P : Program} {w : World} {K : PySem.W.Frag} {mg : Str → Option Value} {base : Heap}
/-- THE RULE for a def -/
theorem fnD_of {x qual : Str} {st : Stmt} {f : Addr} {fd : FuncData} {N ps : List Str} {k : Nat} {cn : Cn} (Fu : Fun K x qual st f fd) (S : FnScope N ps (defScope st)) (len : ∀ rs M R, cn rs M R → rs.length = ps.length)
    (hbody : ∀ (cdv : Value) (A : Around) (outer : List Env) (s : Shared) (H : Hp), A.guards = some [] → Room k (A.deeper (envOfC qual (defScope st) s.heap.objs.size f cdv)) →
      ∃ wb : WS, PDB (cxOf CX0 P w K mg base N qual (defScope st) f cdv A outer s H E0).nox (defBody st) wb ∧ ∀ rs M R, cn rs M R → wb (bodyK R) (startD N rs) M) : FnD P w K mg base (k + 1) f fd ps cn := by
  obtain ⟨oc, od, kV, doc, pm, an, cdv, ct, osl, rfl, lk, hcd⟩ := Fu.ex
  refine ⟨len, fun A outer s H args us vs Q hgd hr e0 hb r hsp => ?_⟩
  obtain ⟨F, M, rs, R, ia, at0, hcn, po⟩ := hsp
  have hl : vs.length = ps.length := ia.length.symm.trans (len rs M R hcn)
  have KX : K.In s.heap := e0.mod.kin.keeps fun b o e => (e0.bs b o e).1
  have lim : s.heap.NoLimit := e0.mod.nolimit.keeps fun b o e => (e0.bs b o e).1
  refine codeAny_call_function hr.depth (KX _ _ lk) rfl S.co S.gen rfl (PySem.W.codeRec_of KX hcd) (hb _ _ _ _ ?_)
  refine wpAny_newFunctionEnv_cells S.kind (fun y hy => ?_) fun env he s1 ic => ?_
  · rcases S.par y.1 (List.of_mem_zip hy).1 with q | q
    · exact Or.inl q
    · exact Or.inr ⟨q, PySem.W.cellsFrom_some _ _ _ (Or.inl q)⟩
  subst he
  refine ⟨lim.keeps ic.toInCall.keep, codeAny_func ?_⟩
  obtain ⟨wb, hB, hW⟩ := hbody cdv A outer s H hgd (hr.deeper _)
  have I := inv_start (CX := CX0) (E := E0) (qual := qual) (f := f) (cd := cdv) S hr.hd e0 hl r ic
  have rd : tDS K wb { nx := fun _ H' => Q .non H', rt := Q } (start N vs) H :=
    ⟨F, startD N rs, M, bodyK R, by unfold startD L2.start; rw [ia.length]; exact sok_start ia _, at0, hW rs M R hcn,
      ⟨fun st' F' H' dl' M' h g _ => po.up V.non F' H' _ M' h g .non, po.up, fun _ _ _ _ _ h => h.elim, fun _ _ _ _ _ h => h.elim⟩⟩
  refine wpAny_mono ((PSs.nox hB).run [] s1 (start N vs) H _ I rd) (fun fl s' hs => ?_) fun e s' hs => hs
  cases fl with
  | ret u =>
    obtain ⟨v, sg, H', Jn, rv, q⟩ := hs
    exact ⟨v, H', Jn.os, Jn.bare, Jn.base, Jn.hok, rv, q⟩
  | next =>
    obtain ⟨sg, H', Jn, q⟩ := hs
    exact ⟨V.non, H', Jn.os, Jn.bare, Jn.base, Jn.hok, rfl, q⟩
  | brk => obtain ⟨_, _, _, q⟩ := hs; exact q.elim
  | cont => obtain ⟨_, _, _, q⟩ := hs; exact q.elim
theorem FnD.mono {j k : Nat} {f : Addr} {fd : FuncData} {ps : List Str} {cn : Cn} (G : FnD P w K mg base j f fd ps cn) (h : j ≤ k) : FnD P w K mg base k f fd ps cn :=
  ⟨G.len, fun A outer s H args us vs Q hg hr => G.run A outer s H args us vs Q hg (hr.mono h)⟩
theorem FnD.imp {k : Nat} {f : Addr} {fd : FuncData} {ps : List Str} {cn cn' : Cn} (G : FnD P w K mg base k f fd ps cn) (h : ∀ rs M R, cn' rs M R → cn rs M R) : FnD P w K mg base k f fd ps cn' :=
  ⟨fun rs M R q => G.len rs M R (h rs M R q), fun A outer s H args us vs Q hg hr he hb hv ⟨F, M, rs, R, a, b, c, d⟩ => G.run A outer s H args us vs Q hg hr he hb hv ⟨F, M, rs, R, a, b, h rs M R c, d⟩⟩
end
section
variable {X : Cx} {k : Nat} {f : Addr} {fd : FuncData} {ps ks : List Str} {cn : Cn} {x : Str} {p pos : Pos} {e : Expr} {es : List Expr} {wa : WA}
theorem run_fnD {pins : List (Addr × Obj)} {st : St} {H : Hp} {s : Shared} {Q : VK} {us : List Value} {kw : List (Str × Value)} {bs : List Value} {vs : List V} (G : FnD X.prog X.w X.K X.mg X.base k f fd ps cn) (hgd : X.A.guards = some []) (hr : Room k X.A) (hb : BindsTo s fd ⟨us, kw⟩ (ps.zip bs))
    (I : Inv X pins st H s) (r : Vals vs bs) (h : spD X.K cn vs H Q) : wpAny (model X.prog X.w) X.A (call (.ref f) us kw) (EP X pins st Q) X.xe s := by
  refine wpAny_call (codeAny_mono (G.run X.A X.stack s H ⟨us, kw⟩ bs vs Q hgd hr I.env0 hb r h) fun rr s' hq => ?_)
  cases rr with
  | error er => exact False.elim hq
  | ok fl => cases fl with
    | ret u => exact I.after hq
    | next => exact False.elim hq
    | brk => exact False.elim hq
    | cont => exact False.elim hq
theorem spD_of {vs : List V} {F H : Hp} {M : Mem} {rs : List Sl} {R : RK} {Q : VK} (at0 : At X.K F M H) (i : IsAll X.K F rs vs) (h : cn rs M R) (po : Po X.K F M H R Q) : spD X.K cn vs H Q := ⟨F, M, rs, R, i, at0, h, po⟩
theorem FnD.lenV {vs : List V} {H : Hp} {Q : VK} (G : FnD X.prog X.w X.K X.mg X.base k f fd ps cn) (h : spD X.K cn vs H Q) : vs.length = ps.length := by
  obtain ⟨F, M, rs, R, i, _, c, _⟩ := h
  exact i.length.symm.trans (G.len rs M R c)
/-- f(e, ..) -/
theorem pd_call (G : FnD X.prog X.w X.K X.mg X.base k f fd ps cn) (hgd : X.A.guards = some []) (hr : Room k X.A) (hg : Gl X x) (hm : X.mg x = some (.ref f)) (hk : PySem.W.keepIn X.K (.ref f) = true) (hb : Binds X.K fd ps []) (ha : PDA X (e :: es) wa)
    (hdb : (x == ("__debug__" : Str)) = false := by decide) (he : starEach (e :: es) X.env = (false, eval e X.env) :: starEach es X.env := by rfl) (hpl : (backTo pos (starEach es X.env)).any (·.1) = false := by rfl) : PD X (.Call (.Name x p) (e :: es) [] pos) (wCall cn wa) := by
  refine ⟨fun pins s st H Q I h => ?_⟩
  obtain ⟨F, dl, M, R, so, at0, hw, po⟩ := h
  refine wpAny_Call_Name_kw (ld_glob I hg hm ?_ hdb)
  refine PySem.W.callWith_K (h₀ := X.base) I.ok.mod.kin hk (thn (PA.run ha pos pins s st H _ I (tDA_to (Q := fun vs H' => spD X.K cn vs H' Q) so at0 hw fun vs F1 H1 rs M1 h1 g1 so1 at1 i1 => spD_of at1 i1 h1 (po.mono g1))) fun us s1 ⟨vs, H1, I1, r1, q1⟩ => ?_) he hpl
  have hl := G.lenV q1
  have hb1 := hb s1 us I1.kIn (by rw [List.append_nil, ← r1.length]; exact hl)
  rw [List.append_nil] at hb1
  exact ⟨I1.kIn, run_fnD G hgd hr hb1 I1 r1 q1⟩
end
end DL

set_option Elab.async false
set_option linter.all false
set_option maxRecDepth 100000
set_option maxHeartbeats 4000000
/-! DF: repr, isinstance, all, any, sorted, methods of lists, stores by place. -/
namespace DL
open PySem PySem.Spec L2
open Evl (Ex)

/-! ### repr -/
section
variable {X : Cx}
def rRepr (K : PySem.W.Frag) : List V → Hp → VK → Prop := fun xs H Q => ∃ v d, xs = [v] ∧ Dp K H v d ∧ d.canLay0 = true ∧ d.depth ≤ 40 ∧ d.showable = true ∧ d.shown.length ≤ sizeLine ∧ Q (.str d.shown) H
theorem call_reprD (hgd : X.A.guards = some []) (hu : X.A.units + 64 < cLine) : CallR X (.builtin "repr") (rRepr X.K) := by
  intro pins s st H xs us Q I r h
  obtain ⟨v, d, rfl, hd, hc, hdep, hs, hz, q⟩ := h
  obtain ⟨u, rfl, ru⟩ := vals1 r
  obtain ⟨as, rd⟩ := Dp.reads I d v u hd ru
  have fin : ∀ (h' : Heap) (t : Tok) (tk : Nat), (∀ b o, s.heap.get? b = some o → h'.get? b = some o) → EP X pins st Q (.str d.shown t) { s with heap := h', toks := tk } := fun h' t tk hk => ⟨.str d.shown, H, I.kept hk, ⟨t, rfl⟩, q⟩
  cases u with
  | ref a => exact repr_of_reads' rd hs (PyData.noDict_hsm (PyData.hasDict_of_canLay d hc)) hgd (by omega) (fun _ _ e => e) (fun h' t tk hk => fin h' t tk hk) hz
  | none => cases rd; exact PySem.P.repr_of_none (fin s.heap _ _ fun _ _ e => e)
  | bool b => cases rd; exact PySem.P.repr_of_bool (fin s.heap _ _ fun _ _ e => e)
  | int i t => cases rd; exact PySem.P.repr_of_int (of_decide_eq_true (by simpa [PyData.showable] using hs)) (fin s.heap _ _ fun _ _ e => e)
  | str x t => cases rd; exact PySem.P.repr_of_str (fin s.heap _ _ fun _ _ e => e) hz
  | _ => cases rd
/-- data that repr takes -/
def Shw (d : PyData) : Prop := d.canLay0 = true ∧ d.depth ≤ 40 ∧ d.showable = true ∧ d.shown.length ≤ sizeLine
abbrev gRepr : Sl → Mem → RK → Prop := fun r M R => match r with
  | .d x => Shw x ∧ R (.s x.shown) M
  | _ => False
theorem c_repr (hgd : X.A.guards = some []) (hu : X.A.units + 64 < cLine) : CaD X (.builtin "repr") (g1 gRepr) := ca1 fun F H M v r R Q at0 i1 h1 po => by
  unfold gRepr at h1
  split at h1
  · obtain ⟨⟨a, b, c, d⟩, hR⟩ := h1
    exact ⟨_, call_reprD hgd hu, v, _, rfl, dq_up at0.ex i1, a, b, c, d, po _ F H _ M hR (Go.refl at0) (.str _)⟩
  · exact h1.elim

/-! ### isinstance -/
def tyOf : PyData → String
  | .none => "NoneType"
  | .bool _ => "bool"
  | .int _ => "int"
  | .str _ => "str"
  | .list _ => "list"
  | .tuple _ => "tuple"
  | .dict _ => "dict"
theorem tyOf_at {K : PySem.W.Frag} {F H : Hp} (e : Ex F H) {v : V} {d : PyData} (h : Dq K F v d) : TyX K H v (.type (tyOf d)) := by
  cases h with
  | non => exact .base .non
  | bl b => exact .base (.bl b)
  | int i => exact .base (.int i)
  | str x => exact .base (.str x)
  | lst h1 h2 => exact .base (.lst (e _ _ h1))
  | tup h1 h2 =>
    rcases h1 with ⟨o, q, _⟩ | ⟨o, ws, n, q, q2, q3⟩
    · exact .fTuple (e _ _ q)
    · exact .kTuple q q2
/-- the built-in classes that are asked for -/
def isT (T : String) (d : PyData) : Bool := tyOf d == T || (T == "int" && tyOf d == "bool")
def askT : List String := ["int", "bool", "str", "list", "tuple", "dict"]
theorem kit_isT : ∀ d : PyData, ∀ T ∈ askT, kitB (tyOf d) T = some (isT T d) := by
  have h : ∀ a ∈ (["NoneType", "bool", "int", "str", "list", "tuple", "dict"] : List String), ∀ T ∈ askT, kitB a T = some (a == T || (T == "int" && a == "bool")) := by decide +kernel
  intro d T hT
  have := h (tyOf d) (by cases d <;> simp [tyOf]) T hT
  exact this
abbrev gIsi : WCl := fun rs M R => match rs with
  | [.d x, .v (.ty T)] => T ∈ askT ∧ R (.b (isT T x)) M
  | _ => False
theorem c_isi : CaD X (.builtin "isinstance") gIsi := caD_of fun F H M vs rs R Q at0 i1 h1 po => by
  unfold gIsi at h1
  split at h1
  · obtain ⟨v, u, rfl, i2, i3⟩ := isAll2 i1
    have i4 : u = .ty _ := i3
    subst i4
    exact ⟨_, call_isi, v, .ty _, _, _, _, rfl, .ty _, tyOf_at at0.ex i2, kit_ty (kit_isT _ _ h1.1), po _ F H _ M h1.2 (Go.refl at0) (.bl _)⟩
  · exact h1.elim
theorem pd_ty {x : Str} {T : String} {pos : Pos} (hg : Gl X x) (hm : X.mg x = none) (hv : bootBuiltins x = some (.type T)) (hn : x ≠ "__name__" := by decide) (hd : (x == ("__debug__" : Str)) = false := by decide) : PD X (.Name x pos) (wC (.v (.ty T))) :=
  pe_imp (pe_bltn (v := .ty T) hg hm hv rfl hn hd) fun st H Q ⟨F, dl, M, R, so, at0, hw, po⟩ => po _ F H _ M hw (Go.refl at0) rfl
/-- isinstance(e, (S, T)) -/
abbrev wIsi2 (S T : String) (we : WE) : WE := fun dl M R => we dl M fun r M1 => match r with
  | .d x => R (.b (isT S x || isT T x)) M1
  | _ => False
theorem pd_isi2 {S T : String} {xs xt : Str} {e : Expr} {we : WE} {p ps pt pp pos : Pos} {k : Nat} (hS : S ∈ askT) (hT : T ∈ askT) (he : PD X e we) (hg : Gl X "isinstance") (hm : X.mg "isinstance" = none)
    (gS : Gl X xs) (mS : X.mg xs = none) (vS : bootBuiltins xs = some (.type S)) (gT : Gl X xt) (mT : X.mg xt = none) (vT : bootBuiltins xt = some (.type T))
    (nS : xs ≠ "__name__" := by decide) (dS : (xs == ("__debug__" : Str)) = false := by decide) (nT : xt ≠ "__name__" := by decide) (dT : (xt == ("__debug__" : Str)) = false := by decide)
    (he1 : starEach [e, .Tuple [.Name xs ps, .Name xt pt] k pp] X.env = (false, eval e X.env) :: starEach [.Tuple [.Name xs ps, .Name xt pt] k pp] X.env := by rfl)
    (hpl : (backTo pos (starEach [.Tuple [.Name xs ps, .Name xt pt] k pp] X.env)).any (·.1) = false := by rfl)
    (he2 : starEach [.Tuple [.Name xs ps, .Name xt pt] k pp] X.env = (false, eval (.Tuple [.Name xs ps, .Name xt pt] k pp) X.env) :: starEach [] X.env := by rfl)
    (he3 : starEach [.Name xs ps, .Name xt pt] X.env = (false, eval (.Name xs ps) X.env) :: starEach [.Name xt pt] X.env := by rfl)
    (he4 : starEach [.Name xt pt] X.env = (false, eval (.Name xt pt) X.env) :: starEach [] X.env := by rfl) :
    PD X (.Call (.Name "isinstance" p) [e, .Tuple [.Name xs ps, .Name xt pt] k pp] [] pos) (wIsi2 S T we) := by
  refine pe_imp (pe_callB call_isiT hg hm (by decide +kernel) (pa_cons he (pa_cons (pe_tup (pa_cons (pe_bltn (v := .ty S) gS mS vS rfl nS dS) (pa_cons (pe_bltn (v := .ty T) gT mT vT rfl nT dT) pa_nil he4) he3)) pa_nil he2) he1) (by decide) (by decide) he1 hpl) fun st H Q ⟨F, dl, M, R, so, at0, hw, po⟩ => ?_
  refine tD_to so at0 hw fun v F1 H1 r M1 h1 g1 so1 at1 i1 => ?_
  split at h1
  · rename_i x
    refine ⟨by show 2 ≤ sizeLine; decide, fun q hq => ?_⟩
    have at2 : At X.K F1 M1 (upd H1 q (.tup [.ty S, .ty T])) := at1.hid (at1.freeF hq) (at1.freeM hq)
    have g2 : Go X.K F1 M1 H1 F1 M1 (upd H1 q (.tup [.ty S, .ty T])) := ⟨Ex.refl _, at2, fun a o z1 z2 z3 => ⟨by rw [upd_ne (ne_of_none z1 hq)]; exact z1, z2, z3⟩⟩
    refine ⟨v, q, [.ty S, .ty T], _, [.type S, .type T], isT S x || isT T x, rfl, upd_same, .cons (.ty S) (.cons (.ty T) .nil), tyOf_at at2.ex i1, ?_, po _ F1 _ _ M1 h1 (g1.trans g2) (.bl _)⟩
    refine kitAny_cons (kit_ty (kit_isT x S hS)) (fun e1 => kitAny_cons (kit_ty (kit_isT x T hT)) (fun e2 => ?_) fun e2 => ?_) fun e1 => ?_
    · rw [e1, e2]; exact kitAny_nil
    · rw [e1, e2]; rfl
    · rw [e1]; rfl
  · exact h1.elim

/-! ### all, any of a list of truths -/
def blsOf : List Sl → Option (List Bool)
  | [] => some []
  | .d (.bool b) :: r => (blsOf r).map (b :: ·)
  | _ => none
theorem blsOf_at {K : PySem.W.Frag} {F : Hp} : ∀ {ss : List Sl} {bs : List Bool} {vs : List V}, blsOf ss = some bs → IsAll K F ss vs → vs = bs.map V.bl
  | [], _, _, h, i => by cases h; cases i; rfl
  | .d (.bool b) :: r, bs, vs, h, i => by
    simp only [blsOf, Option.map_eq_some_iff] at h
    obtain ⟨rs, h1, rfl⟩ := h
    cases i with
    | cons i1 i2 => rw [dq_bl i1, blsOf_at h1 i2]; rfl
abbrev gAll : Sl → Mem → RK → Prop := fun r M R => ∃ ss bs, lsOf M r = some ss ∧ blsOf ss = some bs ∧ R (.b (bs.all id)) M
abbrev gAny : Sl → Mem → RK → Prop := fun r M R => ∃ ss bs, lsOf M r = some ss ∧ blsOf ss = some bs ∧ R (.b (bs.any id)) M
theorem c_all (hc : X.calm = true) : CaD X (.builtin "all") (g1 gAll) := ca1 fun F H M v r R Q at0 i1 h1 po => by
  obtain ⟨ss, bs, e1, e2, hR⟩ := h1
  obtain ⟨a, vs, rfl, q1, q2⟩ := lsOf_at at0 i1 e1
  have e3 := blsOf_at e2 q2
  subst e3
  exact ⟨_, cr_all hc, a, bs, rfl, SqL.of q1, po _ F H _ M hR (Go.refl at0) (.bl _)⟩
theorem c_any (hc : X.calm = true) : CaD X (.builtin "any") (g1 gAny) := ca1 fun F H M v r R Q at0 i1 h1 po => by
  obtain ⟨ss, bs, e1, e2, hR⟩ := h1
  obtain ⟨a, vs, rfl, q1, q2⟩ := lsOf_at at0 i1 e1
  have e3 := blsOf_at e2 q2
  subst e3
  exact ⟨_, cr_any hc, a, bs, rfl, SqL.of q1, po _ F H _ M hR (Go.refl at0) (.bl _)⟩

/-! ### sorted of ints -/
def insI (x : Int) : List Int → List Int
  | [] => [x]
  | y :: r => if x ≤ y then x :: y :: r else y :: insI x r
def srtI : List Int → List Int
  | [] => []
  | x :: r => insI x (srtI r)
theorem insI_perm (x : Int) : ∀ l : List Int, (insI x l).Perm (x :: l)
  | [] => List.Perm.refl _
  | y :: r => by
    unfold insI
    split
    · exact List.Perm.refl _
    · exact ((insI_perm x r).cons y).trans (List.Perm.swap x y r)
theorem srtI_perm : ∀ l : List Int, (srtI l).Perm l
  | [] => List.Perm.refl _
  | x :: r => (insI_perm x (srtI r)).trans ((srtI_perm r).cons x)
theorem insI_sorted (x : Int) : ∀ l : List Int, l.Pairwise (· ≤ ·) → (insI x l).Pairwise (· ≤ ·)
  | [], _ => List.pairwise_singleton _ _
  | y :: r, h => by
    unfold insI
    have hy := List.pairwise_cons.mp h
    split
    · rename_i hx
      refine List.pairwise_cons.mpr ⟨fun z hz => ?_, h⟩
      rcases List.mem_cons.mp hz with rfl | hz
      · exact hx
      · exact Int.le_trans hx (hy.1 z hz)
    · rename_i hx
      refine List.pairwise_cons.mpr ⟨fun z hz => ?_, insI_sorted x r hy.2⟩
      rcases List.mem_cons.mp ((insI_perm x r).mem_iff.mp hz) with rfl | hz
      · omega
      · exact hy.1 z hz
theorem srtI_sorted : ∀ l : List Int, (srtI l).Pairwise (· ≤ ·)
  | [] => List.Pairwise.nil
  | x :: r => insI_sorted x _ (srtI_sorted r)
theorem sorted_one : ∀ {l m : List Int}, l.Perm m → l.Pairwise (· ≤ ·) → m.Pairwise (· ≤ ·) → l = m
  | [], m, p, _, _ => (List.Perm.eq_nil p.symm).symm
  | x :: l, [], p, _, _ => absurd p.length_eq (by simp)
  | x :: l, y :: m, p, hl, hm => by
    have h1 := List.pairwise_cons.mp hl
    have h2 := List.pairwise_cons.mp hm
    have e : x = y := by
      have a : y ≤ x := by
        rcases List.mem_cons.mp (p.mem_iff.mp List.mem_cons_self) with e | e
        · omega
        · exact h2.1 x e
      have b : x ≤ y := by
        rcases List.mem_cons.mp (p.mem_iff.mpr List.mem_cons_self) with e | e
        · omega
        · exact h1.1 y e
      omega
    subst e
    rw [sorted_one p.cons_inv h1.2 h2.2]
def intsOf : List Sl → Option (List Int)
  | [] => some []
  | .d (.int b) :: r => (intsOf r).map (b :: ·)
  | _ => none
theorem intsOf_at {K : PySem.W.Frag} {F : Hp} : ∀ {ss : List Sl} {bs : List Int} {vs : List V}, intsOf ss = some bs → IsAll K F ss vs → vs = bs.map V.int
  | [], _, _, h, i => by cases h; cases i; rfl
  | .d (.int b) :: r, bs, vs, h, i => by
    simp only [intsOf, Option.map_eq_some_iff] at h
    obtain ⟨rs, h1, rfl⟩ := h
    cases i with
    | cons i1 i2 => rw [dq_int i1, intsOf_at h1 i2]; rfl
theorem intsOf_map (ns : List Int) : intsOf (ns.map fun n => Sl.i n) = some ns := by
  induction ns with
  | nil => rfl
  | cons a r ih => simp only [List.map_cons, intsOf, ih, Option.map_some]
theorem dqAll_ints {K : PySem.W.Frag} {F : Hp} : ∀ ns : List Int, DqAll K F (ns.map V.int) (ns.map PyData.int)
  | [] => .nil
  | n :: r => .cons (.int n) (dqAll_ints r)
abbrev gSorted : Sl → Mem → RK → Prop := fun r M R => ∃ ss ns, lsOf M r = some ss ∧ intsOf ss = some ns ∧ ns.length < 64 ∧ R (.d (.list ((srtI ns).map PyData.int))) M
theorem c_sorted : CaD X (.builtin "sorted") (g1 gSorted) := ca1 fun F H M v r R Q at0 i1 h1 po => by
  obtain ⟨ss, ns, e1, e2, hz, hR⟩ := h1
  obtain ⟨a, vs, rfl, q1, q2⟩ := lsOf_at at0 i1 e1
  have e3 := intsOf_at e2 q2
  subst e3
  refine ⟨_, cr_sorted, a, ns, rfl, SqL.of q1, hz, fun ns' p hp hs hn => ?_⟩
  have e4 := sorted_one (hp.trans (srtI_perm ns).symm) hs (srtI_sorted ns)
  subst e4
  exact po_dat at0 po hn hR fun F' e h => .lst h (dqAll_ints _)

/-! ### methods of lists -/
abbrev wLMeth (g : Sl → List Sl → Mem → RK → Prop) (wo : WE) (wa : WA) : WE := fun dl M R => wo dl M fun r M1 => (∃ ss, lsOf M1 r = some ss) ∧ wa dl M1 fun rs M2 => g r rs M2 R
abbrev gAppend : Sl → List Sl → Mem → RK → Prop := fun r rs M R => match r, rs with
  | .v (.ref p), [x] => ∃ ss, M p = some (.lst ss) ∧ ss.length < sizeLine ∧ R .n (upM M p (.lst (ss ++ [x])))
  | _, _ => False
abbrev gPop : Sl → List Sl → Mem → RK → Prop := fun r rs M R => match r, rs with
  | .v (.ref p), [] => ∃ ss x, M p = some (.lst ss) ∧ ss[ss.length - 1]? = some x ∧ R x (upM M p (.lst ss.dropLast))
  | _, _ => False
abbrev gPopAt : Sl → List Sl → Mem → RK → Prop := fun r rs M R => match r, rs with
  | .v (.ref p), [.d (.int i)] => ∃ ss x, M p = some (.lst ss) ∧ 0 ≤ i ∧ i < 2 ^ 62 ∧ ss[i.toNat]? = some x ∧ R x (upM M p (.lst (ss.eraseIdx i.toNat)))
  | _, _ => False
theorem all2_dropLast {A B : Type} {R : A → B → Prop} {as : List A} {bs : List B} (h : All2 R as bs) : All2 R as.dropLast bs.dropLast := by
  rw [List.dropLast_eq_take, List.dropLast_eq_take, h.length]
  exact h.take _
theorem tBM_of {K : PySem.W.Frag} {g : Sl → List Sl → Mem → RK → Prop} {r : V → List V → Hp → VK → Prop} {wo : WE} {wa : WA}
    (hr : ∀ (F H : Hp) (M : Mem) (v : V) (vs : List V) (x : Sl) (rs : List Sl) (R : RK) (Q : VK), At K F M H → Is K F x v → IsAll K F rs vs → g x rs M R → Po K F M H R Q → r v vs H Q) {st : St} {H : Hp} {Q : VK} (h : tD K (wLMeth g wo wa) st H Q) : tBM K "list" r (tD K wo) (tDA K wa) st H Q := by
  obtain ⟨F, dl, M, R, so, at0, hw, po⟩ := h
  refine tD_to so at0 hw fun v F1 H1 x M1 h1 g1 so1 at1 i1 => ?_
  obtain ⟨⟨ss, e1⟩, h1⟩ := h1
  obtain ⟨a, vs, rfl, q1, q2⟩ := lsOf_at at1 i1 e1
  refine ⟨.inl ⟨rfl, vs, SqL.of q1⟩, ?_⟩
  exact tDA_to so1 at1 h1 fun us F2 H2 rs M2 h2 g2 so2 at2 i2 => hr F2 H2 M2 _ us x rs R Q at2 (is_mono g2.ex i1) i2 h2 (po.mono (g1.trans g2))
section
variable {o e : Expr} {wo : WE} {wa : WA} {apos cpos : Pos}
theorem pd_append (ho : PD X o wo) (ha : PDA X [e] wa) (hbase : attributeBase o "append" X.env (eval o X.env) = eval o X.env := by rfl)
    (hfew : ((backTo cpos (starEach [e] X.env)).all (fun x => !x.1) && (backToKw cpos (keywordEach [] X.env)).all (fun x => x.1.isSome) && decide ([e].length + ([] : List Keyword).length + (if ([] : List Keyword).isEmpty then 0 else 1) < 30)) = true := by rfl)
    (hline : (apos.endLine == cpos.line) = true := by rfl) (hs : starEach [e] X.env = (false, eval e X.env) :: starEach [] X.env := by rfl) : PD X (.Call (.Attribute o "append" apos) [e] [] cpos) (wLMeth gAppend wo wa) := by
  refine pe_imp (pe_bm PySem.F.plainAttrs_list PySem.F.slot_list_append PySem.F.type_list_append mt_append ho ha hbase hfew hline hs rfl) fun st H Q h => tBM_of (fun F H M v vs x rs R Q at0 i1 i2 hg po => ?_) h
  unfold gAppend at hg
  split at hg
  · rename_i p y
    obtain ⟨ss, m, hz, hR⟩ := hg
    obtain ⟨u, rfl, i3⟩ := isAll1 i2
    have i4 : v = .ref p := i1
    subst i4
    obtain ⟨f, us, q1, q2⟩ := at0.mem p _ m
    exact ⟨p, us, u, rfl, rfl, q1, by rw [← q2.length]; exact hz, po _ F _ _ _ hR (Go.put at0 m ⟨_, upd_same, q2.append (.cons i3 .nil)⟩) .non⟩
  · exact hg.elim
theorem pd_popAt (ho : PD X o wo) (ha : PDA X [e] wa) (hbase : attributeBase o "pop" X.env (eval o X.env) = eval o X.env := by rfl)
    (hfew : ((backTo cpos (starEach [e] X.env)).all (fun x => !x.1) && (backToKw cpos (keywordEach [] X.env)).all (fun x => x.1.isSome) && decide ([e].length + ([] : List Keyword).length + (if ([] : List Keyword).isEmpty then 0 else 1) < 30)) = true := by rfl)
    (hline : (apos.endLine == cpos.line) = true := by rfl) (hs : starEach [e] X.env = (false, eval e X.env) :: starEach [] X.env := by rfl) : PD X (.Call (.Attribute o "pop" apos) [e] [] cpos) (wLMeth gPopAt wo wa) := by
  refine pe_imp (pe_bm PySem.F.plainAttrs_list PySem.F.slot_list_pop PySem.F.type_list_pop mt_popAt ho ha hbase hfew hline hs rfl) fun st H Q h => tBM_of (fun F H M v vs x rs R Q at0 i1 i2 hg po => ?_) h
  unfold gPopAt at hg
  split at hg
  · rename_i p i
    obtain ⟨ss, y, m, h0, h1, hy, hR⟩ := hg
    obtain ⟨u, rfl, i3⟩ := isAll1 i2
    have i4 : v = .ref p := i1
    subst i4
    obtain ⟨f, us, q1, q2⟩ := at0.mem p _ m
    obtain ⟨z, z1, z2⟩ := q2.get hy
    have hlt : i.toNat < us.length := (List.getElem?_eq_some_iff.mp z1).1
    exact ⟨p, us, i, i.toNat, z, rfl, by rw [dq_int i3], q1, by omega, by omega, seqIndex_of h0 (by omega), z1, po _ F _ _ _ hR (Go.put at0 m ⟨_, upd_same, q2.eraseIdx _⟩) z2⟩
  · exact hg.elim
theorem pd_pop (ho : PD X o wo) (hbase : attributeBase o "pop" X.env (eval o X.env) = eval o X.env := by rfl) (hline : (apos.endLine == cpos.line) = true := by rfl) : PD X (.Call (.Attribute o "pop" apos) [] [] cpos) (wLMeth gPop wo wNil) := by
  refine pe_imp (pe_bm0 PySem.F.plainAttrs_list PySem.F.slot_list_pop PySem.F.type_list_pop mt_pop ho hbase hline) fun st H Q ⟨F, dl, M, R, so, at0, hw, po⟩ => ?_
  refine tD_to so at0 hw fun v F1 H1 x M1 h1 g1 so1 at1 i1 => ?_
  obtain ⟨⟨ss, e1⟩, hg0⟩ := h1
  obtain ⟨a, vs, rfl, q1, q2⟩ := lsOf_at at1 i1 e1
  refine ⟨.inl ⟨rfl, vs, SqL.of q1⟩, ?_⟩
  have hg : gPop x [] M1 R := hg0
  clear hg0
  unfold gPop at hg
  split at hg
  · rename_i p _
    obtain ⟨ss, y, m, hy, hR⟩ := hg
    have i4 : V.ref a = .ref p := i1
    cases i4
    obtain ⟨f, us, q1, q2⟩ := at1.mem a _ m
    rw [q2.length] at hy
    obtain ⟨z, z1, z2⟩ := q2.get hy
    exact ⟨a, us, z, rfl, rfl, q1, z1, (po.mono g1) _ F1 _ _ _ hR (Go.put at1 m ⟨_, upd_same, all2_dropLast q2⟩) z2⟩
  · exact hg.elim
end

/-! ### xs[i] = v -/
abbrev gSetL (wo wi : WE) : WG := fun v dl M R => wo dl M fun r M1 => wi dl M1 fun q M2 => match r, q with
  | .v (.ref p), .d (.int i) => ∃ ss j, M2 p = some (.lst ss) ∧ ixN ss.length i = some j ∧ R dl (upM M2 p (.lst (ss.set j v)))
  | _, _ => False
theorem pdg_setL {o i : Expr} {wo wi : WE} {pos : Pos} (ho : PD X o wo) (hi : PD X i wi)
    (ha : ∀ v, assign (.Subscript o i pos) X.env v = (do
      let ov ← holding [v] (eval o X.env)
      let iv ← holding [v, ov] (eval i X.env)
      standAt pos
      holding [v, ov, iv] (setItem ov iv v)
      release [v, ov, iv] []) := by intro _; rfl) : PDG X (.Subscript o i pos) (gSetL wo wi) := by
  refine pg_imp (pg_sub ho hi set_list ha) fun v st H Q ⟨F, dl, M, r, R, so, at0, i1, hw, po⟩ => ?_
  refine tD_to so at0 hw fun x F1 H1 q M1 h1 g1 so1 at1 j1 => ?_
  refine tD_to so1 at1 h1 fun y F2 H2 z M2 h2 g2 so2 at2 j2 => ?_
  split at h2
  · rename_i p k
    obtain ⟨ss, j, m, hj, hR⟩ := h2
    have e : x = .ref p := j1
    subst e
    obtain ⟨f, us, q1, q2⟩ := at2.mem p _ m
    exact ⟨p, us, k, j, rfl, dq_int j2, q1, by rw [← q2.length]; exact hj, po _ F2 _ _ _ hR ((g1.trans g2).trans (Go.put at2 m ⟨_, upd_same, q2.set (is_mono (g1.trans g2).ex i1) j⟩)) so2⟩
  · exact h2.elim
end
end DL

set_option Elab.async false
set_option linter.all false
set_option maxRecDepth 100000
set_option maxHeartbeats 4000000
/-! DG: + and * by shapes, names of the module, calls of the module's defs. -/
namespace DL
open PySem PySem.Spec L2
open Evl (Ex)
section
variable {X : Cx}
abbrev gPlus : W2 := fun p q M R => match p, q with
  | .d (.int i), .d (.int j) => R (.i (i + j)) M
  | .d (.tuple xs), .d (.tuple ys) => xs.length + ys.length ≤ sizeLine ∧ R (.d (.tuple (xs ++ ys))) M
  | .d (.str a), .d (.str b) => a.length + b.length ≤ sizeLine ∧ R (.s (a ++ b)) M
  | p, q => gCat p q M R
/-- t + u makes a plain tuple, or is one of them -/
theorem op_catF : OpR X (binaryOp .Add) (fun x y H Q => ∃ a b xs ys, x = V.ref a ∧ y = V.ref b ∧ SqT X.K H a xs ∧ SqT X.K H b ys ∧ xs.length + ys.length ≤ sizeLine ∧ (xs = [] → Q (.ref b) H) ∧ (ys = [] → Q (.ref a) H) ∧
    (xs ≠ [] → ys ≠ [] → ∀ p o, o.dict = none → H p = none → Q (.ref p) (upd H p (.frz o (.tup (xs ++ ys)))))) := by
  intro pins s st H x y v u Q I rx ry ⟨a, b, xs, ys, e1, e2, ha, hb, hz, q0, q1, q2⟩
  subst e1 e2
  by_cases hx : xs = []
  · exact op_catA pins s st H _ _ v u Q I rx ry ⟨a, b, xs, ys, rfl, rfl, ha, hb, hz, q0, fun _ e => q1 e, fun z => absurd hx z⟩
  · cases rx
    cases ry
    obtain ⟨us, r1, p1, _⟩ := I.tuple ha
    obtain ⟨ws, r2, p2, _⟩ := I.tuple hb
    have hl1 := r1.length
    have hl2 := r2.length
    refine HT.cat_tup p1 p2 (fun z => hx (r1.nil_iff.mp z)) (fun z => ⟨.ref a, H, I, rfl, q1 (r2.nil_iff.mp z)⟩) (fun z => ?_) (by omega)
    have r3 := r1.append r2
    generalize us ++ ws = cat at r3 ⊢
    let ob : Obj := { cls := .type "tuple", data := .seq cat.toArray }
    have got : (s.heap.push ob).get? s.heap.objs.size = some ob := Heap.get?_push_size _ rfl
    have J : Inv X pins st (upd H s.heap.objs.size (.frz ob (.tup (xs ++ ys)))) { s with heap := s.heap.push ob } := I.laid (t' := s.toks) (fun _ _ e => Heap.get?_push_of_some _ e) (Nat.le_refl _) ⟨got, by rw [List.length_append]; exact hz, cat, r3, ob, got, rfl, _, rfl⟩
    exact ⟨.ref s.heap.objs.size, _, J, rfl, q2 hx (fun w => z (r2.nil_iff.mpr w)) _ ob rfl (I.hok.fresh (Nat.le_refl _))⟩
theorem o_plus : OpD X (binaryOp .Add) gPlus := opD_of fun F H M x y p q R Q at0 h1 h2 h3 po => by
  unfold gPlus at h3
  split at h3
  · exact ⟨_, op_add, _, _, dq_int h1, dq_int h2, po _ F H _ M h3 (Go.refl at0) (.int _)⟩
  · obtain ⟨hz, hR⟩ := h3
    obtain ⟨a, vs, rfl, q1, q2⟩ := sqT_at at0 h1
    obtain ⟨b, us, rfl, q3, q4⟩ := sqT_at at0 h2
    refine ⟨_, op_catF, a, b, vs, us, rfl, rfl, q1, q3, by rw [dqAll_len q2, dqAll_len q4]; exact hz, fun e => ?_, fun e => ?_, fun _ _ c o ho hc => ?_⟩
    · subst e
      cases q2
      exact po _ F H _ M hR (Go.refl at0) h2
    · subst e
      cases q4
      rw [List.append_nil] at hR
      exact po _ F H _ M hR (Go.refl at0) h1
    · exact po_dat at0 po hc hR fun F' e h => .tup (.inl ⟨o, h, ho⟩) (dqAll_mono e (dqAll_app q2 q4))
  · exact ⟨_, op_add_str, _, _, dq_str h1, dq_str h2, h3.1, po _ F H _ M h3.2 (Go.refl at0) (.str _)⟩
  · obtain ⟨r, ho, hr⟩ := o_cat (X := X)
    exact ⟨r, ho, hr F H M x y _ _ R Q at0 h1 h2 h3 po⟩
abbrev gTimes : W2 := fun p q M R => match p, q with
  | .d (.int i), .d (.int j) => ((-(2 ^ 64) < i ∧ i < 2 ^ 64) ∨ (-(2 ^ 64) < j ∧ j < 2 ^ 64)) ∧ R (.i (i * j)) M
  | p, q => gRep p q M R
theorem o_times : OpD X (binaryOp .Mult) gTimes := opD_of fun F H M x y p q R Q at0 h1 h2 h3 po => by
  unfold gTimes at h3
  split at h3
  · exact ⟨_, op_mul, _, _, dq_int h1, dq_int h2, h3.1, po _ F H _ M h3.2 (Go.refl at0) (.int _)⟩
  · obtain ⟨r, ho, hr⟩ := o_rep (X := X)
    exact ⟨r, ho, hr F H M x y _ _ R Q at0 h1 h2 h3 po⟩

/-! ### names of the module -/
theorem pd_gI {x : Str} {i : Int} {pos : Pos} (hg : Gl X x) (h : ∃ t, X.mg x = some (.int i t)) (hd : (x == ("__debug__" : Str)) = false := by decide) : PD X (.Name x pos) (wC (.i i)) := by
  obtain ⟨t, h⟩ := h
  exact pd_c (pe_glob (v := .int i) hg h ⟨t, rfl⟩ hd) fun _ => .int i
theorem pd_gS {x : Str} {i : Str} {pos : Pos} (hg : Gl X x) (h : ∃ t, X.mg x = some (.str i t)) (hd : (x == ("__debug__" : Str)) = false := by decide) : PD X (.Name x pos) (wC (.s i)) := by
  obtain ⟨t, h⟩ := h
  exact pd_c (pe_glob (v := .str i) hg h ⟨t, rfl⟩ hd) fun _ => .str i
/-- a datum of the module's own -/
def GD (K : PySem.W.Frag) (mg : Str → Option Value) (x : Str) (d : PyData) : Prop := ∃ a, mg x = some (.ref a) ∧ ∀ F, Dq K F (.ref a) d
theorem pd_gD {x : Str} {d : PyData} {pos : Pos} (hg : Gl X x) (h : GD X.K X.mg x d) (hd : (x == ("__debug__" : Str)) = false := by decide) : PD X (.Name x pos) (wC (.d d)) := by
  obtain ⟨a, h, hq⟩ := h
  exact pd_c (pe_glob (v := .ref a) hg h rfl hd) hq
/-- a tuple of texts that the top has made -/
theorem gd_strs {K : PySem.W.Frag} {mg : Str → Option Value} {x : Str} {a : Addr} {n : Nat} {sl : Array (Option Value)} {its : Array Value} (ss : List Str) (hm : mg x = some (.ref a)) (hk : K.lookup a = some ⟨.type "tuple", none, .seq its n, sl⟩)
    (hv : Vals (ss.map V.str) its.toList) (hz : its.size ≤ sizeLine) : GD K mg x (.tuple (ss.map PyData.str)) := by
  refine ⟨a, hm, fun F => .tup (.inr ⟨_, its, n, hk, rfl, rfl, hz, hv, rfl⟩) ?_⟩
  clear hv
  induction ss with
  | nil => exact .nil
  | cons s r ih => exact .cons (.str s) ih

/-! ### calls of the module's defs -/
structure Has (P : Program) (w : World) (K : PySem.W.Frag) (mg : Str → Option Value) (base : Heap) (k : Nat) (x : Str) (st : Stmt) (ps : List Str) (cn : Cn) : Prop where
  ex : ∃ f fd, mg x = some (.ref f) ∧ Fun K x x st f fd ∧ Binds K fd ps [] ∧ FnD P w K mg base k f fd ps cn
theorem Has.mono {P : Program} {w : World} {K : PySem.W.Frag} {mg : Str → Option Value} {base : Heap} {j k : Nat} {x : Str} {st : Stmt} {ps : List Str} {cn : Cn} (h : Has P w K mg base j x st ps cn) (l : j ≤ k) : Has P w K mg base k x st ps cn := by
  obtain ⟨f, fd, a, b, c, d⟩ := h.ex
  exact ⟨f, fd, a, b, c, d.mono l⟩
theorem Has.imp {P : Program} {w : World} {K : PySem.W.Frag} {mg : Str → Option Value} {base : Heap} {k : Nat} {x : Str} {st : Stmt} {ps : List Str} {cn cn' : Cn} (h : Has P w K mg base k x st ps cn) (i : ∀ rs M R, cn' rs M R → cn rs M R) : Has P w K mg base k x st ps cn' := by
  obtain ⟨f, fd, a, b, c, d⟩ := h.ex
  exact ⟨f, fd, a, b, c, d.imp i⟩
variable {k : Nat} {x : Str} {st : Stmt} {ps : List Str} {cn : Cn} {p pos : Pos} {e : Expr} {es : List Expr} {wa : WA}
theorem pd_fn (h : Has X.prog X.w X.K X.mg X.base k x st ps cn) (hgd : X.A.guards = some []) (hr : Room k X.A) (hg : Gl X x) (ha : PDA X (e :: es) wa)
    (hdb : (x == ("__debug__" : Str)) = false := by decide) (he : starEach (e :: es) X.env = (false, eval e X.env) :: starEach es X.env := by rfl) (hpl : (backTo pos (starEach es X.env)).any (·.1) = false := by rfl) : PD X (.Call (.Name x p) (e :: es) [] pos) (wCall cn wa) := by
  obtain ⟨f, fd, a, b, c, d⟩ := h.ex
  exact pd_call d hgd hr hg a b.kp c ha hdb he hpl
/-- keywords -/
def PDK (X : Cx) (kws : List Keyword) (w : WA) : Prop := L2.PK X kws (tDA X.K w)
theorem pk_imp {kws : List Keyword} {t u : TA} (h : L2.PK X kws t) (i : ∀ s H Q, u s H Q → t s H Q) : L2.PK X kws u := ⟨fun po pins s sg H Q I q => h.run po pins s sg H Q I (i sg H Q q)⟩
theorem pdk_nil : PDK X [] wNil := pk_imp pk_nil fun _ H _ ⟨F, _, M, _, _, at0, hw, po⟩ => po [] F H [] M hw (Go.refl at0) .nil
theorem pdk_cons {kws : List Keyword} {we : WE} {wr : WA} {nm : Option Str} {kpos : Pos} (ha : PD X e we) (hr : PDK X kws wr) : PDK X (⟨nm, e, kpos⟩ :: kws) (wCons we wr) := by
  refine pk_imp (pk_cons ha hr) fun sg H Q ⟨F, dl, M, R, so, at0, hw, po⟩ => ?_
  refine tD_to so at0 hw fun v F1 H1 p M1 h1 g1 so1 at1 i1 => ?_
  exact tDA_to so1 at1 h1 fun vs F2 H2 rs M2 h2 g2 so2 at2 i2 => po (v :: vs) F2 H2 (p :: rs) M2 h2 (g1.trans g2) (.cons (is_mono g2.ex i1) i2)
/-- f(k = v, ..), no places: pm puts the keywords' values in the parameters' order -/
abbrev wCallK (cn : Cn) (pm : {A : Type} → List A → List A) (wa : WA) : WE := fun dl M R => wa dl M fun rs M1 => cn (pm rs) M1 R
theorem pd_fnK {kws : List Keyword} {ks : List Str} (pm : {A : Type} → List A → List A) (h : Has X.prog X.w X.K X.mg X.base k x st ps cn) (hgd : X.A.guards = some []) (hr : Room k X.A) (hg : Gl X x) (hkw : PDK X kws wa)
    (hb : ∀ (kV doc pmv : Value) (an : Option Addr) (cdv ct : Value) (ws : List Value), (pm ws).length = ps.length → bindArgs (PySem.W.fnOf x x (defArgs st) (defBody st) (defScope st) .none kV doc pmv an cdv ct) ⟨[], ks.zip ws⟩ = pure (ps.zip (pm ws)))
    (hpm : ∀ {A B : Type} (R : A → B → Prop) (as : List A) (bs : List B), Paired R as bs → Paired R (pm as) (pm bs)) (hpm2 : ∀ {A B : Type} (R : A → B → Prop) (as : List A) (bs : List B), All2 R as bs → All2 R (pm as) (pm bs))
    (hall : (backToKw pos (keywordEach kws X.env)).all (·.1.isSome) = true := by rfl) (hks : (backToKw pos (keywordEach kws X.env)).filterMap (·.1) = ks := by rfl) (hdb : (x == ("__debug__" : Str)) = false := by decide)
    (hpl : ((backTo pos (starEach [] X.env)).any (·.1) || (backToKw pos (keywordEach kws X.env)).any (·.1.isNone)) = false := by rfl) : PD X (.Call (.Name x p) [] kws pos) (wCallK cn pm wa) := by
  obtain ⟨f, fd, hm, Fu, _, G⟩ := h.ex
  obtain ⟨oc, od, kV, doc, pmv, an, cdv, ct, osl, rfl, lk, hcd⟩ := Fu.ex
  refine ⟨fun pins s sg H Q I h => ?_⟩
  obtain ⟨F, dl, M, R, so, at0, hw, po⟩ := h
  refine wpAny_Call_Name_kw (ld_glob I hg hm ?_ hdb)
  refine PySem.W.callWith_KW0 (h₀ := X.base) I.ok.mod.kin Fu.kp hall ?_ hpl
  refine thn (L2.PK.run hkw pos pins s sg H _ I (tDA_to (Q := fun vs H' => spD X.K cn (pm vs) H' Q) so at0 hw fun vs F1 H1 rs M1 h1 g1 so1 at1 i1 => spD_of at1 (hpm2 _ _ _ i1) h1 (po.mono g1))) fun ws s1 ⟨zs, H1, I1, rz, q1⟩ => ⟨I1.kIn, ?_⟩
  rw [hks]
  have hl := G.lenV q1
  have rv := hpm _ _ _ rz
  exact run_fnD G hgd hr (.of_eq (hb kV doc pmv an cdv ct ws (by rw [← Vals.length rv]; exact hl))) I1 rv q1
/-- a def of the text gives a Has -/
theorem Has.of {P : Program} {w : World} {K : PySem.W.Frag} {mg : Str → Option Value} {base : Heap} {f : Addr} {fd : FuncData} (hm : mg x = some (.ref f)) (Fu : Fun K x x st f fd)
    (hb : ∀ (kV doc pm : Value) (an : Option Addr) (cdv ct : Value) (us : List Value), us.length = ps.length → bindArgs (PySem.W.fnOf x x (defArgs st) (defBody st) (defScope st) .none kV doc pm an cdv ct) ⟨us, []⟩ = pure (ps.zip us))
    (G : FnD P w K mg base k f fd ps cn) : Has P w K mg base k x st ps cn := ⟨f, fd, hm, Fu, Fu.binds hb, G⟩
end
end DL

set_option Elab.async false
set_option linter.all false
set_option maxRecDepth 100000
set_option maxHeartbeats 4000000
/-! DH: what is walked: any sequence, enumerate, zip. -/
namespace DL
open PySem PySem.Spec L2
open Evl (Ex)
section
variable {X : Cx} {tg e e2 : Expr} {we : WE} {wa : WA} {p pos tpos : Pos} {elts : List Expr} {kk : Nat}
/-- a list or a tuple, as the value is -/
abbrev wiS (we : WE) : WI := fun dl M T => we dl M fun r M1 => match r with
  | .d (.list ds) => T (ds.map Sl.d) C0 M1
  | .d (.tuple ds) => T (ds.map Sl.d) C0 M1
  | .v (.ref p) => ∃ ss, M1 p = some (.lst ss) ∧ T ss (fun M => M p = some (.lst ss)) M1
  | .r ns => T (ns.map fun n => Sl.i n) C0 M1
  | _ => False
theorem iter_l {pins : List (Addr × Obj)} {st : L2.St} {H : Hp} {s : Shared} {a : Addr} {xs : List V} {R : It → Hp → Prop} (I : Inv X pins st H s) (h : SqL X.K H a xs) (q : R (Itl X.K a) H) : wpAny (model X.prog X.w) X.A (pyIter (.ref a)) (PIE X pins st tg R) X.xe s := by
  obtain ⟨its, rv, pl, hz⟩ := I.list h
  refine wpAny_pyIter_list pl.isList ⟨s.heap.objs.size, [s.heap.objs.size], _, _, H, rfl, I.kept (t' := s.toks) fun b o z => Heap.get?_push_of_some _ z, turn_list a _, ⟨_, Heap.get?_push_size _ rfl, rfl, rfl⟩, fun b hb => ?_, q⟩
  obtain rfl : b = s.heap.objs.size := by simpa using hb
  exact I.fpOk (Nat.le_refl _) (I.hok.fresh (Nat.le_refl _))
theorem iter_t {pins : List (Addr × Obj)} {st : L2.St} {H : Hp} {s : Shared} {a : Addr} {xs : List V} {R : It → Hp → Prop} (I : Inv X pins st H s) (h : SqT X.K H a xs) (q : R (Itt X.K a) H) : wpAny (model X.prog X.w) X.A (pyIter (.ref a)) (PIE X pins st tg R) X.xe s := by
  obtain ⟨its, rv, pl, hz⟩ := I.tuple h
  refine wpAny_pyIter_tuple (show s.heap.IsTuple a its.toArray from pl) ⟨s.heap.objs.size, [s.heap.objs.size], _, _, H, rfl, I.kept (t' := s.toks) fun b o z => Heap.get?_push_of_some _ z, turn_tuple a _, ⟨_, Heap.get?_push_size _ rfl, rfl, rfl⟩, fun b hb => ?_, q⟩
  obtain rfl : b = s.heap.objs.size := by simpa using hb
  exact I.fpOk (Nat.le_refl _) (I.hok.fresh (Nat.le_refl _))
theorem pdi_seq (he : PD X e we) : PDI X tg e (wiS we) := by
  refine ⟨fun pins s st H R I h => ?_⟩
  obtain ⟨F, dl, M, T, so, at0, hw, po⟩ := h
  refine thn (PE.run he pins s st H (fun x H1 => ∃ a, x = .ref a ∧ ((∃ xs, SqL X.K H1 a xs ∧ R (Itl X.K a) H1) ∨ ∃ xs, SqT X.K H1 a xs ∧ R (Itt X.K a) H1)) I (tD_to so at0 hw fun v F1 H1 r M1 h1 g1 so1 at1 i1 => ?_)) fun v s1 ⟨x, H1, I1, r1, q1⟩ => ?_
  · split at h1
    · cases i1 with
      | lst q1 q2 =>
        exact ⟨_, rfl, .inl ⟨_, SqL.of (at1.ex _ _ q1), po F1 M1 H1 _ _ _ h1 g1 (wk_list (vs := []) fun F' M' H' e at' _ => ⟨_, SqL.of (at'.ex _ _ (e _ _ q1)), isAll_mono e (isAll_d q2)⟩)⟩⟩
    · obtain ⟨a, vs, rfl, q1, q2⟩ := sqT_at at1 i1
      refine ⟨a, rfl, .inr ⟨vs, q1, po F1 M1 H1 _ _ _ h1 g1 (wk_tup fun F' M' H' e at' _ => ?_)⟩⟩
      obtain ⟨b, us, e2, z1, z2⟩ := sqT_at at' (dq_mono e i1)
      cases e2
      exact ⟨us, z1, isAll_d z2⟩
    · rename_i q
      have i2 : v = .ref q := i1
      subst i2
      obtain ⟨ss, q0, h1⟩ := h1
      obtain ⟨_, vs, q1, q2⟩ := at1.mem q _ q0
      refine ⟨q, rfl, .inl ⟨vs, SqL.of q1, po F1 M1 H1 _ _ _ h1 g1 (wk_list (vs := []) fun F' M' H' e at' c => ?_)⟩⟩
      obtain ⟨_, us, z1, z2⟩ := at'.mem q _ c
      exact ⟨us, SqL.of z1, z2⟩
    · obtain ⟨a, rfl, q2⟩ := i1
      exact ⟨a, rfl, .inl ⟨_, ex_l at1.ex q2, po F1 M1 H1 _ _ _ h1 g1 (wk_list (vs := []) fun F' M' H' e at' _ => ⟨_, ex_l at'.ex (ex_l e q2), isAll_ints _⟩)⟩⟩
    · exact h1.elim
  · obtain ⟨a, rfl, hq⟩ := q1
    cases r1
    rcases hq with ⟨xs, h, q⟩ | ⟨xs, h, q⟩
    · exact iter_l I1 h q
    · exact iter_t I1 h q

/-! ### enumerate -/
def enumS (ds : List PyData) : List Sl := (ds.zipIdx 0).map fun (p : PyData × Nat) => Sl.w [.int (p.2 : Int), p.1]
abbrev wiEnum (wa : WA) : WI := fun dl M T => wa dl M fun rs M1 => match rs with
  | [.d (.list ds)] => T (enumS ds) C0 M1
  | _ => False
theorem enumS_get {ds : List PyData} {i : Nat} {r : Sl} (h : (enumS ds)[i]? = some r) : ∃ d, ds[i]? = some d ∧ r = .w [.int (i : Int), d] := by
  unfold enumS at h
  rw [List.getElem?_map] at h
  obtain ⟨q, h1, rfl⟩ := Option.map_eq_some_iff.mp h
  rw [List.getElem?_zipIdx] at h1
  obtain ⟨d, h2, rfl⟩ := Option.map_eq_some_iff.mp h1
  exact ⟨d, h2, by simp⟩
theorem enumS_len (ds : List PyData) : (enumS ds).length = ds.length := by unfold enumS; rw [List.length_map, List.length_zipIdx]
theorem dqAll_get {K : PySem.W.Frag} {F : Hp} {ds : List PyData} {vs : List V} {i : Nat} {d : PyData} (h : DqAll K F vs ds) (e : ds[i]? = some d) : ∃ v, vs[i]? = some v ∧ Dq K F v d := by
  obtain ⟨v, h1, h2⟩ := (isAll_d h).get (i := i) (a := Sl.d d) (by rw [List.getElem?_map, e]; rfl)
  exact ⟨v, h1, h2⟩
theorem pdi_enum (hg : Gl X "enumerate") (hm : X.mg "enumerate" = none) (ha : PDA X [e] wa) (hs : starEach [e] X.env = [(false, eval e X.env)] := by rfl) : PDI X (.Tuple elts kk tpos) (.Call (.Name "enumerate" p) [e] [] pos) (wiEnum wa) :=
  pi_imp (pi_enum hg hm ha hs) fun st H Q ⟨F, dl, M, T, so, at0, hw, po⟩ =>
    tDA_to so at0 hw fun vs F1 H1 rs M1 h1 g1 so1 at1 i1 => by
      split at h1
      · obtain ⟨v, rfl, i2⟩ := isAll1 i1
        cases i2 with
        | @lst a us ds q1 q2 =>
          refine ⟨a, us, rfl, SqL.of (at1.ex _ _ q1), po F1 M1 H1 _ _ _ h1 g1 ⟨fun F M H i e at0 c hi => ?_, fun F M H i x H' r e at0 c y hr => ?_, fun F M H e at0 c => ?_⟩⟩
          · rw [enumS_len] at hi
            obtain ⟨v, z1, z2⟩ := dqAll_get (i := i) q2 (List.getElem?_eq_getElem hi)
            exact ⟨us, v, SqL.of (at0.ex _ _ (e _ _ q1)), z1⟩
          · obtain ⟨Tp, xv, rfl, hT, rfl, hx⟩ := y
            obtain ⟨d, hd, rfl⟩ := enumS_get hr
            obtain ⟨v, z1, z2⟩ := dqAll_get (i := i) q2 hd
            have hxv := hx us (SqL.of (at0.ex _ _ (e _ _ q1)))
            rw [z1] at hxv
            obtain rfl : v = xv := Option.some.inj hxv
            have g := Go.laid at0 (o := .tup [.int (i : Int), v]) hT
            exact ⟨_, g, _, _, rfl, .inl (.inl upd_same), .cons (.int _) (.cons (dq_mono (e.trans g.ex) z2) .nil)⟩
          · rw [enumS_len]
            exact ⟨us, SqL.of (at0.ex _ _ (e _ _ q1)), by rw [dqAll_len q2]; exact Nat.le_refl _⟩
      · exact h1.elim

/-! ### zip of two lists, of two tuples -/
def zipS (xs ys : List PyData) : List Sl := (xs.zip ys).map fun (p : PyData × PyData) => Sl.w [p.1, p.2]
theorem zipS_get {xs ys : List PyData} {i : Nat} {r : Sl} (h : (zipS xs ys)[i]? = some r) : ∃ x y, xs[i]? = some x ∧ ys[i]? = some y ∧ r = .w [x, y] := by
  unfold zipS at h
  rw [List.getElem?_map] at h
  obtain ⟨q, h1, rfl⟩ := Option.map_eq_some_iff.mp h
  rw [List.getElem?_zip_eq_some] at h1
  exact ⟨q.1, q.2, h1.1, h1.2, rfl⟩
theorem zipS_len (xs ys : List PyData) : (zipS xs ys).length = min xs.length ys.length := by unfold zipS; rw [List.length_map, List.length_zip]
abbrev wiZip (wa : WA) : WI := fun dl M T => wa dl M fun rs M1 => match rs with
  | [.d (.list xs), .d (.list ys)] => T (zipS xs ys) C0 M1
  | [.d (.tuple xs), .d (.tuple ys)] => T (zipS xs ys) C0 M1
  | _ => False
theorem pdi_zip (hg : Gl X "zip") (hm : X.mg "zip" = none) (ha : PDA X [e, e2] wa) (hs : starEach [e, e2] X.env = (false, eval e X.env) :: starEach [e2] X.env := by rfl) (hpl : (backTo pos (starEach [e2] X.env)).any (·.1) = false := by rfl) :
    PDI X (.Tuple elts kk tpos) (.Call (.Name "zip" p) [e, e2] [] pos) (wiZip wa) :=
  pi_imp (RZ.pi_zipA hg hm ha hs hpl) fun st H Q ⟨F, dl, M, T, so, at0, hw, po⟩ =>
    tDA_to so at0 hw fun vs F1 H1 rs M1 h1 g1 so1 at1 i1 => by
      split at h1
      · rename_i xs ys
        obtain ⟨v, u, rfl, i2, i3⟩ := isAll2 i1
        cases i2 with
        | @lst a us _ q1 q2 =>
          cases i3 with
          | @lst b ws _ q3 q4 =>
            refine ⟨a, b, us, ws, rfl, .inl ⟨SqL.of (at1.ex _ _ q1), SqL.of (at1.ex _ _ q3), po F1 M1 H1 _ _ _ h1 g1 ⟨fun F M H i e at0 c hi => ?_, fun F M H i x H' r e at0 c y hr => ?_, fun F M H e at0 c => ?_⟩⟩⟩
            · rw [zipS_len] at hi
              obtain ⟨v1, z1, _⟩ := dqAll_get (i := i) q2 (List.getElem?_eq_getElem (by omega))
              obtain ⟨v2, z2, _⟩ := dqAll_get (i := i) q4 (List.getElem?_eq_getElem (by omega))
              exact ⟨us, ws, v1, v2, SqL.of (at0.ex _ _ (e _ _ q1)), SqL.of (at0.ex _ _ (e _ _ q3)), z1, z2⟩
            · obtain ⟨Tp, x1, x2, rfl, hT, rfl, hx, hy⟩ := y
              obtain ⟨d1, d2, e1, e2, rfl⟩ := zipS_get hr
              obtain ⟨v1, z1, w1⟩ := dqAll_get (i := i) q2 e1
              obtain ⟨v2, z2, w2⟩ := dqAll_get (i := i) q4 e2
              have hx1 := hx us (SqL.of (at0.ex _ _ (e _ _ q1)))
              have hx2 := hy ws (SqL.of (at0.ex _ _ (e _ _ q3)))
              rw [z1] at hx1; rw [z2] at hx2
              obtain rfl : v1 = x1 := Option.some.inj hx1
              obtain rfl : v2 = x2 := Option.some.inj hx2
              have g := Go.laid at0 (o := .tup [v1, v2]) hT
              exact ⟨_, g, _, _, rfl, .inl (.inl upd_same), .cons (dq_mono (e.trans g.ex) w1) (.cons (dq_mono (e.trans g.ex) w2) .nil)⟩
            · rw [zipS_len]
              refine ⟨us, ws, SqL.of (at0.ex _ _ (e _ _ q1)), SqL.of (at0.ex _ _ (e _ _ q3)), ?_⟩
              rw [dqAll_len q2, dqAll_len q4]
              omega
      · rename_i xs ys
        obtain ⟨v, u, rfl, i2, i3⟩ := isAll2 i1
        obtain ⟨a, us, rfl, q1, q2⟩ := sqT_at at1 i2
        obtain ⟨b, ws, rfl, q3, q4⟩ := sqT_at at1 i3
        have la : ∀ F M H, Ex F1 F → At X.K F M H → ∃ us, SqT X.K H a us ∧ DqAll X.K F us xs := fun F M H e at' => by
          obtain ⟨c, zs, e2, z1, z2⟩ := sqT_at at' (dq_mono e i2)
          cases e2
          exact ⟨zs, z1, z2⟩
        have lb : ∀ F M H, Ex F1 F → At X.K F M H → ∃ us, SqT X.K H b us ∧ DqAll X.K F us ys := fun F M H e at' => by
          obtain ⟨c, zs, e2, z1, z2⟩ := sqT_at at' (dq_mono e i3)
          cases e2
          exact ⟨zs, z1, z2⟩
        refine ⟨a, b, us, ws, rfl, .inr ⟨q1, q3, po F1 M1 H1 _ _ _ h1 g1 ⟨fun F M H i e at0 c hi => ?_, fun F M H i x H' r e at0 c y hr => ?_, fun F M H e at0 c => ?_⟩⟩⟩
        · rw [zipS_len] at hi
          obtain ⟨us, s1, q2⟩ := la F M H e at0
          obtain ⟨ws, s2, q4⟩ := lb F M H e at0
          obtain ⟨v1, z1, _⟩ := dqAll_get (i := i) q2 (List.getElem?_eq_getElem (by omega))
          obtain ⟨v2, z2, _⟩ := dqAll_get (i := i) q4 (List.getElem?_eq_getElem (by omega))
          exact ⟨us, ws, v1, v2, s1, s2, z1, z2⟩
        · obtain ⟨us, s1, q2⟩ := la F M H e at0
          obtain ⟨ws, s2, q4⟩ := lb F M H e at0
          obtain ⟨Tp, x1, x2, rfl, hT, rfl, hx, hy⟩ := y
          obtain ⟨d1, d2, e1, e2, rfl⟩ := zipS_get hr
          obtain ⟨v1, z1, w1⟩ := dqAll_get (i := i) q2 e1
          obtain ⟨v2, z2, w2⟩ := dqAll_get (i := i) q4 e2
          have hx1 := hx us s1
          have hx2 := hy ws s2
          rw [z1] at hx1; rw [z2] at hx2
          obtain rfl : v1 = x1 := Option.some.inj hx1
          obtain rfl : v2 = x2 := Option.some.inj hx2
          have g := Go.laid at0 (o := .tup [v1, v2]) hT
          exact ⟨_, g, _, _, rfl, .inl (.inl upd_same), .cons (dq_mono g.ex w1) (.cons (dq_mono g.ex w2) .nil)⟩
        · obtain ⟨us, s1, q2⟩ := la F M H e at0
          obtain ⟨ws, s2, q4⟩ := lb F M H e at0
          rw [zipS_len]
          refine ⟨us, ws, s1, s2, ?_⟩
          rw [dqAll_len q2, dqAll_len q4]
          omega
      · exact h1.elim
end
end DL

set_option Elab.async false
set_option linter.all false
set_option maxRecDepth 100000
set_option maxHeartbeats 4000000
/-! DI: how readings are run. -/
namespace DL
open PySem PySem.Spec L2
/-! ### what is looked up -/
section
variable {A B C : Type} {o : Option A} {f : A → Option B} {g : A → B → Option C} {a : A} {b : B} {c : C}
theorem e1 {k : A → Prop} (h : o = some a) (hk : k a) : ∃ x, o = some x ∧ k x := ⟨a, h, hk⟩
theorem e1s {o : Option (Option A)} {k : A → Prop} (h : o = some (some a)) (hk : k a) : ∃ x, o = some (some x) ∧ k x := ⟨a, h, hk⟩
theorem e2 {k : A → B → Prop} (h : o = some a) (h2 : f a = some b) (hk : k a b) : ∃ x y, o = some x ∧ f x = some y ∧ k x y := ⟨a, b, h, h2, hk⟩
theorem e3 {k : A → B → C → Prop} (h : o = some a) (h2 : f a = some b) (h3 : g a b = some c) (hk : k a b c) : ∃ x y z, o = some x ∧ f x = some y ∧ g x y = some z ∧ k x y z := ⟨a, b, c, h, h2, h3, hk⟩
theorem e0 (h : o = some a) : ∃ x, o = some x := ⟨a, h⟩
theorem e0a {k : Prop} (h : o = some a) (hk : k) : (∃ x, o = some x) ∧ k := ⟨⟨a, h⟩, hk⟩
end
section
variable {B : Type} {o : Option MO} {ss : List Sl} {f : List Sl → Option B} {b : B}
theorem l1 {k : List Sl → Prop} (h : o = some (.lst ss)) (hk : k ss) : ∃ x, o = some (.lst x) ∧ k x := ⟨ss, h, hk⟩
theorem l2 {k : List Sl → B → Prop} (h : o = some (.lst ss)) (h2 : f ss = some b) (hk : k ss b) : ∃ x y, o = some (.lst x) ∧ f x = some y ∧ k x y := ⟨ss, b, h, h2, hk⟩
end
theorem gN_go {i : Nat} {r : Sl} {dl dl' : Env'} {M : Mem} {R : Env' → Mem → Prop} (h : dl.set i (some r) = dl') (hk : R dl' M) : gN i r dl M R := by subst h; exact hk
/-! ### a tuple taken apart -/
section
variable {ws : WGs} {dl : Env'} {M : Mem} {R : Env' → Mem → Prop} {x0 x1 x2 x3 x4 x5 x6 x7 : PyData}
theorem gt1_go (h : ws [.d x0] dl M R) : gTup' 1 ws (.d (.tuple [x0])) dl M R := ⟨rfl, h⟩
theorem gt2_go (h : ws [.d x0, .d x1] dl M R) : gTup' 2 ws (.d (.tuple [x0, x1])) dl M R := ⟨rfl, h⟩
theorem gt3_go (h : ws [.d x0, .d x1, .d x2] dl M R) : gTup' 3 ws (.d (.tuple [x0, x1, x2])) dl M R := ⟨rfl, h⟩
theorem gt4_go (h : ws [.d x0, .d x1, .d x2, .d x3] dl M R) : gTup' 4 ws (.d (.tuple [x0, x1, x2, x3])) dl M R := ⟨rfl, h⟩
theorem gt5_go (h : ws [.d x0, .d x1, .d x2, .d x3, .d x4] dl M R) : gTup' 5 ws (.d (.tuple [x0, x1, x2, x3, x4])) dl M R := ⟨rfl, h⟩
theorem gt6_go (h : ws [.d x0, .d x1, .d x2, .d x3, .d x4, .d x5] dl M R) : gTup' 6 ws (.d (.tuple [x0, x1, x2, x3, x4, x5])) dl M R := ⟨rfl, h⟩
theorem gt7_go (h : ws [.d x0, .d x1, .d x2, .d x3, .d x4, .d x5, .d x6] dl M R) : gTup' 7 ws (.d (.tuple [x0, x1, x2, x3, x4, x5, x6])) dl M R := ⟨rfl, h⟩
theorem gt8_go (h : ws [.d x0, .d x1, .d x2, .d x3, .d x4, .d x5, .d x6, .d x7] dl M R) : gTup' 8 ws (.d (.tuple [x0, x1, x2, x3, x4, x5, x6, x7])) dl M R := ⟨rfl, h⟩
theorem gw1_go (h : ws [.d x0] dl M R) : gTup' 1 ws (.w [x0]) dl M R := ⟨rfl, h⟩
theorem gw2_go (h : ws [.d x0, .d x1] dl M R) : gTup' 2 ws (.w [x0, x1]) dl M R := ⟨rfl, h⟩
theorem gw3_go (h : ws [.d x0, .d x1, .d x2] dl M R) : gTup' 3 ws (.w [x0, x1, x2]) dl M R := ⟨rfl, h⟩
theorem gw4_go (h : ws [.d x0, .d x1, .d x2, .d x3] dl M R) : gTup' 4 ws (.w [x0, x1, x2, x3]) dl M R := ⟨rfl, h⟩
theorem gw5_go (h : ws [.d x0, .d x1, .d x2, .d x3, .d x4] dl M R) : gTup' 5 ws (.w [x0, x1, x2, x3, x4]) dl M R := ⟨rfl, h⟩
theorem gw6_go (h : ws [.d x0, .d x1, .d x2, .d x3, .d x4, .d x5] dl M R) : gTup' 6 ws (.w [x0, x1, x2, x3, x4, x5]) dl M R := ⟨rfl, h⟩
theorem gw7_go (h : ws [.d x0, .d x1, .d x2, .d x3, .d x4, .d x5, .d x6] dl M R) : gTup' 7 ws (.w [x0, x1, x2, x3, x4, x5, x6]) dl M R := ⟨rfl, h⟩
theorem gw8_go (h : ws [.d x0, .d x1, .d x2, .d x3, .d x4, .d x5, .d x6, .d x7] dl M R) : gTup' 8 ws (.w [x0, x1, x2, x3, x4, x5, x6, x7]) dl M R := ⟨rfl, h⟩
end
/-! ### both ways -/
theorem if_go {k : Bool} {a b : Prop} (h1 : k = true → a) (h2 : k = false → b) : if k = true then a else b := by
  cases k
  · exact h2 rfl
  · exact h1 rfl
theorem ifd_go {p a b : Prop} [Decidable p] (h1 : p → a) (h2 : ¬ p → b) : if decide p = true then a else b := by
  by_cases h : p
  · rw [decide_eq_true h]; exact h1 h
  · rw [decide_eq_false h]; exact h2 h
theorem ifnd_go {p a b : Prop} [Decidable p] (h1 : ¬ p → a) (h2 : p → b) : if (!decide p) = true then a else b := by
  by_cases h : p
  · rw [decide_eq_true h]; exact h2 h
  · rw [decide_eq_false h]; exact h1 h
theorem ifT_go {c : Bool} {a b : Prop} (h : c = true) (k : a) : if c = true then a else b := by rw [if_pos h]; exact k
theorem ifF_go {c : Bool} {a b : Prop} (h : c = false) (k : b) : if c = true then a else b := by rw [if_neg (by rw [h]; exact Bool.false_ne_true)]; exact k
theorem ift_go {a b : Prop} (h : a) : if true = true then a else b := h
theorem iff_go {a b : Prop} (h : b) : if false = true then a else b := h
/-- what stands between two statements -/
theorem seq_cut {w u : WS} {P : PK} {dl : Env'} {M : Mem} (Q : Env' → Mem → Prop) (h2 : ∀ dl M, Q dl M → u P dl M) (h1 : ∀ nx, (∀ dl M, Q dl M → nx dl M) → w { P with nx := nx } dl M) : wSeq w u P dl M := h1 _ h2
/-! ### memory -/
theorem upM_self {M : Mem} {a : Addr} {o : MO} (h : M a = some o) : upM M a o = M := by
  funext b; unfold upM; split
  · rename_i e; subst e; exact h.symm
  · rfl
theorem upM_comm {M : Mem} {a b : Addr} {o u : MO} (h : a ≠ b) : upM (upM M a o) b u = upM (upM M b u) a o := by
  funext c; unfold upM; split
  · rename_i e; subst e; rw [if_neg (Ne.symm h)]
  · rfl
/-! ### places -/
section
variable {A : Type} {a b c d e f g : A} {l : List A}
theorem atI_nat {i : Nat} {x : A} (h : l[i]? = some x) : atI l (i : Int) = some x := by
  have hi : i < l.length := (List.getElem?_eq_some_iff.mp h).1
  unfold atI ixN
  rw [if_pos (Int.natCast_nonneg i), if_pos (by omega)]
  show l[((i : Nat) : Int).toNat]? = some x
  rw [Int.toNat_natCast]; exact h
theorem atI_int {i : Int} {x : A} (h0 : 0 ≤ i) (h : l[i.toNat]? = some x) : atI l i = some x := by
  have := atI_nat h
  rwa [Int.toNat_of_nonneg h0] at this
end
end DL

set_option Elab.async false
set_option linter.all false
set_option maxRecDepth 100000
set_option maxHeartbeats 4000000
/-! DJ: loops by a law of their own; how long a datum's text is. -/
namespace DL
open PySem PySem.Spec L2
/-! ### loops -/
theorem for_ind {g : WG} {wb : WS} {C : Mem → Prop} {P : PK} (I : List Sl → Env' → Mem → Prop) (h0 : ∀ dl M, I [] dl M → C M ∧ P.nx dl M)
    (h1 : ∀ x xs (nx : Env' → Mem → Prop) dl M, (∀ dl M, I xs dl M → nx dl M) → I (x :: xs) dl M → C M ∧ g x dl M fun dl2 M2 => wb { nx := nx, rt := P.rt, bk := P.nx, ct := nx } dl2 M2) :
    ∀ {items : List Sl} {dl : Env'} {M : Mem}, I items dl M → forGo g wb C P items dl M
  | [], dl, M, h => h0 dl M h
  | x :: xs, dl, M, h => h1 x xs _ dl M (fun dl M h => for_ind I h0 h1 h) h
theorem lc_ind {g : WG} {wt : WT} {we : WE} {C : Mem → Prop} {dl : Env'} {R : List Sl → Mem → Prop} (I : List Sl → List Sl → Mem → Prop) (h0 : ∀ acc M, I [] acc M → C M ∧ R acc M)
    (h1 : ∀ x xs acc M (nx : List Sl → Mem → Prop), (∀ acc M, I xs acc M → nx acc M) → I (x :: xs) acc M → C M ∧ g x dl M fun dl2 M2 => wt dl2 M2 fun k M3 => if k = true then we dl2 M3 fun y M4 => acc.length < sizeLine ∧ nx (acc ++ [y]) M4 else nx acc M3) :
    ∀ {items acc : List Sl} {M : Mem}, I items acc M → lcGo g wt we C dl R items acc M
  | [], acc, M, h => h0 acc M h
  | x :: xs, acc, M, h => h1 x xs acc M _ (fun acc M h => lc_ind I h0 h1 h) h
/-- a comprehension that changes nothing -/
theorem lc_map {g : WG} {wt : WT} {we : WE} {C : Mem → Prop} {dl : Env'} {R : List Sl → Mem → Prop} {items : List Sl} {M : Mem} (f : Sl → Option Sl) (hC : C M) (hz : items.length ≤ sizeLine)
    (h : ∀ x ∈ items, ∀ (k1 : Sl → Mem → Prop) (k0 : Mem → Prop), (∀ y, f x = some y → k1 y M) → (f x = none → k0 M) → g x dl M fun dl2 M2 => wt dl2 M2 fun k M3 => if k = true then we dl2 M3 k1 else k0 M3)
    (hR : R (items.filterMap f) M) : lcGo g wt we C dl R items [] M := by
  refine lc_ind (fun xs acc M' => M' = M ∧ acc.length + xs.length ≤ items.length ∧ (∀ x ∈ xs, x ∈ items) ∧ acc ++ xs.filterMap f = items.filterMap f) (fun acc M' ⟨e, hl, _, ha⟩ => ?_) (fun x xs acc M' nx hnx ⟨e, hl, hm, ha⟩ => ?_) ⟨rfl, by simp, fun _ q => q, rfl⟩
  · subst e
    rw [List.filterMap_nil, List.append_nil] at ha
    subst ha
    exact ⟨hC, hR⟩
  · subst e
    rw [List.length_cons] at hl
    refine ⟨hC, h x (hm x List.mem_cons_self) _ _ (fun y hy => ⟨by omega, hnx _ _ ⟨rfl, by simp; omega, fun z q => hm z (List.mem_cons_of_mem _ q), ?_⟩⟩) fun hy => hnx _ _ ⟨rfl, by omega, fun z q => hm z (List.mem_cons_of_mem _ q), ?_⟩⟩
    · rw [List.filterMap_cons_some hy] at ha
      rw [List.append_assoc]; exact ha
    · rw [List.filterMap_cons_none hy] at ha
      exact ha
theorem fm_some (f : PyData → PyData) : ∀ ds : List PyData, (ds.map Sl.d).filterMap (fun x => match x with | .d d => some (.d (f d)) | _ => none) = (ds.map f).map Sl.d
  | [] => rfl
  | a :: r => by
    simp only [List.map_cons, List.filterMap_cons, fm_some f r]
theorem lc_mapD {g : WG} {wt : WT} {we : WE} {C : Mem → Prop} {dl : Env'} {R : List Sl → Mem → Prop} {ds : List PyData} {M : Mem} (f : PyData → PyData) (hC : C M) (hz : ds.length ≤ sizeLine)
    (h : ∀ d ∈ ds, ∀ (k1 : Sl → Mem → Prop) (k0 : Mem → Prop), k1 (.d (f d)) M → g (.d d) dl M fun dl2 M2 => wt dl2 M2 fun k M3 => if k = true then we dl2 M3 k1 else k0 M3)
    (hR : R ((ds.map f).map Sl.d) M) : lcGo g wt we C dl R (ds.map Sl.d) [] M := by
  refine lc_map (fun x => match x with | .d d => some (.d (f d)) | _ => none) hC (by rw [List.length_map]; exact hz) (fun x hx k1 k0 h1 h0 => ?_) ?_
  · obtain ⟨d, hd, rfl⟩ := List.mem_map.mp hx
    exact h d hd k1 k0 (h1 _ rfl)
  · rw [fm_some]; exact hR
theorem while_ind {c : WT} {wb : WS} {P : PK} (I : Nat → Env' → Mem → Prop)
    (h1 : ∀ n (nx : Env' → Mem → Prop) dl M, (∀ m dl M, m < n → I m dl M → nx dl M) → I n dl M → c dl M fun k M1 => if k = true then wb { nx := nx, rt := P.rt, bk := P.nx, ct := nx } dl M1 else P.nx dl M1)
    {n : Nat} {dl : Env'} {M : Mem} (h : I n dl M) (mono : ∀ k k' dl M, k ≤ k' → whGo c wb P k dl M → whGo c wb P k' dl M) : wWhile c wb P dl M := by
  suffices hs : ∀ n dl M, I n dl M → whGo c wb P (n + 1) dl M from ⟨_, hs n dl M h⟩
  intro n
  induction n using Nat.strongRecOn with
  | ind n ih =>
    intro dl M h
    exact h1 n (whGo c wb P n) dl M (fun m dl M hm hI => mono (m + 1) n dl M hm (ih m hm dl M hI)) h
/-- .. whose measure goes down by one -/
theorem while_ind1 {c : WT} {wb : WS} {P : PK} (I : Nat → Env' → Mem → Prop) (h0 : ∀ (nx : Env' → Mem → Prop) dl M, I 0 dl M → c dl M fun k M1 => if k = true then wb { nx := nx, rt := P.rt, bk := P.nx, ct := nx } dl M1 else P.nx dl M1)
    (h1 : ∀ n (nx : Env' → Mem → Prop) dl M, (∀ dl M, I n dl M → nx dl M) → I (n + 1) dl M → c dl M fun k M1 => if k = true then wb { nx := nx, rt := P.rt, bk := P.nx, ct := nx } dl M1 else P.nx dl M1)
    {n : Nat} {dl : Env'} {M : Mem} (h : I n dl M) : wWhile c wb P dl M := by
  suffices hs : ∀ n dl M, I n dl M → whGo c wb P (n + 1) dl M from ⟨_, hs n dl M h⟩
  intro n
  induction n with
  | zero => intro dl M h; exact h0 _ dl M h
  | succ n ih => intro dl M h; exact h1 n _ dl M ih h

/-! ### slices, ints -/
theorem datI (ns : List Int) : datOf (ns.map fun n => Sl.i n) = some (ns.map PyData.int) := by
  have := datOf_map (ns.map PyData.int)
  rwa [List.map_map] at this
theorem cutA_to {A : Type} {xs : List A} {m : Int} (h : 0 ≤ m) : cutA xs none (some m) = xs.take m.toNat := by
  unfold cutA HT.sIx
  simp only [if_neg (show ¬ m < 0 by omega), List.drop_zero, Nat.sub_zero]
  rcases Nat.le_total m.toNat xs.length with q | q
  · rw [Nat.min_eq_left q]
  · rw [Nat.min_eq_right q, List.take_length, List.take_of_length_le q]
theorem cutA_from {A : Type} {xs : List A} {m : Int} (h : 0 ≤ m) : cutA xs (some m) none = xs.drop m.toNat := by
  unfold cutA HT.sIx
  simp only [if_neg (show ¬ m < 0 by omega)]
  rcases Nat.le_total m.toNat xs.length with q | q
  · rw [Nat.min_eq_left q, List.take_of_length_le (by rw [List.length_drop]; exact Nat.le_refl _)]
  · rw [Nat.min_eq_right q, List.drop_length, List.drop_of_length_le q, List.take_nil]
theorem cutA_mid {A : Type} {xs : List A} {m n : Int} (h : 0 ≤ m) (h2 : 0 ≤ n) : cutA xs (some m) (some n) = (xs.take n.toNat).drop m.toNat := by
  unfold cutA HT.sIx
  simp only [if_neg (show ¬ m < 0 by omega), if_neg (show ¬ n < 0 by omega)]
  rw [← List.drop_take]
  apply List.ext_getElem?
  intro i
  rw [List.getElem?_drop, List.getElem?_drop, List.getElem?_take, List.getElem?_take]
  by_cases h1 : m.toNat ≤ xs.length
  · rw [Nat.min_eq_left h1]
    by_cases h3 : m.toNat + i < xs.length
    · by_cases h4 : m.toNat + i < n.toNat
      · rw [if_pos h4, if_pos (by omega)]
      · rw [if_neg h4, if_neg (by omega)]
    · rw [List.getElem?_eq_none (by omega : xs.length ≤ m.toNat + i)]
      split <;> split <;> rfl
  · rw [Nat.min_eq_right (by omega : xs.length ≤ m.toNat), List.getElem?_eq_none (by omega : xs.length ≤ m.toNat + i), List.getElem?_eq_none (by omega : xs.length ≤ xs.length + i)]
    split <;> split <;> rfl
theorem intsS_set (ns : List Int) (i : Nat) (v : Int) : (ns.map fun n => Sl.i n).set i (.i v) = (ns.set i v).map fun n => Sl.i n := by
  rw [List.map_set]
theorem mapI (ns : List Int) : (ns.map fun n => Sl.i n) = (ns.map PyData.int).map Sl.d := by rw [List.map_map]; rfl
theorem enumS_nil : enumS [] = [] := rfl
/-! ### how long a datum's text is: ints below 10 ^ 36, texts out of a list of words -/
mutual
def sz (W : List Str) : PyData → Nat
  | .none => 8
  | .bool _ => 8
  | .int i => if i.natAbs < 10 ^ 36 then 40 else 10 ^ 9
  | .str s => if s ∈ W then 40 else 10 ^ 9
  | .list xs => 4 + szs W xs
  | .tuple xs => 4 + szs W xs
  | .dict _ => 10 ^ 9
def szs (W : List Str) : List PyData → Nat
  | [] => 0
  | x :: xs => 2 + sz W x + szs W xs
end
def Wds (W : List Str) : Prop := ∀ s ∈ W, PyData.strOk s = true ∧ (reprText s).length ≤ 40
theorem listText_le (ts : List Str) : (listText ts).length ≤ piled ts + 2 := by
  cases ts with
  | nil => decide +kernel
  | cons t r =>
    have h := textFrom_length_pos r 1 (("[" : Str) ++ (if (0 : Nat) > 0 then ", " else "" : String) ++ t) (Nat.succ_pos 0)
    have e : ((("[" : Str) ++ (if (0 : Nat) > 0 then ", " else "" : String) ++ t)).length = 1 + t.length := by
      rw [strLen_append, strLen_append]; rfl
    have hX : (listText (t :: r)).length = (textFrom 0 "[" (t :: r)).length + 1 := by
      show (textFrom 0 "[" (t :: r) ++ "]").length = _
      rw [strLen_append]; rfl
    have hY : (textFrom 0 "[" (t :: r)).length = (textFrom 1 (("[" : Str) ++ (if (0 : Nat) > 0 then ", " else "" : String) ++ t) r).length := rfl
    rw [hX, hY, h, e, piled_cons]; omega
theorem tupleText_le (ts : List Str) : (tupleText ts).length ≤ piled ts + 3 := by
  unfold tupleText
  rw [strLen_append, strLen_append]
  have e1 : ((("(" : String) : Str)).length = 1 := rfl
  have e3 : (((if ts.length == 1 then ",)" else ")" : String) : Str)).length ≤ 2 := by split <;> decide
  rw [e1]
  by_cases h : ts = []
  · subst h; decide +kernel
  · have := join_length_add ts h
    omega
mutual
theorem sz_ok {W : List Str} (hW : Wds W) : ∀ d : PyData, sz W d < 10 ^ 9 → d.canLay0 = true ∧ d.showable = true ∧ d.shown.length ≤ sz W d
  | .none, _ => ⟨rfl, rfl, by simp only [sz]; decide +kernel⟩
  | .bool b, _ => ⟨rfl, rfl, by simp only [sz]; cases b <;> decide +kernel⟩
  | .int i, h => by
    simp only [sz] at h ⊢
    split at h
    · rename_i hi
      refine ⟨rfl, ?_, ?_⟩
      · simp only [PyData.showable, decide_eq_true_eq]
        by_cases h0 : i.natAbs = 0
        · rw [h0]; decide
        · exact (Nat.log2_lt h0).mpr (Nat.lt_trans hi (by decide +kernel))
      · rw [PyData.shown, ofString_length, if_pos hi]
        have := int_text_length_le10 (k := 36) (by decide) hi
        omega
    · omega
  | .str s, h => by
    simp only [sz] at h ⊢
    split at h
    · rename_i hs
      obtain ⟨h1, h2⟩ := hW s hs
      rw [if_pos hs]
      exact ⟨by rw [PyData.canLay0]; exact h1, rfl, by rw [PyData.shown]; exact h2⟩
    · omega
  | .list xs, h => by
    simp only [sz] at h ⊢
    obtain ⟨h1, h2, h3⟩ := szs_ok hW xs (by omega)
    refine ⟨by rw [PyData.canLay0]; exact h1, by rw [PyData.showable]; exact h2, ?_⟩
    rw [PyData.shown]
    have := listText_le (PyData.shownAll xs)
    omega
  | .tuple xs, h => by
    simp only [sz] at h ⊢
    obtain ⟨h1, h2, h3⟩ := szs_ok hW xs (by omega)
    refine ⟨by rw [PyData.canLay0]; exact h1, by rw [PyData.showable]; exact h2, ?_⟩
    rw [PyData.shown]
    have := tupleText_le (PyData.shownAll xs)
    omega
  | .dict _, h => by simp only [sz] at h; omega
theorem szs_ok {W : List Str} (hW : Wds W) : ∀ ds : List PyData, szs W ds < 10 ^ 9 → PyData.canLayAll0 ds = true ∧ PyData.showableAll ds = true ∧ piled (PyData.shownAll ds) ≤ szs W ds
  | [], _ => ⟨rfl, rfl, Nat.le_refl _⟩
  | x :: xs, h => by
    simp only [szs] at h ⊢
    obtain ⟨a1, a2, a3⟩ := sz_ok hW x (by omega)
    obtain ⟨b1, b2, b3⟩ := szs_ok hW xs (by omega)
    refine ⟨by rw [PyData.canLayAll0, a1, b1]; rfl, by rw [PyData.showableAll, a2, b2]; rfl, ?_⟩
    rw [PyData.shownAll, piled_cons]
    omega
end
theorem shw_of {W : List Str} (hW : Wds W) {d : PyData} (h : sz W d ≤ 16777216) (hd : d.depth ≤ 40) : Shw d := by
  obtain ⟨h1, h2, h3⟩ := sz_ok hW d (by omega)
  have e : sizeLine = 16777216 := by decide
  exact ⟨h1, hd, h2, by omega⟩
theorem shaped_of {W : List Str} (hW : Wds W) {d : PyData} (h : sz W d ≤ 16777216) (hd : d.depth ≤ 40) : SeqAt.shaped d = true := by
  obtain ⟨h1, h2, h3⟩ := sz_ok hW d (by omega)
  unfold SeqAt.shaped
  rw [h1]
  simp only [Bool.true_and, decide_eq_true_eq]
  omega
/-! ### a == a -/
mutual
theorem eqv_self : ∀ {d : PyData}, d.canLay0 = true → PyData.eqv d d = true
  | .none, _ => rfl
  | .bool b, _ => by simp [PyData.eqv]
  | .int i, _ => by simp [PyData.eqv]
  | .str s, _ => by simp [PyData.eqv]
  | .list xs, h => by
    rw [PyData.canLay0] at h
    rw [PyData.eqv]; exact eqvs_self h
  | .tuple xs, h => by
    rw [PyData.canLay0] at h
    rw [PyData.eqv]; exact eqvs_self h
  | .dict _, h => by simp [PyData.canLay0] at h
theorem eqvs_self : ∀ {ds : List PyData}, PyData.canLayAll0 ds = true → PyData.eqvAll ds ds = true
  | [], _ => rfl
  | x :: xs, h => by
    rw [PyData.canLayAll0, Bool.and_eq_true] at h
    rw [PyData.eqvAll, eqv_self h.1, eqvs_self h.2]; rfl
end
end DL

set_option Elab.async false
set_option linter.all false
set_option maxRecDepth 100000
set_option maxHeartbeats 4000000
/-! DK: a set of ints out of a list, in two steps: set(x) by what __init__ does; __init__ over a list. -/
namespace DL
open PySem PySem.Spec L2 PyProof.Rows
section
variable {P : Program} {w : World} {A : Around} {E : Value → Shared → Prop} {s : Shared}
/-- a set as __new__ leaves it -/
abbrev bareSet (w : World) : Obj := { cls := .type "set", dict := none, data := .set #[] 0 (.fresh 0 0 (!w.params.followText "set-order")) }
abbrev withSet (w : World) (s : Shared) : Shared := { s with heap := s.heap.push (bareSet w) }
theorem withSet_get : (withSet w s).heap.get? s.heap.objs.size = some (bareSet w) := Heap.get?_push_size _ rfl
theorem set_by_init {x : Value} {Q : Value → Shared → Prop}
    (h : ∀ A' : Around, A'.handled = A.handled → codeAny (model P w) A' (.call (.builtin "set.__init__") ⟨[.ref s.heap.objs.size, x], []⟩) (wants (fun r s₂ => r = .none ∧ Q (.ref s.heap.objs.size) s₂) E) (withSet w s)) : wpAny (model P w) A (call (.type "set") [x]) Q E s := by
  obtain ⟨c, tl, hmro⟩ := F.called_set.mro
  have hmade := F.called_set.made
  have hsub := F.called_set.sub
  have h1 := F.called_set.notType
  have h2 := F.called_set.canCreate
  have hct := F.typeCall_set_1 x
  refine wpAny_call (codeAny_of_tree ?_)
  show wpAny _ _ (callAny (.type "set") _) _ _ _
  refine wpAny_pure ⟨Code.quiet_builtin _ (by decide +kernel), codeAny_builtin F.entry_type_call ?_⟩
  rw [Around.under_plain (weight_type_call_type "set" [x] []) rfl]
  repeat (any_goals (first | assumption | wp_step))
  refine codeAny_mono (code_set_led1 x (E := E) (Q₁ := fun o s₁ => o = .ref s.heap.objs.size ∧ s₁ = withSet w s) ⟨rfl, rfl⟩) fun r s₁ hr => ?_
  cases r with
  | error e => exact hr
  | ok fl =>
    cases fl with
    | ret o =>
      obtain ⟨rfl, rfl⟩ := hr
      have hT : Shared.TypeIs (withSet w s) (.ref s.heap.objs.size) "set" := ⟨_, withSet_get, rfl⟩
      have hli := F.called_set.init.lookup
      have hbi := F.called_set.init.bind (.ref s.heap.objs.size)
      repeat (any_goals (first | assumption | wp_step))
      refine codeAny_mono (h _ rfl) fun r₂ s₂ hr₂ => ?_
      cases r₂ with
      | error e => exact hr₂
      | ok f2 =>
        cases f2 with
        | ret r =>
          obtain ⟨rfl, hq⟩ := hr₂
          repeat (any_goals (first | assumption | wp_step))
        | _ => exact hr₂.elim
    | _ => exact hr.elim
theorem init_list {l : Addr} {vs : Array Value} (ns : List Int) {Q : Value → Shared → Prop} (hh : A.handled = none) (hl : s.heap.IsList l vs) (hi : IntsAre vs.toList ns) (hb : ns.length + 1 < scanBound)
    (h : ∀ (h' : Heap) (tk c : Nat), SetR w h' s.heap.objs.size (fun j => decide (j ∈ ns)) c → c ≤ ns.length → (∀ b o, s.heap.get? b = some o → h'.get? b = some o) → Q (.ref s.heap.objs.size) { s with heap := h', toks := tk }) :
    codeAny (model P w) A (.call (.builtin "set.__init__") ⟨[.ref s.heap.objs.size, .ref l], []⟩) (wants (fun r s₂ => r = .none ∧ Q (.ref s.heap.objs.size) s₂) E) (withSet w s) := by
  have hsz : vs.size = ns.length := by have q := IntsAre.length hi; rwa [Array.length_toList] at q
  have hlt : l < s.heap.objs.size := hl.elim fun _ z => Heap.lt_size z.1
  have hl2 : (withSet w s).heap.IsList l vs := hl.push _
  have z1 : (withSet w s).heap.objs.size = s.heap.objs.size + 1 := Heap.size_push ..
  refine codeAny_call_builtin F.called_set.init.plain F.entry_set_init (check_set_init_1 ⟨_, withSet_get, rfl⟩ ?_)
  obtain ⟨⟨oc, od, odat, osl⟩, e1, e2, n, e3⟩ := hl2
  have hl2 : (withSet w s).heap.IsList l vs := ⟨_, e1, e2, n, e3⟩
  simp only at e2 e3
  subst e2 e3
  have a1 := F.sub_list_set
  have a2 := F.sub_list_frozenset
  have a3 : (Value.type "list" == Value.type "dict") = false := by decide
  unfold Builtin.«set.__init__» noKeywords Builtin.Frozenset.updateFrom
  generalize hp : pyIter = pit
  wp_walk
  subst hp
  have hv : ∀ (i : Nat) (v : Value), vs[i]? = some v → ∃ k t, ns[i]? = some k ∧ v = .int k t := fun i v q => by
    have hlt2 : i < ns.length := by rw [← hsz]; exact (Array.getElem?_eq_some_iff.mp q).1
    obtain ⟨t, e⟩ := IntsAre.int_at hi i v (by rw [Array.getElem?_toList]; exact q)
    exact ⟨ns[i], t, List.getElem?_eq_getElem hlt2, by rw [e, List.getD_eq_getElem?_getD, List.getElem?_eq_getElem hlt2]; rfl⟩
  have hne : l ≠ (withSet w s).heap.objs.size := by rw [z1]; exact Nat.ne_of_lt (Nat.lt_succ_of_lt hlt)
  refine wpAny_pyIter_list hl2 (wpAny_bind (wpAny_runValue ?_))
  have W := (Walks.list (prog := P) (w := w) (A := A.in1.in1) (by simp [hh]) (withSet w s).heap.objs.size l hne vs).toS
  refine set_update_ints W s.heap.objs.size (fun z => ?_) ns hsz hb hv (vs.size - 0) 0 _ (by omega) (Nat.zero_le _) ?_ ?_ ?_
  · rw [z1] at z
    rcases List.mem_cons.mp z with q | q
    · exact absurd q (Nat.ne_of_lt (Nat.lt_succ_self _))
    · exact absurd (List.mem_singleton.mp q) (Nat.ne_of_gt hlt)
  · exact ⟨⟨_, Heap.get?_push_size _ rfl, rfl, rfl⟩, hl2.push _⟩
  · have q : ((withSet w s).heap.push { cls := .type "list_iterator", data := .fields #[.ref l, .int 0 0] }).get? s.heap.objs.size = some (bareSet w) := Heap.get?_push_of_some _ withSet_get
    exact ⟨0, Nat.le_refl 0, setR_new_at q⟩
  · rintro ⟨h', g2, d2, tk2, os2⟩ c hm hc hS
    have e1 : g2 = s.gens := hm.gens
    have e2 : d2 = s.drawn := hm.drawn
    have e3 : os2 = s.os := hm.os
    subst e1 e2 e3
    show wpAny _ _ _ _ _ _
    refine wpAny_pure ?_
    show wpAny _ _ (ret Value.none) _ _ _
    rw [hsz] at hc
    refine wpAny_pure ⟨rfl, h h' tk2 c hS hc fun b o e => hm.heap b o (fun z => ?_) (Heap.get?_push_of_some _ (Heap.get?_push_of_some _ e))⟩
    have hb0 := Heap.lt_size e
    rcases List.mem_cons.mp z with q | q
    · exact absurd q (Nat.ne_of_lt hb0)
    · have q2 := List.mem_singleton.mp q
      rw [z1] at q2
      exact absurd q2 (Nat.ne_of_lt (Nat.lt_succ_of_lt hb0))
/-- set(l), l a list of ints -/
theorem set_of_list {l : Addr} {vs : Array Value} (ns : List Int) {Q : Value → Shared → Prop} (hh : A.handled = none) (hl : s.heap.IsList l vs) (hi : IntsAre vs.toList ns) (hb : ns.length + 1 < scanBound)
    (h : ∀ (h' : Heap) (tk c : Nat), SetR w h' s.heap.objs.size (fun j => decide (j ∈ ns)) c → c ≤ ns.length → (∀ b o, s.heap.get? b = some o → h'.get? b = some o) → Q (.ref s.heap.objs.size) { s with heap := h', toks := tk }) :
    wpAny (model P w) A (call (.type "set") [.ref l]) Q E s :=
  set_by_init fun A' e => init_list ns (e.trans hh) hl hi hb h
end
end DL

set_option Elab.async false
set_option linter.all false
set_option maxRecDepth 100000
set_option maxHeartbeats 4000000
/-! DM: sorted(set(xs)), len(set(xs)), a < b < c, list(range(n)). -/
namespace DL
open PySem PySem.Spec L2
open Evl (Ex)
/-! ### ints in order, each once -/
def insS (x : Int) : List Int → List Int
  | [] => [x]
  | y :: r => if x < y then x :: y :: r else if x = y then y :: r else y :: insS x r
def srtS : List Int → List Int
  | [] => []
  | x :: r => insS x (srtS r)
theorem insS_mem (x k : Int) : ∀ l : List Int, k ∈ insS x l ↔ k = x ∨ k ∈ l
  | [] => by simp [insS]
  | y :: r => by
    unfold insS
    split
    · simp
    · split
      · rename_i e; subst e; simp
      · simp only [List.mem_cons, insS_mem x k r]
        constructor
        · rintro (h | h | h)
          · exact .inr (.inl h)
          · exact .inl h
          · exact .inr (.inr h)
        · rintro (h | h | h)
          · exact .inr (.inl h)
          · exact .inl h
          · exact .inr (.inr h)
theorem srtS_mem (k : Int) : ∀ l : List Int, k ∈ srtS l ↔ k ∈ l
  | [] => by simp [srtS]
  | x :: r => by rw [srtS, insS_mem, srtS_mem k r, List.mem_cons]
theorem insS_lt (x : Int) : ∀ l : List Int, l.Pairwise (· < ·) → (insS x l).Pairwise (· < ·)
  | [], _ => List.pairwise_singleton _ _
  | y :: r, h => by
    have hy := List.pairwise_cons.mp h
    unfold insS
    split
    · rename_i hx
      refine List.pairwise_cons.mpr ⟨fun z hz => ?_, h⟩
      rcases List.mem_cons.mp hz with rfl | hz
      · exact hx
      · exact Int.lt_trans hx (hy.1 z hz)
    · split
      · exact h
      · refine List.pairwise_cons.mpr ⟨fun z hz => ?_, insS_lt x r hy.2⟩
        rcases (insS_mem x z r).mp hz with rfl | hz
        · omega
        · exact hy.1 z hz
theorem srtS_lt : ∀ l : List Int, (srtS l).Pairwise (· < ·)
  | [] => List.Pairwise.nil
  | x :: r => insS_lt x _ (srtS_lt r)
theorem insS_len (x : Int) : ∀ l : List Int, (insS x l).length ≤ l.length + 1
  | [] => by simp [insS]
  | y :: r => by
    unfold insS
    split
    · simp
    · split
      · simp
      · have := insS_len x r; simp only [List.length_cons]; omega
theorem srtS_len : ∀ l : List Int, (srtS l).length ≤ l.length
  | [] => Nat.le_refl _
  | x :: r => by have := insS_len x (srtS r); have := srtS_len r; simp only [srtS, List.length_cons]; omega
theorem lt_one : ∀ {l m : List Int}, (∀ k, k ∈ l ↔ k ∈ m) → l.Pairwise (· < ·) → m.Pairwise (· < ·) → l = m
  | [], [], _, _, _ => rfl
  | [], y :: m, h, _, _ => absurd ((h y).mpr List.mem_cons_self) (by simp)
  | x :: l, [], h, _, _ => absurd ((h x).mp List.mem_cons_self) (by simp)
  | x :: l, y :: m, h, hl, hm => by
    have h1 := List.pairwise_cons.mp hl
    have h2 := List.pairwise_cons.mp hm
    have e : x = y := by
      rcases List.mem_cons.mp ((h x).mp List.mem_cons_self) with e | e
      · exact e
      · rcases List.mem_cons.mp ((h y).mpr List.mem_cons_self) with e2 | e2
        · exact e2.symm
        · have := h1.1 y e2; have := h2.1 x e; omega
    subst e
    rw [lt_one (fun k => ?_) h1.2 h2.2]
    constructor
    · intro hk
      rcases List.mem_cons.mp ((h k).mp (List.mem_cons_of_mem _ hk)) with e | e
      · subst e; have := h1.1 k hk; omega
      · exact e
    · intro hk
      rcases List.mem_cons.mp ((h k).mpr (List.mem_cons_of_mem _ hk)) with e | e
      · subst e; have := h2.1 k hk; omega
      · exact e
theorem srtS_id {l : List Int} (h : l.Pairwise (· < ·)) : srtS l = l := lt_one (fun k => srtS_mem k l) (srtS_lt l) h
section
variable {X : Cx} {a b c : Expr} {wa wb wc : WE} {p p2 q pos : Pos}
abbrev kSortedSet (r : Sl) (M : Mem) (R : RK) : Prop := ∃ ss ns, lsOf M r = some ss ∧ intsOf ss = some ns ∧ ns.length < 63 ∧ R (.d (.list ((srtS ns).map PyData.int))) M
abbrev wSortedSet (wa : WE) : WE := fun dl M R => wa dl M fun r M1 => kSortedSet r M1 R
theorem pd_sortedSet (hc : X.calm = true) (hg : Gl X "sorted") (hm : X.mg "sorted" = none) (hg2 : Gl X "set") (hm2 : X.mg "set" = none) (ha : PD X a wa)
    (na : starEach [a] X.env = (false, eval a X.env) :: starEach [] X.env := by rfl) : PD X (.Call (.Name "sorted" p) [.Call (.Name "set" p2) [a] [] q] [] pos) (wSortedSet wa) := by
  refine ⟨fun pins s st H Q I h => ?_⟩
  obtain ⟨F, dl, M, R, so, at0, hw, po⟩ := h
  refine PyProof.Rows.Call_ (ld_blt I hg hm (u := .builtin "sorted") (by decide +kernel) ?_)
  refine PyProof.Rows.callWith_builtin1 (PyProof.Rows.args_cons ?_ rfl) rfl rfl
  refine PyProof.Rows.Call_ (ld_blt I hg2 hm2 PyProof.Rows.boot_set ?_)
  refine PyProof.Rows.callWith_type1 (PyProof.Rows.args_cons (thn (PE.run ha pins s st H (fun x H1 => ∃ l ns, x = .ref l ∧ SqL X.K H1 l (ns.map V.int) ∧ ns.length < 63 ∧ ∀ p, H1 p = none → Q (.ref p) (upd H1 p (.lst ((srtS ns).map V.int)))) I ?_) fun v s1 ⟨x, H1, I1, r1, q1⟩ => PyProof.Rows.args_nil ?_) na) na rfl
  · refine tD_to so at0 hw fun x F1 H1 r M1 h1 g1 so1 at1 i1 => ?_
    obtain ⟨ss, ns, e1, e2, hz, hR⟩ := h1
    obtain ⟨l, vs, rfl, q1, q2⟩ := lsOf_at at1 i1 e1
    have e3 := intsOf_at e2 q2
    subst e3
    exact ⟨l, ns, rfl, SqL.of q1, hz, fun p hp => po_dat at1 (po.mono g1) hp hR fun F' e h => .lst h (dqAll_ints _)⟩
  · obtain ⟨l, ns, rfl, hq, hz, q1⟩ := q1
    cases r1
    obtain ⟨its, r, pl, _⟩ := I1.list hq
    have hlen : its.length = ns.length := by rw [← r.length, List.length_map]
    refine set_of_list ns (I1.ok.hd hc) pl.isList (by simpa using RZ.intsAre_vals r) (by unfold scanBound; omega) fun h' tk n hS hn hk => PyProof.Rows.args_nil ?_
    have I2 : Inv X pins st H1 { s1 with heap := h', toks := tk } := I1.kept fun b o e => hk b o e
    refine sorted_set hS (I2.ok.hd hc) (by omega) fun s' p out c ms k g o hp hg hi hs hm hl => ?_
    have hn2 : H1 p = none := I2.hok.fresh hp
    have e : ms = srtS ns := lt_one (fun k => by rw [hm k, srtS_mem]; simp) hs (srtS_lt ns)
    have hlen2 : (ms.map V.int).length ≤ sizeLine := by rw [List.length_map, hl, sizeLine_eq]; omega
    have J : Inv X pins st (upd H1 p (.lst (ms.map V.int))) { ({ s1 with heap := h', toks := tk } : Shared) with heap := s'.heap, gens := s'.gens, drawn := s'.drawn, toks := s'.toks } :=
      I2.call (ch := []) (Un.laid k hp hn2) (I2.hok.laid k hp ⟨hlen2, out.toList, c, vals_of_ints hi, hg⟩) (by rw [g]; exact I2.bare) (fun _ z => nomatch z)
    have e5 : s' = { ({ s1 with heap := h', toks := tk } : Shared) with heap := s'.heap, gens := s'.gens, drawn := s'.drawn, toks := s'.toks } := by
      cases s'; cases s1; cases o; rfl
    rw [e5]
    exact ⟨.ref p, _, J, rfl, by rw [e]; exact q1 p hn2⟩
/-! ### len(set(xs)) -/
theorem setR_count {w : World} {h : Heap} {a : Addr} {ns : List Int} {c : Nat} (R : SetR w h a (fun j => decide (j ∈ ns)) c) : c = (srtS ns).length := by
  obtain ⟨o, es, ep, t, ho, hx, hd, g, nd, hm, hb, hf, hn, _⟩ := R
  have nd2 : (srtS ns).Nodup := (srtS_lt ns).imp fun h => by omega
  have pm := (List.perm_ext_iff_of_nodup nd nd2).mpr fun k => by rw [← hm k, srtS_mem]; simp
  have := pm.length_eq
  rw [List.length_map, Array.length_toList] at this
  omega
abbrev wLenSet (wa : WE) : WE := fun dl M R => wa dl M fun r M1 => ∃ ss ns, lsOf M1 r = some ss ∧ intsOf ss = some ns ∧ ns.length < 63 ∧ R (.i ((srtS ns).length : Int)) M1
theorem pd_lenSet (hc : X.calm = true) (hg : Gl X "len") (hm : X.mg "len" = none) (hg2 : Gl X "set") (hm2 : X.mg "set" = none) (ha : PD X a wa)
    (na : starEach [a] X.env = (false, eval a X.env) :: starEach [] X.env := by rfl) : PD X (.Call (.Name "len" p) [.Call (.Name "set" p2) [a] [] q] [] pos) (wLenSet wa) := by
  refine ⟨fun pins s st H Q I h => ?_⟩
  obtain ⟨F, dl, M, R, so, at0, hw, po⟩ := h
  refine PyProof.Rows.Call_ (ld_blt I hg hm (u := .builtin "len") (by decide +kernel) ?_)
  refine PyProof.Rows.callWith_builtin1 (PyProof.Rows.args_cons ?_ rfl) rfl rfl
  refine PyProof.Rows.Call_ (ld_blt I hg2 hm2 PyProof.Rows.boot_set ?_)
  refine PyProof.Rows.callWith_type1 (PyProof.Rows.args_cons (thn (PE.run ha pins s st H (fun x H1 => ∃ l ns, x = .ref l ∧ SqL X.K H1 l (ns.map V.int) ∧ ns.length < 63 ∧ Q (.int (srtS ns).length) H1) I ?_) fun v s1 ⟨x, H1, I1, r1, q1⟩ => PyProof.Rows.args_nil ?_) na) na rfl
  · refine tD_to so at0 hw fun x F1 H1 r M1 h1 g1 so1 at1 i1 => ?_
    obtain ⟨ss, ns, e1, e2, hz, hR⟩ := h1
    obtain ⟨l, vs, rfl, q1, q2⟩ := lsOf_at at1 i1 e1
    have e3 := intsOf_at e2 q2
    subst e3
    exact ⟨l, ns, rfl, SqL.of q1, hz, po _ F1 H1 _ M1 hR g1 (.int _)⟩
  · obtain ⟨l, ns, rfl, hq, hz, q1⟩ := q1
    cases r1
    obtain ⟨its, r, pl, _⟩ := I1.list hq
    refine set_of_list ns (I1.ok.hd hc) pl.isList (by simpa using RZ.intsAre_vals r) (by unfold scanBound; omega) fun h' tk n hS hn hk => PyProof.Rows.args_nil ?_
    have I2 : Inv X pins st H1 { s1 with heap := h', toks := tk } := I1.kept fun b o e => hk b o e
    have ec := setR_count hS
    obtain ⟨o, es, ep, t, ho, hex, hd, _, _, _, hb, hf, hn2, _⟩ := hS
    exact call_len_set ho hex hd hf (by omega) ⟨.int (srtS ns).length, H1, I2.tok _, ⟨_, by rw [hn2, ec]⟩, q1⟩
/-! ### a < b < c -/
theorem pd_chain {op op' : CmpOp} {g g' : W2} (ho : OpD X (compareOp op) g) (ho' : OpD X (compareOp op') g') (ha : PD X a wa) (hb : PD X b wb) (hc : PD X c wc)
    (hm : lastMarks [op, op'] [b, c] = false := by with_unfolding_all rfl) : PD X (.Compare a [op, op'] [b, c] pos) (wChain g g' wa wb wc) := by
  obtain ⟨r, h1, h2⟩ := ho
  obtain ⟨r', h1', h2'⟩ := ho'
  refine pe_imp (pe_chain h1 h1' ha hb hc hm) fun st H Q ⟨F, dl, M, R, so, at0, hw, po⟩ => ?_
  refine tD_to so at0 hw fun x F1 H1 u M1 k1 g1 so1 at1 i1 => ?_
  refine tD_to so1 at1 k1 fun y F2 H2 v M2 k2 g2 so2 at2 i2 => ?_
  refine h2 F2 H2 M2 x y u v _ _ at2 (is_mono g2.ex i1) i2 k2 fun z F3 H3 t M3 k3 g3 i3 => ?_
  split at k3
  · refine ⟨_, dq_bl i3, ?_⟩
    have at3 := g3.at'
    have so3 := sok_mono g3.ex so2
    split at k3
    · rw [if_pos (by assumption)]
      refine tD_to so3 at3 k3 fun w F4 H4 t4 M4 k4 g4 so4 at4 i4 => ?_
      exact h2' F4 H4 M4 y w v t4 R Q at4 (is_mono (g3.trans g4).ex i2) i4 k4 (po.mono (((g1.trans g2).trans g3).trans g4))
    · rw [if_neg (by assumption)]
      exact po _ F3 H3 _ M3 k3 ((g1.trans g2).trans g3) (.bl _)
  · exact k3.elim
theorem pdt_chain {op op' : CmpOp} {g g' : W2} (ho : OpD X (compareOp op) g) (ho' : OpD X (compareOp op') g') (ha : PD X a wa) (hb : PD X b wb) (hc : PD X c wc)
    (hm : lastMarks [op, op'] [b, c] = false := by with_unfolding_all rfl) : PDT X (.Compare a [op, op'] [b, c] pos) (wBl (wChain g g' wa wb wc)) := by
  obtain ⟨r, h1, h2⟩ := ho
  obtain ⟨r', h1', h2'⟩ := ho'
  refine pt_imp (pt_chain h1 h1' ha hb hc hm) fun st H Q ⟨F, dl, M, R, so, at0, hw, po⟩ => ?_
  refine tD_to so at0 hw fun x F1 H1 u M1 k1 g1 so1 at1 i1 => ?_
  refine tD_to so1 at1 k1 fun y F2 H2 v M2 k2 g2 so2 at2 i2 => ?_
  refine h2 F2 H2 M2 x y u v _ _ at2 (is_mono g2.ex i1) i2 k2 fun z F3 H3 t M3 k3 g3 i3 => ?_
  split at k3
  · refine ⟨_, dq_bl i3, ?_⟩
    have at3 := g3.at'
    have so3 := sok_mono g3.ex so2
    split at k3
    · rw [if_pos (by assumption)]
      refine tD_to so3 at3 k3 fun w F4 H4 t4 M4 k4 g4 so4 at4 i4 => ?_
      refine h2' F4 H4 M4 y w v t4 _ _ at4 (is_mono (g3.trans g4).ex i2) i4 k4 fun w5 F5 H5 t5 M5 k5 g5 i5 => ?_
      split at k5
      · exact ⟨_, dq_bl i5, po _ F5 H5 M5 k5 ((((g1.trans g2).trans g3).trans g4).trans g5)⟩
      · exact k5.elim
    · rw [if_neg (by assumption)]
      exact ⟨_, rfl, po _ F3 H3 M3 k3 ((g1.trans g2).trans g3)⟩
  · exact k3.elim
end
end DL

set_option Elab.async false
set_option linter.all false
set_option maxRecDepth 100000
set_option maxHeartbeats 4000000
/-! DN: dicts by data: {}, displays, d[k], d[k] = v, d.get(k, x), dict(pairs), sorted(d), len(d). -/
namespace DL
open PySem PySem.Spec L2
open Evl (Ex)

abbrev KS := List (Key × Sl)
def valS (ks : KS) (k : Key) : Option Sl := (ks.find? fun kv => decide (kv.1 = k)).map (·.2)
def putS (ks : KS) (k : Key) (v : Sl) : KS := if (ks.any fun kv => decide (kv.1 = k)) = true then ks.map (fun kv => if kv.1 = k then (kv.1, v) else kv) else ks ++ [(k, v)]
def keyS : Sl → Option Key
  | .d (.int i) => some (.inl i)
  | .d (.str s) => some (.inr s)
  | _ => none
theorem keyS_at {K : PySem.W.Frag} {F : Hp} : ∀ {r : Sl} {v : V} {k : Key}, Is K F r v → keyS r = some k → v = kV k
  | .d (.int i), _, _, h, e => by cases e; exact dq_int h
  | .d (.str s), _, _, h, e => by cases e; exact dq_str h
  | .d .none, _, _, _, e => by simp [keyS] at e
  | .d (.bool _), _, _, _, e => by simp [keyS] at e
  | .d (.list _), _, _, _, e => by simp [keyS] at e
  | .d (.tuple _), _, _, _, e => by simp [keyS] at e
  | .d (.dict _), _, _, _, e => by simp [keyS] at e
  | .v _, _, _, _, e => by simp [keyS] at e
  | .r _, _, _, _, e => by simp [keyS] at e
  | .w _, _, _, _, e => by simp [keyS] at e
section
variable {K : PySem.W.Frag} {F : Hp}
theorem valS_at {k : Key} : ∀ {ks : KS} {kvs : List (Key × V)}, All2 (KIs K F) ks kvs → (∀ r, valS ks k = some r → ∃ v, valV kvs k = some v ∧ Is K F r v) ∧ (valS ks k = none → valV kvs k = none)
  | _, _, .nil => ⟨fun r e => by simp [valS] at e, fun _ => rfl⟩
  | a :: as, b :: bs, .cons h t => by
    obtain ⟨i1, i2⟩ := valS_at (k := k) t
    by_cases e : a.1 = k
    · have e' : b.1 = k := h.1.symm.trans e
      refine ⟨fun r q => ⟨b.2, valV_pos e', ?_⟩, fun q => ?_⟩
      · simp [valS, List.find?_cons, e] at q
        subst q; exact h.2
      · simp [valS, List.find?_cons, e] at q
    · have e' : ¬ b.1 = k := fun z => e (h.1.trans z)
      have q0 : valS (a :: as) k = valS as k := by simp [valS, List.find?_cons, e]
      rw [q0, valV_neg e']
      exact ⟨i1, i2⟩
theorem any_at {k : Key} : ∀ {ks : KS} {kvs : List (Key × V)}, All2 (KIs K F) ks kvs → (ks.any fun kv => decide (kv.1 = k)) = (kvs.any fun kv => decide (kv.1 = k))
  | _, _, .nil => rfl
  | _, _, .cons h t => by rw [List.any_cons, List.any_cons, any_at t, h.1]
theorem map_at {k : Key} {r : Sl} {v : V} (h : Is K F r v) : ∀ {ks : KS} {kvs : List (Key × V)}, All2 (KIs K F) ks kvs → All2 (KIs K F) (ks.map fun kv => if kv.1 = k then (kv.1, r) else kv) (kvs.map fun kv => if kv.1 = k then (kv.1, v) else kv)
  | _, _, .nil => .nil
  | a :: _, _, .cons q t => by
    refine .cons ?_ (map_at h t)
    have q1 := q.1
    dsimp only
    by_cases e : (a : Key × Sl).1 = k
    · rw [if_pos e, if_pos (q1 ▸ e)]; exact ⟨q1, h⟩
    · rw [if_neg e, if_neg (q1 ▸ e)]; exact q
theorem putS_at {k : Key} {r : Sl} {v : V} {ks : KS} {kvs : List (Key × V)} (h : Is K F r v) (a : All2 (KIs K F) ks kvs) : All2 (KIs K F) (putS ks k r) (putK kvs k v) := by
  unfold putS putK
  rw [any_at a]
  split
  · exact map_at h a
  · exact a.append (.cons ⟨rfl, h⟩ .nil)
end
theorem valS_cons {k k' : Key} {v : Sl} {r : KS} : valS ((k', v) :: r) k = if k' = k then some v else valS r k := by
  unfold valS
  rw [List.find?_cons]
  by_cases h : k' = k
  · simp [h]
  · simp [h]
theorem valS_nil {k : Key} : valS [] k = none := rfl
theorem putS_new {ks : KS} {k : Key} {v : Sl} (h : k ∉ ks.map (·.1)) : putS ks k v = ks ++ [(k, v)] := by
  unfold putS
  rw [if_neg]
  intro z
  apply h
  obtain ⟨a, b, c⟩ := List.any_eq_true.mp z
  exact List.mem_map.mpr ⟨a, b, of_decide_eq_true c⟩
theorem valS_put (ks : KS) (k j : Key) (y : Sl) : valS (putS ks k y) j = if j = k then some y else valS ks j := by
  unfold putS
  split
  · rename_i h
    induction ks with
    | nil => cases h
    | cons a r ih =>
      obtain ⟨k', v⟩ := a
      rw [List.map_cons]
      by_cases e : k' = k
      · subst e
        simp only [if_true, valS_cons]
        by_cases ej : k' = j
        · subst ej; simp
        · rw [if_neg ej, if_neg (Ne.symm ej), if_neg ej]
          clear ih h
          induction r with
          | nil => rfl
          | cons b r ih =>
            obtain ⟨k2, v2⟩ := b
            rw [List.map_cons]
            by_cases e2 : k2 = k'
            · subst e2; simp only [if_true, valS_cons, if_neg ej]; exact ih
            · rw [if_neg e2]; simp only [valS_cons, ih]
      · rw [if_neg e]
        simp only [valS_cons]
        have h2 : (r.any fun kv => decide (kv.1 = k)) = true := by simpa [e] using h
        rw [ih h2]
        by_cases ej : k' = j
        · subst ej; simp [e]
        · simp [ej]
  · rename_i h
    have h2 : valS ks k = none := by
      unfold valS
      rw [Option.map_eq_none_iff, List.find?_eq_none]
      intro x hx hd
      exact h (List.any_eq_true.mpr ⟨x, hx, hd⟩)
    clear h
    induction ks with
    | nil => simp only [List.nil_append, valS_cons, valS_nil]; by_cases e : j = k
             · subst e; simp
             · rw [if_neg (Ne.symm e), if_neg e]
    | cons a r ih =>
      obtain ⟨k', v⟩ := a
      rw [valS_cons] at h2
      split at h2
      · cases h2
      · rename_i e
        rw [List.cons_append, valS_cons, valS_cons, ih h2]
        by_cases ej : k' = j
        · subst ej; simp [e]
        · simp [ej]
/-! ### d[k] -/
abbrev gDGet : W2 := fun p q M R => match p with
  | .v (.ref a) => ∃ ks k r, M a = some (.dic ks) ∧ keyS q = some k ∧ valS ks k = some r ∧ R r M
  | _ => False
section
variable {B C : Type} {o : Option MO} {ks : KS} {f : KS → Option B} {g : KS → B → Option C} {b : B} {c : C}
theorem d1 {k : KS → Prop} (h : o = some (.dic ks)) (hk : k ks) : ∃ x, o = some (.dic x) ∧ k x := ⟨ks, h, hk⟩
theorem d2 {k : KS → B → Prop} (h : o = some (.dic ks)) (h2 : f ks = some b) (hk : k ks b) : ∃ x y, o = some (.dic x) ∧ f x = some y ∧ k x y := ⟨ks, b, h, h2, hk⟩
theorem d3 {k : KS → B → C → Prop} (h : o = some (.dic ks)) (h2 : f ks = some b) (h3 : g ks b = some c) (hk : k ks b c) : ∃ x y z, o = some (.dic x) ∧ f x = some y ∧ g x y = some z ∧ k x y z := ⟨ks, b, c, h, h2, h3, hk⟩
end
section
variable {X : Cx} {a b c o i : Expr} {wa wb wc wo wi we : WE} {pos : Pos}
theorem pd_dget (hu : X.A.units + 1 < cLine) (ha : PD X a wa) (hb : PD X b wb) (hs : NoSl b := by exact fun _ _ => rfl) : PD X (.Subscript a b pos) (wOp gDGet wa wb) := by
  refine pe_imp (pe_dget hu ha hb hs) fun st H Q ⟨F, dl, M, R, so, at0, hw, po⟩ => ?_
  refine tD_to so at0 hw fun x F1 H1 p M1 h1 e1 so1 at1 i1 => ?_
  refine tD_to so1 at1 h1 fun y F2 H2 q M2 h2 e2 so2 at2 i2 => ?_
  unfold gDGet at h2
  split at h2
  · rename_i ad
    obtain ⟨ks, k, r, m, hk, hv, hR⟩ := h2
    have e : x = .ref ad := i1
    subst e
    obtain ⟨_, kvs, q1, q2⟩ := at2.mem ad _ m
    obtain ⟨v, z1, z2⟩ := (valS_at (k := k) q2).1 r hv
    refine ⟨ad, v, rfl, ?_, po _ F2 H2 _ M2 hR (e1.trans e2) z2⟩
    rw [keyS_at i2 hk, ← z1]
    exact DGet.k q1
  · exact h2.elim
/-- k in d -/
abbrev gDIn : W2 := fun q p M R => match p with
  | .v (.ref a) => ∃ ks k, M a = some (.dic ks) ∧ keyS q = some k ∧ R (.b (valS ks k).isSome) M
  | _ => False
theorem valS_isSome {K : PySem.W.Frag} {F : Hp} {k : Key} {ks : KS} {kvs : List (Key × V)} (h : All2 (KIs K F) ks kvs) : (valS ks k).isSome = (valV kvs k).isSome := by
  obtain ⟨h1, h2⟩ := valS_at (k := k) h
  cases e : valS ks k with
  | none => rw [h2 e]; rfl
  | some r => obtain ⟨v, z, _⟩ := h1 r e; rw [z]; rfl
theorem tD_din {X : Cx} {st : L2.St} {H : Hp} {Q : VK} (h : tD X.K (wOp gDIn wa wb) st H Q) : tDIn (tD X.K wa) (tD X.K wb) st H Q := by
  obtain ⟨F, dl, M, R, so, at0, hw, po⟩ := h
  refine tD_to so at0 hw fun x F1 H1 p M1 h1 e1 so1 at1 i1 => ?_
  refine tD_to so1 at1 h1 fun y F2 H2 q M2 h2 e2 so2 at2 i2 => ?_
  unfold gDIn at h2
  split at h2
  · rename_i ad
    obtain ⟨ks, k, m, hk, hR⟩ := h2
    have e : y = .ref ad := i2
    subst e
    obtain ⟨_, kvs, q1, q2⟩ := at2.mem ad _ m
    refine ⟨ad, _, rfl, by rw [keyS_at (is_mono e2.ex i1) hk]; exact DGet.k q1, ?_⟩
    rw [← valS_isSome q2]
    exact po _ F2 H2 _ M2 hR (e1.trans e2) (.bl _)
  · exact h2.elim
theorem pdt_din (hu : X.A.units + 1 < cLine) (ha : PD X a wa) (hb : PD X b wb) (hm : behindInMarks .In b = false := by rfl) : PDT X (.Compare a [.In] [b] pos) (wBl (wOp gDIn wa wb)) := by
  refine pt_imp (pt_cmp (pc_din hu ha hb) hm) fun st H Q ⟨F, dl, M, R, so, at0, hw, po⟩ => ?_
  refine tD_din (Q := fun x H' => ∃ k, x = V.bl k ∧ Q k H') ⟨F, dl, M, _, so, at0, hw, fun v F' H' r M' hr e i1 => ?_⟩
  split at hr
  · exact ⟨_, dq_bl i1, po _ F' H' M' hr e⟩
  · exact hr.elim
/-! ### d[k] = v -/
abbrev wDPut (we wo wi : WE) : WS := fun P dl M => we dl M fun v M1 => wo dl M1 fun p M2 => wi dl M2 fun q M3 => match p with
  | .v (.ref a) => ∃ ks k, M3 a = some (.dic ks) ∧ keyS q = some k ∧ ks.length < sizeLine ∧ P.nx dl (upM M3 a (.dic (putS ks k v)))
  | _ => False
theorem pds_dput {e : Expr} {pos' : Pos} (hu : X.A.units + 1 < cLine) (ho : PD X o wo) (hi : PD X i wi) (he : PD X e we) (hs : swapsWith e (some (.Subscript o i pos')) pos.line X.env = pure false := by rfl) : PDS X (.Assign [.Subscript o i pos'] e pos) (wDPut we wo wi) := by
  refine ps_imp (ps_dput hu ho hi he hs) fun D st H ⟨F, dl, M, P, so, at0, hw, po⟩ => ?_
  refine tD_to so at0 hw fun v F1 H1 r M1 h1 g1 so1 at1 i1 => ?_
  refine tD_to so1 at1 h1 fun x F2 H2 p M2 h2 g2 so2 at2 i2 => ?_
  refine tD_to so2 at2 h2 fun y F3 H3 q M3 h3 g3 so3 at3 i3 => ?_
  split at h3
  · rename_i ad
    obtain ⟨ks, k, m, hk, hz, hR⟩ := h3
    have e : x = .ref ad := i2
    subst e
    obtain ⟨_, kvs, q1, q2⟩ := at3.mem ad _ m
    refine ⟨ad, upd H3 ad (.dK (putK kvs k v)), rfl, ?_, po.nx _ F3 _ _ _ hR (((g1.trans g2).trans g3).trans (Go.put at3 m ⟨_, upd_same, putS_at (is_mono (g2.trans g3).ex i1) q2⟩)) so3⟩
    rw [keyS_at i3 hk]
    exact DPut.k q1 (by rw [← q2.length]; exact hz)
  · exact h3.elim
/-! ### {} -/
abbrev wDict0 : WE := fun _ M R => ∀ p, M p = none → R (.v (.ref p)) (upM M p (.dic []))
theorem pd_dict0 : PD X (.Dict [] [] pos) wDict0 := by
  refine pe_imp pe_dnewK fun st H Q ⟨F, dl, M, R, so, at0, hw, po⟩ p hp => ?_
  exact po _ F _ _ _ (hw p (at0.freeM hp)) (Go.new at0 hp ⟨[], upd_same, .nil⟩) rfl
/-! ### {k: v, ..} -/
abbrev WP := Env' → Mem → (KS → Mem → Prop) → Prop
abbrev wpNil : WP := fun _ M R => R [] M
abbrev wpCons (wk wv : WE) (wr : WP) : WP := fun dl M R => wk dl M fun q M1 => wv dl M1 fun v M2 => wr dl M2 fun ks M3 => ∃ k, keyS q = some k ∧ R ((k, v) :: ks) M3
def PDP (X : Cx) (pos : Pos) (keys : List (Option Expr)) (values : List Expr) (w : WP) : Prop := ∃ trs, PPs X pos keys values trs ∧ ∀ st H (Q : List (V × V) → Hp → Prop) F dl M (R : KS → Mem → Prop), SOk X.K F dl st → At X.K F M H → w dl M R →
  (∀ kvs F' H' ks M', R ks M' → Go X.K F M H F' M' H' → All2 (KIs X.K F') ks kvs → Q (kvs.map fun kv => (kV kv.1, kv.2)) H') → tPairs trs st H Q
theorem pdp_nil : PDP X pos [] [] wpNil := ⟨[], pps_nil, fun st H Q F dl M R so at0 hw po => po [] F H [] M hw (Go.refl at0) .nil⟩
theorem pdp_cons {k v : Expr} {ks : List (Option Expr)} {vs : List Expr} {wk wv : WE} {wr : WP} (hk : PD X k wk) (hv : PD X v wv) (hr : PDP X pos ks vs wr) : PDP X pos (some k :: ks) (v :: vs) (wpCons wk wv wr) := by
  obtain ⟨trs, h1, h2⟩ := hr
  refine ⟨(_, _) :: trs, pps_cons hk hv h1, fun st H Q F dl M R so at0 hw po => ?_⟩
  refine tD_to so at0 hw fun x F1 H1 q M1 k1 g1 so1 at1 i1 => ?_
  refine tD_to so1 at1 k1 fun y F2 H2 r M2 k2 g2 so2 at2 i2 => ?_
  refine h2 st H2 _ F2 dl M2 _ so2 at2 k2 fun kvs F3 H3 rs M3 k3 g3 i3 => ?_
  obtain ⟨kk, e, hR⟩ := k3
  have ex := keyS_at i1 e
  subst ex
  exact po ((kk, y) :: kvs) F3 H3 ((kk, r) :: rs) M3 hR ((g1.trans g2).trans g3) (.cons ⟨rfl, is_mono g3.ex i2⟩ i3)
def mergeS (ks more : KS) : KS := more.foldl (fun acc kv => putS acc kv.1 kv.2) ks
theorem mergeS_at {K : PySem.W.Frag} {F : Hp} : ∀ {more : KS} {mvs : List (Key × V)} {ks : KS} {kvs : List (Key × V)}, All2 (KIs K F) more mvs → All2 (KIs K F) ks kvs → All2 (KIs K F) (mergeS ks more) (mergeK kvs mvs)
  | _, _, _, _, .nil, h => h
  | a :: as, b :: bs, _, _, .cons q t, h => by
    show All2 _ (mergeS (putS _ a.1 a.2) as) (mergeK (putK _ b.1 b.2) bs)
    refine mergeS_at t ?_
    rw [q.1]
    exact putS_at q.2 h
abbrev wDisp (wp : WP) : WE := fun dl M R => ∀ p, M p = none → wp dl (upM M p (.dic [])) fun ks M2 => M2 p = some (.dic []) ∧ ks.length ≤ 15 ∧ R (.v (.ref p)) (upM M2 p (.dic (mergeS [] ks)))
theorem pd_disp {keys : List (Option Expr)} {values : List Expr} {wp : WP} (h : PDP X pos keys values wp) (hall : keys.all (·.isSome) = true := by rfl) (hl : keys.length = values.length := by rfl) (h0 : keys ≠ [] := by exact fun z => by cases z) (h15 : keys.length ≤ 15 := by decide) : PD X (.Dict keys values pos) (wDisp wp) := by
  obtain ⟨trs, h1, h2⟩ := h
  refine pe_imp (pe_disp h1 hall hl h0 h15) fun st H Q ⟨F, dl, M, R, so, at0, hw, po⟩ p hp => ?_
  have g0 : Go X.K F M H F (upM M p (.dic [])) (upd H p (.dK [])) := Go.new at0 hp ⟨[], upd_same, .nil⟩
  refine h2 st _ _ F dl _ _ so g0.at' (hw p (at0.freeM hp)) fun kvs F1 H1 ks M1 k1 g1 i1 => ?_
  obtain ⟨m, hz, hR⟩ := k1
  obtain ⟨_, kvs0, q1, q2⟩ := g1.at'.mem p _ m
  cases q2
  exact ⟨q1, kvs, rfl, by rw [← i1.length]; exact hz, po _ F1 _ _ _ hR ((g0.trans g1).trans (Go.put g1.at' m ⟨_, upd_same, mergeS_at i1 .nil⟩)) rfl⟩
end
end DL

set_option Elab.async false
set_option linter.all false
set_option maxRecDepth 100000
set_option maxHeartbeats 4000000
/-! DO: zip(xs, ys) of two lists over one name: each pair is a new plain tuple. -/
namespace DL
open PySem PySem.Spec PySem.Builtin.SmallTypes
/-- a zip of two: what is out, whether that is known -/
abbrev IsZ (h : Heap) (z TI TO : Addr) (v : Value) (f : Bool) : Prop := h.get? z = some { cls := .type "zip", dict := none, data := .fields #[v, .bool f, .bool false, .ref TI, .ref TO], slots := #[] }
section
variable {prog : Program} {w : World} {A : Around} {E : Value → Shared → Prop} {s : Shared} {z TI TO i1 i2 l1 l2 : Addr} {k1 k2 : Nat} {xs ys : Array Value} {x y a b v0 : Value} {f0 : Bool}
theorem zipF_item {Q : Value → Shared → Prop} (D : ZipApart z TI TO i1 i2 l1 l2) (hz : IsZ s.heap z TI TO v0 f0) (fr : ∀ R : Bool → Shared → Prop, R true s → wpAny (model prog w) A (ownedTupleIsFree (.ref z)) R E s)
    (pI : IsPair s.heap TI (.ref i1) (.ref i2)) (pO : IsPair s.heap TO a b) (t1 : s.heap.IsListIter i1 l1 k1) (t2 : s.heap.IsListIter i2 l2 k2) (y1 : s.heap.IsList l1 xs) (y2 : s.heap.IsList l2 ys) (hx : xs[k1]? = some x) (hy : ys[k2]? = some y)
    (hQ : ∀ g, IsZip g z TI TO (rawInt s.heap.objs.size) → IsPair g TO x y → g.IsListIter i1 l1 (k1 + 1) → g.IsListIter i2 l2 (k2 + 1) → IsPair g s.heap.objs.size x y → g.objs.size = s.heap.objs.size + 1 →
      (∀ c o, c ≠ z → c ≠ TO → c ≠ i1 → c ≠ i2 → s.heap.get? c = some o → g.get? c = some o) → Q (.ref s.heap.objs.size) { s with heap := g }) :
    wpAny (model prog w) A (Builtin.«zip.__next__» ⟨[.ref z], []⟩) (fun fin s2 => ∃ r, fin = .done (.ret r) ∧ Q r s2) E s := by
  refine wpAny_bind (m := field (.ref z) 2) (wpAny_field hz rfl (x := .bool false) rfl ?_)
  refine wpAny_bind (m := field (.ref z) 3) (wpAny_field hz rfl (x := .ref TI) rfl (wpAny_bind (wpAny_seqItems pI rfl ?_)))
  refine wpAny_bind (m := ownedTupleIsFree (.ref z)) (fr _ ?_)
  simp only [if_true]
  refine wpAny_bind (wpAny_rule (wpAny_bind (wpAny_field hz rfl (x := .ref TO) rfl (wpAny_bind (wpAny_setField_rec hz (by simp) fun g1 z1 s1 => wpAny_bind ?_)))))
  replace z1 : IsZ g1 z TI TO .ellipsis f0 := z1
  simp only [List.zipIdx_cons, List.zipIdx_nil, List.forIn_cons, List.forIn_nil]
  refine wpAny_bind (wpAny_bind (wpAny_onRaise (wpAny_bind (m := nextOf (.ref i1)) (wpAny_nextOf_list_item (t1.extBut s1.extBut D.i1z) (y1.extBut s1.extBut D.l1z) hx fun g2 u2 s2 => wpAny_pure ?_))))
  have o2 : IsPair g2 TO a b := s2.extBut _ _ D.TOi1 (s1.extBut _ _ D.TOz pO)
  refine wpAny_bind (wpAny_seqItems o2 rfl (wpAny_bind (wpAny_updateSeq_pair o2 fun g3 o3 s3 => wpAny_bind (wpAny_letGo (wpAny_pure ?_)))))
  replace o3 : IsPair g3 TO x b := o3
  have t2' := ((t2.extBut s1.extBut D.i2z).extBut s2.extBut D.i12.symm).extBut s3.extBut D.TOi2.symm
  have y2' := ((y2.extBut s1.extBut D.l2z).extBut s2.extBut D.l2i1).extBut s3.extBut D.l2TO
  refine wpAny_bind (wpAny_bind (wpAny_onRaise (wpAny_bind (m := nextOf (.ref i2)) (wpAny_nextOf_list_item t2' y2' hy fun g4 u4 s4 => wpAny_pure ?_))))
  have o4 : IsPair g4 TO x b := s4.extBut _ _ D.TOi2 o3
  refine wpAny_bind (wpAny_seqItems o4 rfl (wpAny_bind (wpAny_updateSeq_pair o4 fun g5 o5 s5 => wpAny_bind (wpAny_letGo (wpAny_pure (wpAny_pure ?_))))))
  replace o5 : IsPair g5 TO x y := o5
  refine wpAny_bind (wpAny_seqItems o5 rfl (wpAny_bind (wpAny_newTuple ?_)))
  have sz : g5.objs.size = s.heap.objs.size := by rw [s5.1, s4.1, s3.1, s2.1, s1.1]
  have z5 : IsZ g5 z TI TO .ellipsis f0 := s5.extBut _ _ D.TOz.symm (s4.extBut _ _ D.i2z.symm (s3.extBut _ _ D.TOz.symm (s2.extBut _ _ D.i1z.symm z1)))
  have k5 : ∀ c o, c ≠ z → c ≠ TO → c ≠ i1 → c ≠ i2 → s.heap.get? c = some o → g5.get? c = some o := fun c o c1 c2 c3 c4 e => s5.extBut _ _ c2 (s4.extBut _ _ c4 (s3.extBut _ _ c2 (s2.extBut _ _ c3 (s1.extBut _ _ c1 e))))
  have u5 : g5.IsListIter i1 l1 (k1 + 1) := ((u2.extBut s3.extBut D.TOi1.symm).extBut s4.extBut D.i12).extBut s5.extBut D.TOi1.symm
  have w5 : g5.IsListIter i2 l2 (k2 + 1) := u4.extBut s5.extBut D.TOi2.symm
  have lz : z < g5.objs.size := Heap.lt_size z5
  refine wpAny_bind (m := ownedTupleHandOut (.ref z) (.ref g5.objs.size)) ?_
  unfold ownedTupleHandOut
  have z6 : IsZ (g5.push { cls := .type "tuple", data := .seq #[x, y] }) z TI TO .ellipsis f0 := Heap.get?_push_of_some _ z5
  refine wpAny_bind (wpAny_setField_rec z6 (by simp) fun g7 z7 s7 => ?_)
  replace z7 : IsZ g7 z TI TO (rawInt g5.objs.size) f0 := z7
  refine wpAny_setField_rec z7 (by simp) fun g8 z8 s8 => wpAny_pure ⟨_, rfl, ?_⟩
  replace z8 : IsZip g8 z TI TO (rawInt g5.objs.size) := z8
  have up : ∀ c o, c ≠ z → g5.get? c = some o → g8.get? c = some o := fun c o c1 e => s8.extBut _ _ c1 (s7.extBut _ _ c1 (Heap.get?_push_of_some _ e))
  have p8 : IsPair g8 g5.objs.size x y := s8.extBut _ _ (Nat.ne_of_gt lz) (s7.extBut _ _ (Nat.ne_of_gt lz) (Heap.get?_push_size _ rfl))
  have q8 : g8.objs.size = g5.objs.size + 1 := by rw [s8.1, s7.1, Heap.size_push]
  rw [sz] at z8 p8 q8
  show Q (.ref g5.objs.size) _
  rw [sz]
  exact hQ g8 z8 (up _ _ D.TOz o5) (u5.at fun o e => up _ o D.i1z e) (w5.at fun o e => up _ o D.i2z e) p8 q8 fun c o c1 c2 c3 c4 e => up c o c1 (k5 c o c1 c2 c3 c4 e)
theorem zipF_end {Q : Fin → Shared → Prop} (hh : A.handled = none) (D : ZipApart z TI TO i1 i2 l1 l2) (hz : IsZ s.heap z TI TO v0 f0) (fr : ∀ R : Bool → Shared → Prop, R true s → wpAny (model prog w) A (ownedTupleIsFree (.ref z)) R E s)
    (pI : IsPair s.heap TI (.ref i1) (.ref i2)) (pO : IsPair s.heap TO a b) (t1 : s.heap.IsListIter i1 l1 k1) (t2 : s.heap.IsListIter i2 l2 k2) (y1 : s.heap.IsList l1 xs) (y2 : s.heap.IsList l2 ys) (he : xs[k1]? = none ∨ ys[k2]? = none)
    (hE : ∀ g e, (∀ c o, c ≠ z → c ≠ TO → c ≠ i1 → c ≠ i2 → s.heap.get? c = some o → g.get? c = some o) → (∃ o, g.get? e = some o ∧ o.cls = .type "StopIteration") → E (.ref e) { s with heap := g }) :
    wpAny (model prog w) A (Builtin.«zip.__next__» ⟨[.ref z], []⟩) Q E s := by
  refine wpAny_bind (m := field (.ref z) 2) (wpAny_field hz rfl (x := .bool false) rfl ?_)
  refine wpAny_bind (m := field (.ref z) 3) (wpAny_field hz rfl (x := .ref TI) rfl (wpAny_bind (wpAny_seqItems pI rfl ?_)))
  refine wpAny_bind (m := ownedTupleIsFree (.ref z)) (fr _ ?_)
  simp only [if_true]
  refine wpAny_bind (wpAny_rule (wpAny_bind (wpAny_field hz rfl (x := .ref TO) rfl (wpAny_bind (wpAny_setField_rec hz (by simp) fun g1 z1 s1 => wpAny_bind ?_)))))
  replace z1 : IsZ g1 z TI TO .ellipsis f0 := z1
  simp only [List.zipIdx_cons, List.zipIdx_nil, List.forIn_cons, List.forIn_nil]
  refine wpAny_bind (wpAny_bind (wpAny_onRaise (wpAny_bind (m := nextOf (.ref i1)) ?_)))
  cases hx : xs[k1]? with
  | none =>
    refine wpAny_nextOf_list_end hh (t1.extBut s1.extBut D.i1z) (y1.extBut s1.extBut D.l1z) hx fun g2 e s2 ⟨oe, he1, he2⟩ => ?_
    have z2 : IsZ g2 z TI TO .ellipsis f0 := s2 _ _ D.i1z.symm z1
    have ne : e ≠ z := fun q => by subst q; rw [z2] at he1; cases he1; simp at he2
    exact wpAny_setField_rec z2 (by simp) fun g3 _ s3 => hE g3 e (fun c o c1 _ c3 _ q => s3.extBut _ _ c1 (s2 _ _ c3 (s1.extBut _ _ c1 q))) ⟨oe, s3.extBut _ _ ne he1, he2⟩
  | some x =>
    have hy : ys[k2]? = none := he.elim (fun q => by rw [hx] at q; cases q) id
    refine wpAny_nextOf_list_item (t1.extBut s1.extBut D.i1z) (y1.extBut s1.extBut D.l1z) hx fun g2 u2 s2 => wpAny_pure ?_
    have o2 : IsPair g2 TO a b := s2.extBut _ _ D.TOi1 (s1.extBut _ _ D.TOz pO)
    refine wpAny_bind (wpAny_seqItems o2 rfl (wpAny_bind (wpAny_updateSeq_pair o2 fun g3 o3 s3 => wpAny_bind (wpAny_letGo (wpAny_pure ?_)))))
    have t2' := ((t2.extBut s1.extBut D.i2z).extBut s2.extBut D.i12.symm).extBut s3.extBut D.TOi2.symm
    have y2' := ((y2.extBut s1.extBut D.l2z).extBut s2.extBut D.l2i1).extBut s3.extBut D.l2TO
    refine wpAny_bind (wpAny_bind (wpAny_onRaise (wpAny_bind (m := nextOf (.ref i2)) (wpAny_nextOf_list_end hh t2' y2' hy fun g4 e s4 ⟨oe, he1, he2⟩ => ?_))))
    have z4 : IsZ g4 z TI TO .ellipsis f0 := s4 _ _ D.i2z.symm (s3.extBut _ _ D.TOz.symm (s2.extBut _ _ D.i1z.symm z1))
    have ne : e ≠ z := fun q => by subst q; rw [z4] at he1; cases he1; simp at he2
    exact wpAny_setField_rec z4 (by simp) fun g5 _ s5 => hE g5 e (fun c o c1 c2 c3 c4 q => s5.extBut _ _ c1 (s4 _ _ c4 (s3.extBut _ _ c2 (s2.extBut _ _ c3 (s1.extBut _ _ c1 q))))) ⟨oe, s5.extBut _ _ ne he1, he2⟩
/-- free: nothing is out, or what was out is gone -/
theorem free_none {R : Bool → Shared → Prop} (hz : IsZ s.heap z TI TO .none f0) (h : R true s) : wpAny (model prog w) A (ownedTupleIsFree (.ref z)) R E s := by
  unfold ownedTupleIsFree
  exact wpAny_bind (wpAny_field hz rfl (x := .none) rfl (wpAny_pure h))
theorem free_gone {T : Addr} {R : Bool → Shared → Prop} (hz : IsZ s.heap z TI TO (rawInt T) f0) (g : s.heap.get? T = none) (h : R true s) : wpAny (model prog w) A (ownedTupleIsFree (.ref z)) R E s := by
  unfold ownedTupleIsFree
  refine wpAny_bind (wpAny_field hz rfl (x := rawInt T) rfl ?_)
  show wpAny _ _ (loadIfAlive ((T : Int).toNat) >>= _) _ _ _
  rw [Int.toNat_natCast]
  have q : ∀ R : Option Obj → Shared → Prop, R none s → wpAny (model prog w) A (loadIfAlive T) R E s := fun R hr => by
    have hr2 : R (s.heap.get? T) s := by rw [g]; exact hr
    exact fun _ _ _ => hr2
  exact wpAny_bind (q _ (wpAny_pure h))
/-- what a zip may be like between two turns -/
structure ZSt (h : Heap) (z TI TO i1 i2 l1 l2 : Addr) (i : Nat) : Prop where
  z : ∃ v f, IsZ h z TI TO v f ∧ (v = .none ∨ ∃ T : Addr, v = rawInt T)
  pI : IsPair h TI (.ref i1) (.ref i2)
  pO : ∃ x y, IsPair h TO x y
  t1 : h.IsListIter i1 l1 i
  t2 : h.IsListIter i2 l2 i
theorem next_item {i : Nat} {Q : Option Value → Shared → Prop} (D : ZipApart z TI TO i1 i2 l1 l2) (S : ZSt s.heap z TI TO i1 i2 l1 l2 i) (y1 : s.heap.IsList l1 xs) (y2 : s.heap.IsList l2 ys) (hx : xs[i]? = some x) (hy : ys[i]? = some y)
    (hQ : ∀ g, ZSt g z TI TO i1 i2 l1 l2 (i + 1) → IsPair g s.heap.objs.size x y → (∀ c o, c ≠ z → c ≠ TO → c ≠ i1 → c ≠ i2 → s.heap.get? c = some o → g.get? c = some o) → Q (some (.ref s.heap.objs.size)) { s with heap := g }) : wpAny (model prog w) A (pyNext (.ref z)) Q E s := by
  obtain ⟨⟨v, f, hz, hv⟩, pI, ⟨a, b, pO⟩, t1, t2⟩ := S
  have hT : s.TypeIs (.ref z) "zip" := ⟨_, hz, rfl⟩
  have fin : (∀ (A : Around) (E : Value → Shared → Prop) (R : Bool → Shared → Prop), R true s → wpAny (model prog w) A (ownedTupleIsFree (.ref z)) R E s) → wpAny (model prog w) A (pyNext (.ref z)) Q E s := fun fr => by
    unfold pyNext
    refine wpAny_bind (wpAny_attempt (wpAny_callSpecial?_slot (name := Str.ofString "__next__") hT F.slot_zip_next (wpAny_call_entry F.slot_zip_next hT F.entry_zip_next ?_ (F.args_zip_next_1 _))))
    exact zipF_item D hz (fr _ _) pI pO t1 t2 y1 y2 hx hy fun g a1 a2 a3 a4 a5 a6 a7 => wpAny_pure (hQ g ⟨⟨_, _, a1, .inr ⟨_, rfl⟩⟩, a7 _ _ D.TIz D.TITO D.TIi1 D.TIi2 pI, ⟨_, _, a2⟩, a3, a4⟩ a5 a7)
  rcases hv with rfl | ⟨T, rfl⟩
  · exact fin fun _ _ _ h => free_none hz h
  · cases e : s.heap.get? T with
    | none => exact fin fun _ _ _ h => free_gone hz e h
    | some oT =>
      refine wpAny_pyNext_zip_item_held D hz e pI t1 t2 y1 y2 hx hy fun g a1 a2 a3 a4 a5 a6 => hQ g ⟨⟨_, _, a1, .inr ⟨_, rfl⟩⟩, a6 _ _ D.TIz D.TIi1 D.TIi2 pI, ⟨a, b, a6 _ _ D.TOz D.TOi1 D.TOi2 pO⟩, a2, a3⟩ a4 fun c o c1 _ c3 c4 q => a6 c o c1 c3 c4 q
theorem next_end {i : Nat} {Q : Option Value → Shared → Prop} (hh : A.handled = none) (D : ZipApart z TI TO i1 i2 l1 l2) (S : ZSt s.heap z TI TO i1 i2 l1 l2 i) (y1 : s.heap.IsList l1 xs) (y2 : s.heap.IsList l2 ys) (he : xs[i]? = none ∨ ys[i]? = none)
    (hQ : ∀ g, (∀ c o, c ≠ z → c ≠ TO → c ≠ i1 → c ≠ i2 → s.heap.get? c = some o → g.get? c = some o) → Q none { s with heap := g }) : wpAny (model prog w) A (pyNext (.ref z)) Q E s := by
  obtain ⟨⟨v, f, hz, hv⟩, pI, ⟨a, b, pO⟩, t1, t2⟩ := S
  have hT : s.TypeIs (.ref z) "zip" := ⟨_, hz, rfl⟩
  have fin : (∀ (A : Around) (E : Value → Shared → Prop) (R : Bool → Shared → Prop), R true s → wpAny (model prog w) A (ownedTupleIsFree (.ref z)) R E s) → wpAny (model prog w) A (pyNext (.ref z)) Q E s := fun fr => by
    unfold pyNext
    refine wpAny_bind (wpAny_attempt (wpAny_callSpecial?_slot (name := Str.ofString "__next__") hT F.slot_zip_next (wpAny_call_entry F.slot_zip_next hT F.entry_zip_next ?_ (F.args_zip_next_1 _))))
    refine zipF_end hh D hz (fr _ _) pI pO t1 t2 y1 y2 he fun g e k ⟨o, ho, hc⟩ => ?_
    exact wpAny_bind (wpAny_isInstance (T := "StopIteration") (b := true) ⟨o, ho, hc⟩ isSubtype_stop (wpAny_pure (hQ g k)))
  rcases hv with rfl | ⟨T, rfl⟩
  · exact fin fun _ _ _ h => free_none hz h
  · cases e : s.heap.get? T with
    | none => exact fin fun _ _ _ h => free_gone hz e h
    | some oT => exact wpAny_pyNext_zip_end_held hh D hz e pI t1 t2 y1 y2 he fun g k => hQ g fun c o c1 _ c3 c4 q => k c o c1 c3 c4 q
end
end DL
namespace DL
open PySem PySem.Spec L2
open Evl (Ex)
/-- the lists at a and b, each pair a new plain tuple -/
def ItzF (K : PySem.W.Frag) (a b : Addr) : It :=
  ⟨fun i H => ∃ (xs ys : List V) (x y : V), SqL K H a xs ∧ SqL K H b ys ∧ xs[i]? = some x ∧ ys[i]? = some y,
    fun i H v H' => ∃ T x y o, v = .ref T ∧ H T = none ∧ o.dict = none ∧ H' = upd H T (.frz o (.tup [x, y])) ∧ (∀ xs, SqL K H a xs → xs[i]? = some x) ∧ ∀ ys, SqL K H b ys → ys[i]? = some y,
    fun i H => ∃ xs ys : List V, SqL K H a xs ∧ SqL K H b ys ∧ (xs.length ≤ i ∨ ys.length ≤ i)⟩
theorem mem5 {z TI TO i1 i2 c : Addr} (h : c ∈ [z, TI, TO, i1, i2]) : c = z ∨ c = TI ∨ c = TO ∨ c = i1 ∨ c = i2 := by simpa using h
theorem turn_zipF {P : Program} {w : World} {K : PySem.W.Frag} {x : Str} {tpos : Pos} {a b z TI TO i1 i2 : Addr} (D : ZipApart z TI TO i1 i2 a b) :
    Turn P w K (.Name x tpos) (ItzF K a b) [z, TI, TO, i1, i2] z (fun i h => ZSt h z TI TO i1 i2 a b i) where
  mem := by simp
  obj := fun i h ⟨⟨v, f, hz, _⟩, pI, ⟨x, y, pO⟩, ⟨o1, e1, _, d1⟩, ⟨o2, e2, _, d2⟩⟩ c hc => by
    rcases mem5 hc with rfl | rfl | rfl | rfl | rfl
    · exact ⟨_, hz, fun v q => nomatch q⟩
    · exact ⟨_, pI, fun v q => nomatch q⟩
    · exact ⟨_, pO, fun v q => nomatch q⟩
    · exact ⟨o1, e1, fun v q => by rw [d1] at q; cases q⟩
    · exact ⟨o2, e2, fun v q => by rw [d2] at q; cases q⟩
  keep := fun i h g ⟨⟨v, f, hz, hv⟩, pI, ⟨x, y, pO⟩, t1, t2⟩ k =>
    ⟨⟨v, f, k z (by simp) _ hz, hv⟩, k TI (by simp) _ pI, ⟨x, y, k TO (by simp) _ pO⟩, t1.at fun o q => k i1 (by simp) o q, t2.at fun o q => k i2 (by simp) o q⟩
  item := by
    intro X hP hw hK hc i pins s st H E I hf S ⟨xs, ys, x, y, hqx, hqy, hx, hy⟩
    subst hP hw hK
    obtain ⟨us, rv, p, _⟩ := I.list hqx
    obtain ⟨ws, rv2, p2, _⟩ := I.list hqy
    obtain ⟨u, hu, ru⟩ := rv.get hx
    obtain ⟨u2, hu2, ru2⟩ := rv2.get hy
    refine next_item D S p.isList p2.isList (x := u) (y := u2) (by simpa using hu) (by simpa using hu2) fun g S2 pT k => ⟨_, rfl, wpAny_pure ?_⟩
    have J := I.turnedNew (T := s.heap.objs.size) (ob := .frz _ (.tup [x, y])) (h' := g) (t' := s.toks) (ch := [z, TI, TO, i1, i2]) (fun c o hb q => k c o (fun e => hb (by simp [e])) (fun e => hb (by simp [e])) (fun e => hb (by simp [e])) (fun e => hb (by simp [e])) q) hf (Nat.le_refl _)
      (show ObjOk X.prog X.w _ _ _ (.frz _ (.tup [x, y])) from ⟨pT, by show 2 ≤ sizeLine; decide, [u, u2], .cons ru (.cons ru2 .nil), ⟨_, pT, rfl, _, rfl⟩⟩)
    refine ⟨.ref s.heap.objs.size, _, J, rfl, ⟨_, x, y, _, rfl, I.hok.fresh (Nat.le_refl _), rfl, rfl, fun l hl => by rw [I.list_inj hl hqx]; exact hx, fun l hl => by rw [I.list_inj hl hqy]; exact hy⟩, S2, fun c hcm => ?_⟩
    have hlt : c < s.heap.objs.size := by
      obtain ⟨⟨v, f, hz, _⟩, pI, ⟨x, y, pO⟩, ⟨o1, e1, _, d1⟩, ⟨o2, e2, _, d2⟩⟩ := S
      rcases mem5 hcm with rfl | rfl | rfl | rfl | rfl
      · exact Heap.lt_size hz
      · exact Heap.lt_size pI
      · exact Heap.lt_size pO
      · exact Heap.lt_size e1
      · exact Heap.lt_size e2
    rw [upd_ne (Nat.ne_of_lt hlt)]
    exact (hf c hcm).1
  done := by
    intro X hP hw hK hc i pins s st H E I hf S ⟨xs, ys, hqx, hqy, hend⟩
    subst hP hw hK
    obtain ⟨us, rv, p, _⟩ := I.list hqx
    obtain ⟨ws, rv2, p2, _⟩ := I.list hqy
    have e1 := rv.length
    have e2 := rv2.length
    have he : us.toArray[i]? = none ∨ ws.toArray[i]? = none := hend.imp (fun q => by simp; omega) fun q => by simp; omega
    exact next_end (I.ok.hd hc) D S p.isList p2.isList he fun g k => ⟨rfl, I.turnedL (t' := s.toks) (ch := [z, TI, TO, i1, i2]) (fun c o hb q => k c o (fun e => hb (by simp [e])) (fun e => hb (by simp [e])) (fun e => hb (by simp [e])) (fun e => hb (by simp [e])) q) hf⟩
  self := fun A i s Q E S h => by
    obtain ⟨v, f, hz, _⟩ := S.z
    have hT : s.TypeIs (.ref z) "zip" := ⟨_, hz, rfl⟩
    exact wpAny_pyIter_slot hT F.slot_zip_iter (wpAny_call_entry F.slot_zip_iter hT F.entry_zip_iter (wpAny_pure ⟨_, rfl, "zip", _, hT, F.slot_zip_next.lookup, h⟩) (F.args_zip_iter_1 _))
section
variable {X : Cx} {e e2 : Expr} {wa : WA} {p pos tpos : Pos} {x : Str}
def zipD (xs ys : List PyData) : List PyData := (xs.zip ys).map fun (p : PyData × PyData) => .tuple [p.1, p.2]
abbrev wiZipN (wa : WA) : WI := fun dl M T => wa dl M fun rs M1 => match rs with
  | [.d (.list xs), .d (.list ys)] => T ((zipD xs ys).map Sl.d) C0 M1
  | _ => False
theorem pdi_zipN (hg : Gl X "zip") (hm : X.mg "zip" = none) (ha : PDA X [e, e2] wa) (hs : starEach [e, e2] X.env = (false, eval e X.env) :: starEach [e2] X.env := by rfl) (hpl : (backTo pos (starEach [e2] X.env)).any (·.1) = false := by rfl) :
    PDI X (.Name x tpos) (.Call (.Name "zip" p) [e, e2] [] pos) (wiZipN wa) := by
  refine ⟨fun pins s st H R I ⟨F, dl, M, T, so, at0, hw, po⟩ => ?_⟩
  refine PyProof.Rows.Call_ (ld_blt I hg hm PyProof.Rows.boot_zip (PyProof.Rows.callWith_type1 (thn (PA.run ha pos pins s st H (fun vs H1 => ∃ a b us ws, vs = [.ref a, .ref b] ∧ SqL X.K H1 a us ∧ SqL X.K H1 b ws ∧ R (ItzF X.K a b) H1) I ?_) fun us s1 ⟨vs, H1, I1, r1, q1⟩ => ?_) hs hpl))
  · refine tDA_to so at0 hw fun vs F1 H1 rs M1 h1 g1 so1 at1 i1 => ?_
    split at h1
    · rename_i xs ys
      obtain ⟨v, u, rfl, i2, i3⟩ := isAll2 i1
      cases i2 with
      | @lst a us _ q1 q2 =>
        cases i3 with
        | @lst b ws _ q3 q4 =>
          have hl : (zipD xs ys).length = min xs.length ys.length := by unfold zipD; rw [List.length_map, List.length_zip]
          refine ⟨a, b, us, ws, rfl, SqL.of (at1.ex _ _ q1), SqL.of (at1.ex _ _ q3), po F1 M1 H1 _ _ _ h1 g1 ⟨fun F M H i e at0 c hi => ?_, fun F M H i x H' r e at0 c y hr => ?_, fun F M H e at0 c => ?_⟩⟩
          · rw [List.length_map, hl] at hi
            obtain ⟨v1, z1, _⟩ := dqAll_get (i := i) q2 (List.getElem?_eq_getElem (by omega))
            obtain ⟨v2, z2, _⟩ := dqAll_get (i := i) q4 (List.getElem?_eq_getElem (by omega))
            exact ⟨us, ws, v1, v2, SqL.of (at0.ex _ _ (e _ _ q1)), SqL.of (at0.ex _ _ (e _ _ q3)), z1, z2⟩
          · obtain ⟨Tp, x1, x2, o, rfl, hT, ho, rfl, hx, hy⟩ := y
            rw [List.getElem?_map] at hr
            obtain ⟨d, hd, rfl⟩ := Option.map_eq_some_iff.mp hr
            unfold zipD at hd
            rw [List.getElem?_map] at hd
            obtain ⟨⟨d1, d2⟩, hd2, rfl⟩ := Option.map_eq_some_iff.mp hd
            rw [List.getElem?_zip_eq_some] at hd2
            obtain ⟨v1, z1, w1⟩ := dqAll_get (i := i) q2 hd2.1
            obtain ⟨v2, z2, w2⟩ := dqAll_get (i := i) q4 hd2.2
            have hx1 := hx us (SqL.of (at0.ex _ _ (e _ _ q1)))
            have hx2 := hy ws (SqL.of (at0.ex _ _ (e _ _ q3)))
            rw [z1] at hx1; rw [z2] at hx2
            obtain rfl : v1 = x1 := Option.some.inj hx1
            obtain rfl : v2 = x2 := Option.some.inj hx2
            have g := Go.laid at0 (o := .frz o (.tup [v1, v2])) hT
            exact ⟨_, g, .tup (.inl ⟨o, upd_same, ho⟩) (.cons (dq_mono (e.trans g.ex) w1) (.cons (dq_mono (e.trans g.ex) w2) .nil))⟩
          · rw [List.length_map, hl]
            refine ⟨us, ws, SqL.of (at0.ex _ _ (e _ _ q1)), SqL.of (at0.ex _ _ (e _ _ q3)), ?_⟩
            rw [dqAll_len q2, dqAll_len q4]
            omega
    · exact h1.elim
  · obtain ⟨a, b, xs, ys, ex, hqx, hqy, q⟩ := q1
    subst ex
    obtain ⟨u1, u2, rfl, r, r'⟩ := vals2 r1
    cases r
    cases r'
    obtain ⟨ts, rv, p1, _⟩ := I1.list hqx
    obtain ⟨ws, rv2, p2, _⟩ := I1.list hqy
    refine call_zip_2 p1.isList p2.isList fun g hz pI pO t1 t2 hsz hk => wpAny_pyIter_zip hz ?_
    have I2 : Inv X pins st H1 { s1 with heap := g } := I1.kept (t' := s1.toks) hk
    refine ⟨s1.heap.objs.size + 4, _, _, _, H1, rfl, I2, turn_zipF (PySem.W.ktu_apart s1.heap.objs.size a b p1.lt p2.lt), ⟨⟨_, _, hz, .inl rfl⟩, pI, ⟨_, _, pO⟩, t1, t2⟩, fun c hcm => ?_, q⟩
    have hle : s1.heap.objs.size ≤ c := by
      rcases mem5 hcm with rfl | rfl | rfl | rfl | rfl
      all_goals first | exact Nat.le_refl _ | exact Nat.le_add_right _ _
    exact I1.fpOk hle (I1.hok.fresh hle)
end
end DL

set_option Elab.async false
set_option linter.all false
set_option maxRecDepth 100000
set_option maxHeartbeats 4000000
/-! DP: d.get(k, x), dict(pairs), sorted(d), sorted of keyed pairs, a, *b = t, list(range(..)). -/
namespace DL
open PySem PySem.Spec L2
open Evl (Ex)
section
variable {X : Cx} {a b c o e f : Expr} {wa wb wc wo we wx : WE} {pos apos cpos : Pos}
/-! ### d.get(k, x), d.get(k) -/
abbrev wGet2 (wo we wx : WE) : WE := fun dl M R => wo dl M fun p M1 => match p with
  | .v (.ref a) => (∃ ks, M1 a = some (.dic ks)) ∧ we dl M1 fun q M2 => wx dl M2 fun z M3 => ∃ ks k r, M3 a = some (.dic ks) ∧ keyS q = some k ∧ some ((valS ks k).getD z) = some r ∧ R r M3
  | _ => False
theorem d0 {o : Option MO} {ks : KS} {k : Prop} (h : o = some (.dic ks)) (hk : k) : (∃ x, o = some (.dic x)) ∧ k := ⟨⟨ks, h⟩, hk⟩
theorem pd_get2 (hu : X.A.units + 1 < cLine) (ho : PD X o wo) (he : PD X e we) (hf : PD X f wx) (hbase : attributeBase o "get" X.env (eval o X.env) = eval o X.env := by rfl)
    (few : ((backTo cpos (starEach [e, f] X.env)).all (fun x => !x.1) && (backToKw cpos (keywordEach [] X.env)).all (fun x => x.1.isSome) && decide (([e, f] : List Expr).length + ([] : List Keyword).length + (if ([] : List Keyword).isEmpty then 0 else 1) < 30)) = true := by rfl)
    (line : (apos.endLine == cpos.line) = true := by rfl) (trees : backTo cpos (starEach [e, f] X.env) = [(false, eval e X.env), (false, eval f X.env)] := by rfl) : PD X (.Call (.Attribute o "get" apos) [e, f] [] cpos) (wGet2 wo we wx) := by
  refine pe_imp (pe_dget2 hu ho he hf ⟨hbase, few, line, trees⟩) fun st H Q ⟨F, dl, M, R, so, at0, hw, po⟩ => ?_
  refine tD_to so at0 hw fun x F1 H1 p M1 h1 g1 so1 at1 i1 => ?_
  split at h1
  · rename_i ad
    obtain ⟨⟨ks, m⟩, h1⟩ := h1
    have ex : x = .ref ad := i1
    subst ex
    obtain ⟨_, kvs, q1, _⟩ := at1.mem ad _ m
    refine ⟨ad, rfl, .inl ⟨kvs, .inl q1⟩, ?_⟩
    refine tD_to so1 at1 h1 fun y F2 H2 q M2 h2 g2 so2 at2 i2 => ?_
    refine tD_to so2 at2 h2 fun z F3 H3 r M3 h3 g3 so3 at3 i3 => ?_
    obtain ⟨ks, k, r, m, hk, hv, hR⟩ := h3
    obtain ⟨_, kvs, q1, q2⟩ := at3.mem ad _ m
    obtain ⟨z1, z2⟩ := valS_at (k := k) q2
    refine ⟨valV kvs k, by rw [keyS_at (is_mono g3.ex i2) hk]; exact DGet.k q1, ?_⟩
    cases hv
    cases ev : valS ks k with
    | none => rw [ev] at hR; rw [z2 ev]; exact po _ F3 H3 _ M3 hR ((g1.trans g2).trans g3) i3
    | some r => rw [ev] at hR; obtain ⟨v, e1, e2⟩ := z1 r ev; rw [e1]; exact po _ F3 H3 _ M3 hR ((g1.trans g2).trans g3) e2
  · exact h1.elim
abbrev wGet1 (wo we : WE) : WE := fun dl M R => wo dl M fun p M1 => match p with
  | .v (.ref a) => (∃ ks, M1 a = some (.dic ks)) ∧ we dl M1 fun q M3 => ∃ ks k r, M3 a = some (.dic ks) ∧ keyS q = some k ∧ some ((valS ks k).getD .n) = some r ∧ R r M3
  | _ => False
theorem pd_get1 (hu : X.A.units + 1 < cLine) (ho : PD X o wo) (he : PD X e we) (hbase : attributeBase o "get" X.env (eval o X.env) = eval o X.env := by rfl)
    (few : ((backTo cpos (starEach [e] X.env)).all (fun x => !x.1) && (backToKw cpos (keywordEach [] X.env)).all (fun x => x.1.isSome) && decide (([e] : List Expr).length + ([] : List Keyword).length + (if ([] : List Keyword).isEmpty then 0 else 1) < 30)) = true := by rfl)
    (line : (apos.endLine == cpos.line) = true := by rfl) (trees : backTo cpos (starEach [e] X.env) = [(false, eval e X.env)] := by rfl) : PD X (.Call (.Attribute o "get" apos) [e] [] cpos) (wGet1 wo we) := by
  refine pe_imp (pe_dget1 hu ho he ⟨hbase, few, line, trees⟩) fun st H Q ⟨F, dl, M, R, so, at0, hw, po⟩ => ?_
  refine tD_to so at0 hw fun x F1 H1 p M1 h1 g1 so1 at1 i1 => ?_
  split at h1
  · rename_i ad
    obtain ⟨⟨ks, m⟩, h1⟩ := h1
    have ex : x = .ref ad := i1
    subst ex
    obtain ⟨_, kvs, q1, _⟩ := at1.mem ad _ m
    refine ⟨ad, rfl, .inl ⟨kvs, .inl q1⟩, ?_⟩
    refine tD_to so1 at1 h1 fun y F3 H3 q M3 h3 g3 so3 at3 i2 => ?_
    obtain ⟨ks, k, r, m, hk, hv, hR⟩ := h3
    obtain ⟨_, kvs, q1, q2⟩ := at3.mem ad _ m
    obtain ⟨z1, z2⟩ := valS_at (k := k) q2
    refine ⟨valV kvs k, by rw [keyS_at i2 hk]; exact DGet.k q1, ?_⟩
    cases hv
    cases ev : valS ks k with
    | none => rw [ev] at hR; rw [z2 ev]; exact po _ F3 H3 _ M3 hR (g1.trans g3) .non
    | some r => rw [ev] at hR; obtain ⟨v, e1, e2⟩ := z1 r ev; rw [e1]; exact po _ F3 H3 _ M3 hR (g1.trans g3) e2
  · exact h1.elim
/-! ### dict(pairs) -/
def pairsD : List PyData → Option KS
  | [] => some []
  | .tuple [.int i, v] :: r => (pairsD r).map ((.inl i, .d v) :: ·)
  | .tuple [.str i, v] :: r => (pairsD r).map ((.inr i, .d v) :: ·)
  | _ => none
theorem dq_tup2 {K : PySem.W.Frag} {F : Hp} {v : V} {x y : PyData} (h : Dq K F v (.tuple [x, y])) : ∃ p u w, v = .ref p ∧ TqT K F p [u, w] ∧ Dq K F u x ∧ Dq K F w y := by
  cases h with
  | tup h1 h2 =>
    cases h2 with
    | cons a t =>
      cases t with
      | cons b t => cases t; exact ⟨_, _, _, rfl, h1, a, b⟩
theorem pairsD_at {K : PySem.W.Frag} {F : Hp} : ∀ {ds : List PyData} {ks : KS} {vs : List V}, pairsD ds = some ks → DqAll K F vs ds → ∃ (ps : List Addr) (kvs : List (Key × V)), vs = ps.map V.ref ∧ Paired (fun p kv => SqT K F p [kV kv.1, kv.2]) ps kvs ∧ All2 (KIs K F) ks kvs := by
  intro ds
  induction ds with
  | nil => intro ks vs h hd; cases h; cases hd; exact ⟨[], [], rfl, .nil, .nil⟩
  | cons d r ih =>
    intro ks vs h hd
    cases hd with
    | cons h1 h2 =>
      unfold pairsD at h
      split at h
      · rename_i e; cases e
      · rename_i i v r e
        cases e
        obtain ⟨ks', hk, rfl⟩ := Option.map_eq_some_iff.mp h
        obtain ⟨ps, kvs, rfl, q1, q2⟩ := ih hk h2
        obtain ⟨p, u, w, rfl, t, hu, hw⟩ := dq_tup2 h1
        rw [dq_int hu] at t
        exact ⟨p :: ps, (.inl i, w) :: kvs, rfl, .cons t.sq q1, .cons ⟨rfl, hw⟩ q2⟩
      · rename_i i v r e
        cases e
        obtain ⟨ks', hk, rfl⟩ := Option.map_eq_some_iff.mp h
        obtain ⟨ps, kvs, rfl, q1, q2⟩ := ih hk h2
        obtain ⟨p, u, w, rfl, t, hu, hw⟩ := dq_tup2 h1
        rw [dq_str hu] at t
        exact ⟨p :: ps, (.inr i, w) :: kvs, rfl, .cons t.sq q1, .cons ⟨rfl, hw⟩ q2⟩
      · cases h
theorem pairs_val {pins : List (Addr × Obj)} {st : St} {H : Hp} {s : Shared} (I : Inv X pins st H s) : ∀ {ps : List Addr} {kvs : List (Key × V)}, Paired (fun p kv => SqT X.K H p [kV kv.1, kv.2]) ps kvs →
    ∃ (vvs : List (Value × Value)) (prs : List (Key × Value)), KV kvs prs ∧ vvs.length = ps.length ∧ prs.length = ps.length ∧ ∀ j k v, vvs[j]? = some (k, v) → PySem.PairAt s.heap (ps.getD j 0) k v ∧ (∃ q, ps[j]? = some q) ∧ ∃ kk, prs[j]? = some (kk, v) ∧ keyIs kk k = true
  | _, _, .nil => ⟨[], [], .nil, rfl, rfl, fun j k v e => by simp at e⟩
  | _, _, .cons (a := p) (b := kv) h t => by
    obtain ⟨vvs, prs, r, l1, l2, hp⟩ := pairs_val I t
    obtain ⟨ws, rv, ht, _⟩ := I.tuple h
    obtain ⟨u, y, ei, ru, ry⟩ := vals2 rv
    subst ei
    refine ⟨(u, y) :: vvs, (kv.1, y) :: prs, .cons ⟨rfl, ry⟩ r, by simp [l1], by simp [l2], fun j k v e => ?_⟩
    cases j with
    | zero =>
      have e2 : (u, y) = (k, v) := Option.some.inj e
      cases e2
      exact ⟨.inl ht, ⟨p, rfl⟩, kv.1, rfl, kV_is (P := X.prog) (w := X.w) ru⟩
    | succ j =>
      obtain ⟨a1, ⟨q, a2⟩, kk, a3, a4⟩ := hp j k v (by simpa using e)
      exact ⟨by simpa using a1, ⟨q, by simpa using a2⟩, kk, by simpa using a3, a4⟩
/-- dict(t), t a tuple of pairs -/
theorem call_dictT (hcalm : X.calm = true) : CallR X (.type "dict") (fun xs H Q => ∃ (a : Addr) (ps : List Addr) (kvs : List (Key × V)), xs = [.ref a] ∧ TqT X.K H a (ps.map V.ref) ∧ Paired (fun p kv => SqT X.K H p [kV kv.1, kv.2]) ps kvs ∧
    ∀ p, H p = none → Q (.ref p) (upd H p (.dK (mergeK [] kvs)))) := by
  intro pins s st H xs us Q I r ⟨a, ps, kvs, ex, hq, hp, q⟩
  subst ex
  obtain ⟨u, eu, rx⟩ := vals1 r
  subst eu
  cases rx
  obtain ⟨ws, n, rv, pl, hz⟩ : ∃ (ws : List Value) (n : Nat), Vals (ps.map V.ref) ws ∧ PySem.PlainSeq "tuple" s.heap a ws.toArray ∧ ps.length ≤ sizeLine := by
    rcases hq with ⟨ob, hH, hd⟩ | ⟨ob, ws, n, hk, hc, hs, hz, rv, hd⟩
    · obtain ⟨e, z, ws, rv, ob2, e2, hc, n, hs⟩ := I.hok _ _ hH
      rw [e] at e2
      cases e2
      exact ⟨ws, n, rv, ⟨ob, n, e, hc, hd, hs⟩, by simpa using z⟩
    · refine ⟨ws.toList, n, rv, ⟨ob, n, I.kIn a ob hk, hc, hd, by simpa using hs⟩, ?_⟩
      have := rv.length
      simp only [Array.length_toList, List.length_map] at this
      omega
  have ei := refs_at rv
  subst ei
  obtain ⟨vvs, prs, rel, l1, l2, hv⟩ := pairs_val I hp
  have pi : PySem.PairItems s.heap (ps.map Value.ref).toArray (fun j => ps.getD j 0) vvs := by
    refine ⟨by simp [l1], fun j k v e => ?_⟩
    obtain ⟨a1, ⟨b, a2⟩, _⟩ := hv j k v e
    exact ⟨by simp [List.getD_eq_getElem?_getD, a2], a1⟩
  refine PySem.call_dict_pairs (knd := mixKind X.prog X.w) (kvs := prs) (PairArg.tuple a (ps.map Value.ref).toArray (fun j => ps.getD j 0) vvs) (I.ok.hd hcalm) ⟨pl, pi⟩ ⟨by rw [l1, l2], fun i key v hr => ?_⟩ (by rw [l1]; exact hz) fun g tk hd k => ?_
  · obtain ⟨_, _, kk, a3, a4⟩ := hv i key v hr
    exact ⟨kk, a3, a4⟩
  · have hm : (s.heap.objs.size == sysModules) = false := beq_eq_false_iff_ne.mpr (Nat.ne_of_gt I.big)
    have hlen : (mergeK [] kvs).length ≤ sizeLine := by
      refine Nat.le_trans (length_mergeK kvs []) ?_
      rw [List.length_nil, Nat.zero_add, rel.length, l2]
      exact hz
    have J : Inv X pins st (upd H s.heap.objs.size (.dK (mergeK [] kvs))) { s with heap := g, toks := tk } := I.laid (t' := tk) (fun b o e => k b o (fun z => nomatch z) e) (Nat.le_refl _) (show ObjOk X.prog X.w _ _ _ (.dK (mergeK [] kvs)) from ⟨hlen, hm, merged [] prs, KV.merge rel .nil, hd⟩)
    exact ⟨.ref s.heap.objs.size, _, J, rfl, q _ (I.hok.fresh (Nat.le_refl _))⟩
abbrev gDict : Sl → Mem → RK → Prop := fun r M R => match r with
  | .d (.tuple ds) => ∃ ks, pairsD ds = some ks ∧ ∀ p, M p = none → R (.v (.ref p)) (upM M p (.dic (mergeS [] ks)))
  | .d (.list ds) => ∃ ks, pairsD ds = some ks ∧ ∀ p, M p = none → R (.v (.ref p)) (upM M p (.dic (mergeS [] ks)))
  | _ => False
theorem paired_mono {K : PySem.W.Frag} {F H : Hp} (e : Ex F H) : ∀ {ps : List Addr} {kvs : List (Key × V)}, Paired (fun p kv => SqT K F p [kV kv.1, kv.2]) ps kvs → Paired (fun p kv => SqT K H p [kV kv.1, kv.2]) ps kvs
  | _, _, .nil => .nil
  | _, _, .cons h t => .cons (Evl.ex_t e h) (paired_mono e t)
theorem c_dict (hc : X.calm = true) : CaD X (.type "dict") (g1 gDict) := ca1 fun F H M v r R Q at0 i1 h1 po => by
  unfold gDict at h1
  split at h1
  · obtain ⟨ks, e, hR⟩ := h1
    cases i1 with
    | @tup ad vs _ q1 q2 =>
      obtain ⟨ps, kvs, rfl, z1, z2⟩ := pairsD_at e q2
      exact ⟨_, call_dictT hc, ad, ps, kvs, rfl, q1.mono at0.ex, paired_mono at0.ex z1, fun p hp => po _ F _ _ _ (hR p (at0.freeM hp)) (Go.new at0 hp ⟨_, upd_same, mergeS_at z2 .nil⟩) rfl⟩
  · obtain ⟨ks, e, hR⟩ := h1
    cases i1 with
    | @lst ad vs _ q1 q2 =>
      obtain ⟨ps, kvs, rfl, z1, z2⟩ := pairsD_at e q2
      exact ⟨_, call_dictP hc, ad, ps, kvs, rfl, SqL.of (at0.ex _ _ q1), paired_mono at0.ex z1, fun p hp => po _ F _ _ _ (hR p (at0.freeM hp)) (Go.new at0 hp ⟨_, upd_same, mergeS_at z2 .nil⟩) rfl⟩
  · exact h1.elim
/-! ### sorted(d) -/
def keysI : KS → Option (List Int)
  | [] => some []
  | (.inl i, _) :: r => (keysI r).map (i :: ·)
  | (.inr _, _) :: _ => none
theorem keysI_at {K : PySem.W.Frag} {F : Hp} : ∀ {ks : KS} {kvs : List (Key × V)} {ns : List Int}, All2 (KIs K F) ks kvs → keysI ks = some ns → kvs.map (·.1) = ns.map Sum.inl
  | [], _, _, .nil, e => by cases e; rfl
  | (.inl i, _) :: r, _, _, .cons h t, e => by
    simp only [keysI, Option.map_eq_some_iff] at e
    obtain ⟨rs, h1, rfl⟩ := e
    rw [List.map_cons, List.map_cons, keysI_at t h1, ← h.1]
  | (.inr _, _) :: _, _, _, .cons _ _, e => by cases e
abbrev gSortedD : Sl → Mem → RK → Prop := fun r M R => match r with
  | .v (.ref a) => ∃ ks ns, M a = some (.dic ks) ∧ keysI ks = some ns ∧ ns.length < 64 ∧ R (.d (.list ((srtI ns).map PyData.int))) M
  | _ => False
theorem c_sortedD (hc : X.calm = true) : CaD X (.builtin "sorted") (g1 gSortedD) := ca1 fun F H M v r R Q at0 i1 h1 po => by
  unfold gSortedD at h1
  split at h1
  · rename_i ad
    obtain ⟨ks, ns, m, e, hz, hR⟩ := h1
    have ex : v = .ref ad := i1
    subst ex
    obtain ⟨_, kvs, q1, q2⟩ := at0.mem ad _ m
    refine ⟨_, call_sortedDI hc, ad, kvs, ns, rfl, .inl q1, keysI_at q2 e, hz, fun ys p hp hs hn => ?_⟩
    have e4 := sorted_one (hp.trans (srtI_perm ns).symm) hs (srtI_sorted ns)
    subst e4
    exact po_dat at0 po hn hR fun F' e h => .lst h (dqAll_ints _)
  · exact h1.elim
/-! ### list(range(..)) -/
abbrev wLRg1 (wa : WE) : WE := fun dl M R => wa dl M fun r M1 => match r with
  | .d (.int n) => (0 ≤ n ∧ n ≤ 16777216) ∧ R (.d (.list ((List.range n.toNat).map fun (i : Nat) => .int (i : Int)))) M1
  | _ => False
abbrev wLRg2 (wa wb : WE) : WE := fun dl M R => wa dl M fun r M1 => wb dl M1 fun q M2 => match r, q with
  | .d (.int m), .d (.int n) => (0 ≤ m ∧ m ≤ n ∧ n ≤ 16777216) ∧ R (.d (.list ((List.range (n - m).toNat).map fun (i : Nat) => .int (m + (i : Int))))) M2
  | _, _ => False
theorem dqAll_rg {K : PySem.W.Frag} {F : Hp} (a b : Int) : DqAll K F (rgV a b) ((List.range (b - a).toNat).map fun (i : Nat) => .int (a + (i : Int))) := by
  unfold rgV
  generalize List.range (b - a).toNat = l
  induction l with
  | nil => exact .nil
  | cons x r ih => exact .cons (.int _) ih
theorem pd_listRg1 {p p2 q : Pos} (hc : X.calm = true) (hg : Gl X "list") (hm : X.mg "list" = none) (hg2 : Gl X "range") (hm2 : X.mg "range" = none) (ha : PD X a wa)
    (na : starEach [a] X.env = (false, eval a X.env) :: starEach [] X.env := by rfl) : PD X (.Call (.Name "list" p) [.Call (.Name "range" p2) [a] [] q] [] pos) (wLRg1 wa) := by
  refine pe_imp (pe_listRg hc hg hm (prg_1 hg2 hm2 ha na)) fun st H Q ⟨F, dl, M, R, so, at0, hw, po⟩ => ?_
  refine tD_to so at0 hw fun x F1 H1 r M1 h1 g1 so1 at1 i1 => ?_
  split at h1
  · rename_i n
    obtain ⟨⟨h0, h2⟩, hR⟩ := h1
    refine ⟨n, dq_int i1, RgOk.of_le (by omega) h2 (by omega) h0, fun c hc => po_dat at1 (po.mono g1) hc hR fun F' e h => .lst h ?_⟩
    have := dqAll_rg (K := X.K) (F := F') 0 n
    simpa using this
  · exact h1.elim
theorem pd_listRg2 {p p2 q : Pos} (hc : X.calm = true) (hg : Gl X "list") (hm : X.mg "list" = none) (hg2 : Gl X "range") (hm2 : X.mg "range" = none) (ha : PD X a wa) (hb : PD X b wb)
    (na : starEach [a, b] X.env = (false, eval a X.env) :: starEach [b] X.env := by rfl) (nb : starEach [b] X.env = (false, eval b X.env) :: starEach [] X.env := by rfl) (hp : (backTo q (starEach [b] X.env)).any (·.1) = false := by rfl) :
    PD X (.Call (.Name "list" p) [.Call (.Name "range" p2) [a, b] [] q] [] pos) (wLRg2 wa wb) := by
  refine pe_imp (pe_listRg hc hg hm (prg_2 hg2 hm2 ha hb na nb hp)) fun st H Q ⟨F, dl, M, R, so, at0, hw, po⟩ => ?_
  refine tD_to so at0 hw fun x F1 H1 r M1 h1 g1 so1 at1 i1 => ?_
  refine tD_to so1 at1 h1 fun y F2 H2 r2 M2 h2 g2 so2 at2 i2 => ?_
  split at h2
  · rename_i m n
    obtain ⟨⟨h0, h2, h3⟩, hR⟩ := h2
    exact ⟨m, n, dq_int i1, dq_int i2, RgOk.of_le h0 h3 (by omega) (by omega), fun c hc => po_dat at2 (po.mono (g1.trans g2)) hc hR fun F' e h => .lst h (dqAll_rg m n)⟩
  · exact h2.elim
end
end DL

set_option Elab.async false
set_option linter.all false
set_option maxRecDepth 100000
set_option maxHeartbeats 4000000
/-! DQ: a, *b = t; sorted of pairs with different int keys. -/
namespace DL
open PySem PySem.Spec PyProof.Rows
/-- a walk, from its k-th item on -/
theorem walk_shift {prog : Program} {w : World} {A : Around} {I : Addr} {fp wr : List Addr} {G : Array GenState → Array GenState → Prop} {n k : Nat} {P : Nat → Value → Prop} {S : Nat → Shared → Prop} (W : WalksS prog w A I fp wr G n P S) (hk : k ≤ n) :
    WalksS prog w A I fp wr G (n - k) (fun i => P (i + k)) (fun i => S (i + k)) where
  sub := W.sub
  grefl := W.grefl
  gtrans := W.gtrans
  frame := fun i s h tk st a b => W.frame (i + k) s h tk st a b
  item := fun i s Q E hi st hQ => W.item (i + k) s Q E (by omega) st fun v s2 a b c => hQ v s2 a (by rw [show i + 1 + k = i + k + 1 by omega]; exact b) c
  done := fun s Q E st hQ => W.done s Q E (by rw [show n - k + k = n by omega] at st; exact st) hQ
  self := fun i s Q E st h => W.self (i + k) s Q E st h
section
variable {prog : Program} {w : World} {A : Around} {E : Value → Shared → Prop} {s : Shared}
theorem unpack_star {t : Addr} {x : Value} {xs : List Value} {Q : List Value → Shared → Prop} (hh : A.handled = none) (ht : IsTup s.heap t (x :: xs).toArray) (hz : xs.length ≤ sizeLine)
    (hQ : ∀ (g : Heap) (tk : Nat), (∀ b o, s.heap.get? b = some o → g.get? b = some o) → Q [x, .ref g.objs.size] { s with heap := g.push { cls := .type "list", data := .seq xs.toArray }, toks := tk }) : wpAny (model prog w) A (unpackItems (.ref t) 2 (some 1)) Q E s := by
  have hlt : t ≠ s.heap.objs.size := by obtain ⟨o, ho, _⟩ := ht; exact Nat.ne_of_lt (Heap.lt_size ho)
  unfold unpackItems notIterableAtAll
  refine wpAny_bind (wpAny_bind (wpAny_specialOf ht.typeIs slot_tuple_iter.lookup (wpAny_pure ?_)))
  simp only [Bool.false_eq_true, if_false]
  refine wpAny_bind (wpAny_holding (iter_tuple ht ?_))
  refine wpAny_bind (wpAny_holding (draw_tuple hlt 1 0 _ _ ⟨_, Heap.get?_push_size _ rfl, rfl, rfl⟩ (ht.push _) (by simp) fun g1 it1 s1 => ?_))
  simp only [List.drop_zero, List.take_succ_cons, List.take_zero, List.length_cons, List.length_nil]
  rw [if_neg (by decide)]
  have t1 : IsTup g1 t (x :: xs).toArray := (ht.push _).extBut s1.extBut hlt
  have W := walk_shift (k := 1) (Walks.tuple (prog := prog) (w := w) (A := A.in1) (show A.in1.handled = none from hh) s.heap.objs.size t hlt (x :: xs).toArray).toS (by simp)
  have hfp : ∀ b ∈ [s.heap.objs.size, t], b < g1.objs.size := fun b hb => by
    simp only [List.mem_cons, List.not_mem_nil, or_false] at hb
    rcases hb with rfl | rfl
    · obtain ⟨o, e, _⟩ := it1; exact Heap.lt_size e
    · obtain ⟨o, e, _⟩ := t1; exact Heap.lt_size e
  refine wpAny_bind (wpAny_holding (wpAny_collect_iter (T := "tuple_iterator") (.inr (.inr (.inr rfl))) W (fun i s st => by obtain ⟨o, e, c, _⟩ := st.1; exact ⟨o, e, c⟩) ⟨it1, t1⟩ hfp (by simp) (fun s2 acc mv ac => ?_) (by simp; exact hz)))
  have ea : acc.toList = xs := by
    apply List.ext_getElem?
    intro j
    cases e : acc.toList[j]? with
    | none =>
      rw [List.getElem?_eq_none_iff, Array.length_toList, ac.1] at e
      simp at e
      rw [List.getElem?_eq_none (by omega)]
    | some v =>
      have q := ac.2 j v (by rw [← Array.getElem?_toList]; exact e)
      simpa using q.symm
  rw [ea, if_neg (by omega)]
  obtain ⟨g2, gn, dr, tk, os⟩ := s2
  obtain ⟨m1, m2, m3, m4, _⟩ := mv
  simp only at m1 m2 m3 m4
  subst m2 m3 m4
  refine wpAny_bind (wpAny_newList (wpAny_pure ?_) (by simp; exact hz))
  simp only [Nat.reduceSub, Nat.sub_zero, List.take_length, List.drop_length, List.append_nil, List.cons_append, List.nil_append]
  exact hQ g2 tk fun b o e => m1 b o (fun z => by
    simp only [List.mem_cons, List.not_mem_nil, or_false] at z
    exact absurd (Heap.lt_size e) (by rw [z]; exact Nat.lt_irrefl _)) (s1.extBut b o (Nat.ne_of_lt (Heap.lt_size e)) (Heap.get?_push_of_some _ e))
end
end DL
namespace DL
open PySem PySem.Spec L2
open Evl (Ex)
section
variable {X : Cx} {pos : Pos}
/-- a, *b = a tuple -/
def gStar (ws : WGs) : WG := fun r dl M R => match r with
  | .d (.tuple (x :: ds)) => ws [.d x, .d (.list ds)] dl M R
  | _ => False
theorem gs_go {ws : WGs} {x : PyData} {ds : List PyData} {dl : Env'} {M : Mem} {R : Env' → Mem → Prop} (h : ws [.d x, .d (.list ds)] dl M R) : gStar ws (.d (.tuple (x :: ds))) dl M R := h
theorem pdg_star {e f : Expr} {k : Nat} {ws : WGs} {sp : Pos} (hc : X.calm = true) (h : PDGs X [e, f] ws) (hn : (assignEach [e, .Starred f sp] X.env).length = 2 := by rfl) (hst : (assignEach [e, .Starred f sp] X.env).findIdx? (·.1) = some 1 := by rfl)
    (hm : (assignEach [e, .Starred f sp] X.env).map (·.2) = (assignEach [e, f] X.env).map (·.2) := by rfl) : PDG X (.Tuple [e, .Starred f sp] k pos) (gStar ws) := by
  refine ⟨fun pins s st H v u Q I r ⟨F, dl, M, q, R, so, at0, i1, hw, po⟩ => ?_⟩
  unfold gStar at hw
  split at hw
  · rename_i x ds
    obtain ⟨a, vs, rfl, h1, h2⟩ := sqT_at at0 i1
    cases r
    cases h2 with
    | @cons v vs _ _ a1 a2 =>
      obtain ⟨ws', rv, ht, hz⟩ := I.tuple h1
      cases rv with
      | @cons _ y _ ys r1 r2 =>
        rw [PyProof.Rows.assign_Tuple]
        refine wpAny_bind (wpAny_standAt ?_)
        unfold unpack
        rw [hn, hst, hm]
        have hl := r2.length
        refine wpAny_bind (wpAny_holding (unpack_star (I.ok.hd hc) ht (by rw [List.length_cons] at hz; omega) fun g tk kp => ?_))
        have I1 : Inv X pins st H { s with heap := g, toks := tk } := I.kept kp
        have hf : H g.objs.size = none := I1.hok.fresh (Nat.le_refl _)
        have J : Inv X pins st (upd H g.objs.size (.lst vs)) { s with heap := g.push { cls := .type "list", data := .seq ys.toArray }, toks := tk } := I1.laid (t' := tk) (fun _ _ e => Heap.get?_push_of_some _ e) (Nat.le_refl _) ⟨by rw [List.length_cons] at hz; omega, ys, 0, r2, Heap.get?_push_size _ rfl⟩
        have g1 := Go.laid at0 (o := .lst vs) hf
        have at1 := g1.at'
        have i2 : IsAll X.K (upd F g.objs.size (.lst vs)) [.d x, .d (.list ds)] [v, .ref g.objs.size] := .cons (dq_mono g1.ex a1) (.cons (.lst upd_same (dqAll_mono g1.ex a2)) .nil)
        exact PGs.run h pins _ st _ [v, .ref g.objs.size] _ Q J (.cons r1 (.cons (show RelV (.ref g.objs.size) (.ref g.objs.size) from rfl) .nil)) ⟨_, dl, M, _, R, sok_mono g1.ex so, at1, i2, hw, po.mono g1⟩
  · exact hw.elim
end
end DL
namespace DL
open PySem PySem.Spec PyProof.Rows Srt SrtO
/-- a pair whose first is an int -/
def IsKey (h : Heap) (v : Value) (x : Int) : Prop := ∃ a o t y n, v = .ref a ∧ h.get? a = some o ∧ o.cls = .type "tuple" ∧ o.data = .seq #[.int x t, y] n
theorem IsKey.keeps {h g : Heap} {v : Value} {x : Int} (p : IsKey h v x) (k : ∀ b o, h.get? b = some o → o.cls = .type "tuple" → g.get? b = some o) : IsKey g v x :=
  let ⟨a, o, t, y, n, e, ho, hc, hd⟩ := p; ⟨a, o, t, y, n, e, k _ _ ho hc, hc, hd⟩
def ltK (k : Value → Int) : Value → Value → Bool := fun v u => decide (k v < k u)
theorem swoK (k : Value → Int) : Swo (ltK k) := by
  refine ⟨fun x y h => ?_, fun x y z h1 h2 => ?_⟩
  · simp only [ltK, decide_eq_true_eq, decide_eq_false_iff_not] at *; omega
  · simp only [ltK, decide_eq_false_iff_not] at *; omega
section
variable {prog : Program} {w : World} {A : Around} {E : Value → Shared → Prop} {s : Shared}
theorem key_cmp {vs : List Value} {k : Value → Int} (hp : ∀ v ∈ vs, IsKey s.heap v (k v)) (inj : ∀ v ∈ vs, ∀ u ∈ vs, k v = k u → v = u) : Cmp prog w A s (tuples' true) (fun p => p.1 ∈ vs) (lt2 (ltK k)) := by
  intro p q hm hm2
  have h1 := hp _ hm
  have h2 := hp _ hm2
  show wpAny (model prog w) A (keyLt' (tuples' true) p.1 q.1) (fun r s2 => s2 = s ∧ r = decide (k p.1 < k q.1)) (fun _ _ => False) s
  by_cases e : k p.1 = k q.1
  · rw [inj _ hm _ hm2 e] at h1 ⊢
    obtain ⟨a, o, t, y, n, e1, ho, hc, hd⟩ := h2
    rw [e1, decide_eq_false (Int.lt_irrefl _)]
    refine PySem.W.kat_lt ho hd ho hd ?_
    show PySem.W.KatLex prog w A true (decide (2 < 2)) _ [(_, _), (y, y)] 0 s
    refine PySem.W.kat_cons (SeqAt.EqAt.same _ prog w _ _ (PySem.W.kat_yes (PySem.W.kat_cons (SeqAt.EqAt.same _ prog w _ _ (PySem.W.kat_yes (PySem.W.kat_nil ⟨rfl, rfl⟩))))))
  · obtain ⟨a, o, t, y, n, e1, ho, hc, hd⟩ := h1
    obtain ⟨b, o2, t2, y2, n2, e2, ho2, hc2, hd2⟩ := h2
    generalize k p.1 = i at *
    generalize k q.1 = j at *
    rw [e1, e2]
    refine PySem.W.kat_lt ho hd ho2 hd2 ?_
    show PySem.W.KatLex prog w A true (decide (2 < 2)) _ [(.int i t, .int j t2), (y, y2)] 0 s
    refine PySem.W.kat_cons (SeqAt.EqAt.int_int i t j t2 prog w _ _ ?_)
    rw [show (i == j) = false from beq_eq_false_iff_ne.mpr e]
    exact PySem.W.kat_no (oneLt_int ⟨rfl, rfl⟩)
theorem keys_first {h : Heap} : ∀ {vs : List Value}, (∀ v ∈ vs, ∃ x, IsKey h v x) → ∃ fs : List Value, PySem.W.KatTups h vs fs ∧ fs.length = vs.length ∧ ∀ f ∈ fs, ∃ x t, f = Value.int x t
  | [], _ => ⟨[], PySem.W.KatTups.nil, rfl, fun _ hm => by simp at hm⟩
  | v :: vs, hp => by
    obtain ⟨fs, h1, h2, h3⟩ := keys_first (vs := vs) fun u hm => hp u (List.mem_cons_of_mem _ hm)
    obtain ⟨x, a, o, t, y, n, e, ho, hc, hd⟩ := hp v List.mem_cons_self
    subst e
    refine ⟨.int x t :: fs, PySem.W.KatTups.cons ho hc hd rfl h1, by simp [h2], fun f hm => ?_⟩
    rcases List.mem_cons.mp hm with e | hm
    · exact ⟨x, t, e⟩
    · exact h3 f hm
theorem sorted_key {l : Addr} {vs : List Value} {k : Value → Int} {Q : Value → Shared → Prop} (hl : s.heap.IsList l vs.toArray) (hz : vs.length ≤ sizeLine) (hp : ∀ v ∈ vs, IsKey s.heap v (k v)) (inj : ∀ v ∈ vs, ∀ u ∈ vs, k v = k u → v = u)
    (h : ∀ (g : Heap) (d : Addr) (out : List Value), Srtd (ltK k) out → out.Perm vs → (∀ b o, s.heap.get? b = some o → g.get? b = some o) → s.heap.objs.size ≤ d → (∃ n, g.get? d = some (seqObj "list" out.toArray n)) → Q (.ref d) { s with heap := g }) :
    wpAny (model prog w) A (call (.builtin "sorted") [.ref l]) Q E s := by
  refine sorted_ord (swoK k) hl hz (fun h2 g a ha kk => ?_) fun out hs hb => h _ _ out hs hb.perm (fun b o e => sortedAll_old e) (Nat.le_succ _) (sortedAll_at s.heap vs out.toArray)
  intro g2 kp
  have hp2 : ∀ v ∈ vs, IsKey g2 v (k v) := fun v hm => (hp v hm).keeps fun b o e c => kp b o (fun z => by
    subst z
    exact absurd rfl (kk b o e).1) (kk b o e).2
  obtain ⟨fs, f1, f2, f3⟩ := keys_first fun v hm => ⟨_, hp2 v hm⟩
  refine ⟨tuples' true, fun R E2 hq => ?_, key_cmp hp2 inj⟩
  refine PySem.W.kat_kind (T := .type "int") f1 (by omega) (fun f hm => ?_) (by rfl) ?_
  · obtain ⟨x, t, rfl⟩ := f3 f hm
    exact PySem.W.Looks.now
  · rw [show (Value.type "int" != Value.type "tuple") = true by decide +kernel]
    exact hq
end
end DL
namespace DL
open PySem PySem.Spec L2
open Evl (Ex)
section
variable {X : Cx}
abbrev Kr (K : PySem.W.Frag) (H : Hp) (x : V) (n : Int) : Prop := ∃ t y, x = V.ref t ∧ SqT K H t [.int n, y]
theorem all2_inj {A B : Type} {R : A → B → Prop} {k : A → B} (hk : ∀ a b, R a b → k a = b) : ∀ {as : List A} {bs : List B}, All2 R as bs → bs.Nodup → ∀ x ∈ as, ∀ y ∈ as, k x = k y → x = y
  | _, _, .nil, _, x, hx, _, _, _ => by cases hx
  | a :: as, b :: bs, .cons h t, nd, x, hx, y, hy, e => by
    have n1 := List.nodup_cons.mp nd
    have kin : ∀ z ∈ as, k z ∈ bs := fun z hz => by
      obtain ⟨i, hi⟩ := List.getElem?_of_mem hz
      obtain ⟨c, h1, h2⟩ := t.get hi
      rw [hk _ _ h2]; exact List.mem_of_getElem? h1
    rcases List.mem_cons.mp hx with ex | hx
    · rcases List.mem_cons.mp hy with ey | hy
      · rw [ex, ey]
      · exact absurd (kin y hy) (by rw [← e, ex, hk _ _ h]; exact n1.1)
    · rcases List.mem_cons.mp hy with ey | hy
      · exact absurd (kin x hx) (by rw [e, ey, hk _ _ h]; exact n1.1)
      · exact all2_inj hk t n1.2 x hx y hy e
theorem all2_mem {A B : Type} {R : A → B → Prop} {as : List A} {bs : List B} (h : All2 R as bs) {x : A} (hx : x ∈ as) : ∃ b ∈ bs, R x b := by
  obtain ⟨i, hi⟩ := List.getElem?_of_mem hx
  obtain ⟨c, h1, h2⟩ := h.get hi
  exact ⟨c, List.mem_of_getElem? h1, h2⟩
open Classical in
/-- sorted(xs), xs a list of pairs whose firsts are different ints -/
theorem cr_sortedK : CallR X (.builtin "sorted") (fun vs H Q => ∃ (a : Addr) (xs : List V) (ns : List Int), vs = [V.ref a] ∧ SqL X.K H a xs ∧ All2 (Kr X.K H) xs ns ∧ ns.Nodup ∧
    ∀ k : V → Int, (∀ x n, Kr X.K H x n → k x = n) → ∀ ys p, ys.Pairwise (fun x y => k x ≤ k y) → ys.Perm xs → H p = none → Q (.ref p) (upd H p (.lst ys))) := by
  intro pins s st H vs us Q I r ⟨a, xs, ns, ex, hs, hx, nd, q⟩
  subst ex
  obtain ⟨ws, rv, hl, hz⟩ := I.list hs
  obtain ⟨u, eu, ru⟩ := vals1 r
  subst eu
  obtain rfl : u = Value.ref a := ru
  let k : V → Int := fun x => if h : ∃ n, Kr X.K H x n then h.choose else 0
  have hk : ∀ x n, Kr X.K H x n → k x = n := fun x n h => by
    have ex : ∃ n, Kr X.K H x n := ⟨n, h⟩
    show (if h : ∃ n, Kr X.K H x n then h.choose else 0) = n
    rw [dif_pos ex]
    obtain ⟨t, y, e1, h1⟩ := ex.choose_spec
    obtain ⟨t2, y2, e2, h2⟩ := h
    rw [e1] at e2
    cases e2
    have := I.tuple_inj h1 h2
    injection this with z _
    injection z
  have inj := all2_inj hk hx nd
  obtain ⟨e1, e2⟩ := refs_back rv fun x m => let ⟨_, _, t, _, e, _⟩ := all2_mem hx m; ⟨t, e⟩
  have mem : ∀ t, Value.ref t ∈ ws → V.ref t ∈ xs := fun t ht => by rw [e1]; exact List.mem_map.mpr ⟨_, ht, rfl⟩
  refine sorted_key (k := fun u => k (backV u)) hl.isList (by rw [← rv.length]; exact hz) (fun v hv => ?_) (fun v hv u hu e => ?_) fun g d out h1 h2 kp hd hn => ?_
  · obtain ⟨t, rfl⟩ := e2 v hv
    obtain ⟨n, _, hr⟩ := all2_mem hx (mem t hv)
    show IsKey s.heap (.ref t) (k (.ref t))
    rw [hk _ _ hr]
    obtain ⟨t2, y, e, ht⟩ := hr
    cases e
    obtain ⟨zs, r2, ⟨o, ho, hc, n, hd⟩, _⟩ := I.tuple ht
    obtain ⟨u1, u2, rfl, ri, rj⟩ := vals2 r2
    obtain ⟨t1, rfl⟩ := ri
    exact ⟨t, o, t1, u2, n, rfl, ho, hc, hd⟩
  · obtain ⟨t, rfl⟩ := e2 v hv
    obtain ⟨t2, rfl⟩ := e2 u hu
    have := inj _ (mem t hv) _ (mem t2 hu) e
    cases this
    rfl
  · have h3 : ∀ u ∈ out, ∃ a, u = Value.ref a := fun u hu => e2 u (h2.mem_iff.mp hu)
    obtain ⟨n, hn⟩ := hn
    have hb : (out.map backV).Perm xs := by rw [e1]; exact h2.map backV
    have J : Inv X pins st (upd H d (.lst (out.map backV))) { s with heap := g } := I.laid (t' := s.toks) kp hd ⟨by rw [hb.length_eq]; exact hz, out, n, vals_back h3, hn⟩
    refine ⟨.ref d, _, J, rfl, q k hk _ d ?_ hb (I.hok.fresh hd)⟩
    refine List.pairwise_map.mpr (h1.imp fun {x y} h => ?_)
    simp only [ltK, decide_eq_false_iff_not] at h
    omega
/-! ### by data -/
def keyD : PyData → Int
  | .tuple (.int i :: _) => i
  | _ => 0
def isKeyD : PyData → Bool
  | .tuple [.int _, _] => true
  | _ => false
def insD (x : PyData) : List PyData → List PyData
  | [] => [x]
  | y :: r => if keyD x ≤ keyD y then x :: y :: r else y :: insD x r
def srtD : List PyData → List PyData
  | [] => []
  | x :: r => insD x (srtD r)
theorem insD_perm (x : PyData) : ∀ l : List PyData, (insD x l).Perm (x :: l)
  | [] => List.Perm.refl _
  | y :: r => by
    unfold insD
    split
    · exact List.Perm.refl _
    · exact ((insD_perm x r).cons y).trans (List.Perm.swap x y r)
theorem srtD_perm : ∀ l : List PyData, (srtD l).Perm l
  | [] => List.Perm.refl _
  | x :: r => (insD_perm x (srtD r)).trans ((srtD_perm r).cons x)
theorem insD_sorted (x : PyData) : ∀ l : List PyData, l.Pairwise (fun a b => keyD a ≤ keyD b) → (insD x l).Pairwise fun a b => keyD a ≤ keyD b
  | [], _ => List.pairwise_singleton _ _
  | y :: r, h => by
    unfold insD
    have hy := List.pairwise_cons.mp h
    split
    · rename_i hx
      refine List.pairwise_cons.mpr ⟨fun z hz => ?_, h⟩
      rcases List.mem_cons.mp hz with rfl | hz
      · exact hx
      · exact Int.le_trans hx (hy.1 z hz)
    · rename_i hx
      refine List.pairwise_cons.mpr ⟨fun z hz => ?_, insD_sorted x r hy.2⟩
      rcases List.mem_cons.mp ((insD_perm x r).mem_iff.mp hz) with rfl | hz
      · omega
      · exact hy.1 z hz
theorem srtD_sorted : ∀ l : List PyData, (srtD l).Pairwise fun a b => keyD a ≤ keyD b
  | [] => List.Pairwise.nil
  | x :: r => insD_sorted x _ (srtD_sorted r)
theorem srtD_one : ∀ {l m : List PyData}, l.Perm m → l.Pairwise (fun a b => keyD a ≤ keyD b) → m.Pairwise (fun a b => keyD a ≤ keyD b) → (l.map keyD).Nodup → l = m
  | [], m, p, _, _, _ => (List.Perm.eq_nil p.symm).symm
  | x :: l, [], p, _, _, _ => absurd p.length_eq (by simp)
  | x :: l, y :: m, p, hl, hm, nd => by
    have h1 := List.pairwise_cons.mp hl
    have h2 := List.pairwise_cons.mp hm
    have n1 := List.nodup_cons.mp nd
    have e : x = y := by
      rcases List.mem_cons.mp (p.mem_iff.mp List.mem_cons_self) with e | e
      · exact e
      · rcases List.mem_cons.mp (p.mem_iff.mpr List.mem_cons_self) with e3 | e3
        · exact e3.symm
        · have a := h2.1 x e
          have b := h1.1 y e3
          exact absurd (List.mem_map.mpr ⟨y, e3, by omega⟩) n1.1
    subst e
    rw [srtD_one p.cons_inv h1.2 h2.2 n1.2]
theorem perm_all2 {A B : Type} {R : A → B → Prop} {l m : List A} (p : l.Perm m) : ∀ {ds : List B}, All2 R m ds → ∃ es, All2 R l es ∧ es.Perm ds := by
  induction p with
  | nil => intro ds h; exact ⟨ds, h, List.Perm.refl _⟩
  | cons x _ ih =>
    intro ds h
    cases h with
    | cons a t =>
      obtain ⟨es, h1, h2⟩ := ih t
      exact ⟨_, .cons a h1, h2.cons _⟩
  | swap x y l =>
    intro ds h
    cases h with
    | cons a t =>
      cases t with
      | cons b t => exact ⟨_, .cons b (.cons a t), List.Perm.swap _ _ _⟩
  | trans _ _ i1 i2 =>
    intro ds h
    obtain ⟨es, h1, h2⟩ := i2 h
    obtain ⟨fs, h3, h4⟩ := i1 h1
    exact ⟨fs, h3, h4.trans h2⟩
abbrev gSortedK : Sl → Mem → RK → Prop := fun r M R => ∃ ss ds, lsOf M r = some ss ∧ datOf ss = some ds ∧ ds.all isKeyD = true ∧ (ds.map keyD).Nodup ∧ R (.d (.list (srtD ds))) M
theorem keyD_at {K : PySem.W.Frag} {F : Hp} {v : V} {d : PyData} (h : Dq K F v d) (e : isKeyD d = true) : ∃ t y, v = .ref t ∧ SqT K F t [.int (keyD d), y] := by
  unfold isKeyD at e
  split at e
  · obtain ⟨p, u, w, rfl, t, hu, hw⟩ := dq_tup2 h
    rw [dq_int hu] at t
    exact ⟨p, w, rfl, t.sq⟩
  · cases e
theorem all2_of_dq {K : PySem.W.Frag} {F : Hp} : ∀ {ds : List PyData} {vs : List V}, DqAll K F vs ds → All2 (fun v d => Dq K F v d) vs ds
  | _, _, .nil => .nil
  | _, _, .cons a t => .cons a (all2_of_dq t)
theorem dq_of_all2 {K : PySem.W.Frag} {F : Hp} : ∀ {ds : List PyData} {vs : List V}, All2 (fun v d => Dq K F v d) vs ds → DqAll K F vs ds
  | _, _, .nil => .nil
  | _, _, .cons a t => .cons a (dq_of_all2 t)
theorem all2_keys {K : PySem.W.Frag} {F H : Hp} (e : Ex F H) : ∀ {ds : List PyData} {vs : List V}, All2 (fun v d => Dq K F v d) vs ds → ds.all isKeyD = true → All2 (Kr K H) vs (ds.map keyD)
  | _, _, .nil, _ => .nil
  | d :: ds, _, .cons a t, h => by
    rw [List.all_cons, Bool.and_eq_true] at h
    obtain ⟨p, y, e1, e2⟩ := keyD_at a h.1
    exact .cons ⟨p, y, e1, Evl.ex_t e e2⟩ (all2_keys e t h.2)
theorem c_sortedK : CaD X (.builtin "sorted") (g1 gSortedK) := ca1 fun F H M v r R Q at0 i1 h1 po => by
  obtain ⟨ss, ds, e1, e2, hk, nd, hR⟩ := h1
  obtain ⟨a, vs, rfl, q1, q2⟩ := lsOf_at at0 i1 e1
  rw [datOf_eq e2] at q2
  have al := all2_of_dq (dqAll_of q2)
  refine ⟨_, cr_sortedK, a, vs, ds.map keyD, rfl, SqL.of q1, all2_keys at0.ex al hk, nd, fun k hkx ys p hs hp hn => ?_⟩
  obtain ⟨es, a1, a2⟩ := perm_all2 hp al
  have ke : es.all isKeyD = true := by
    rw [List.all_eq_true] at hk ⊢
    exact fun x hx => hk x (a2.mem_iff.mp hx)
  have hs2 : es.Pairwise fun a b => keyD a ≤ keyD b := by
    have h3 := all2_keys at0.ex a1 ke
    clear hp a2 al ke hR
    clear hn
    revert hs h3
    induction a1 with
    | nil => intro _ _; exact List.Pairwise.nil
    | @cons v d vs' ds' h t ih =>
      intro hs h3
      cases h3 with
      | cons b1 b2 =>
        have hs := List.pairwise_cons.mp hs
        refine List.pairwise_cons.mpr ⟨fun z hz => ?_, ih hs.2 b2⟩
        obtain ⟨i, hi⟩ := List.getElem?_of_mem hz
        obtain ⟨x, g1, g2⟩ := b2.get' (b := keyD z) (i := i) (by rw [List.getElem?_map, hi]; rfl)
        have := hs.1 x (List.mem_of_getElem? g1)
        rw [hkx _ _ b1, hkx _ _ g2] at this
        exact this
  have e5 : es = srtD ds := srtD_one (a2.trans (srtD_perm ds).symm) hs2 (srtD_sorted ds) ((a2.map keyD).nodup_iff.mpr nd)
  subst e5
  exact po_dat at0 po hn hR fun F' e h => .lst h (dqAll_mono e (dq_of_all2 a1))
end
end DL

set_option Elab.async false
set_option linter.all false
set_option maxRecDepth 100000
set_option maxHeartbeats 4000000
/-! DR: comprehensions over typed lists, over draws; memory. -/
namespace DL
open PySem PySem.Spec L2
section
variable {g : WG} {wt : WT} {we : WE} {C : Mem → Prop} {dl : Env'} {R : List Sl → Mem → Prop} {M : Mem}
/-- nothing changes; an item is kept or not -/
theorem lc_fm {A : Type} (l : List A) (φ : A → Sl) (f : A → Option Sl) (hC : C M) (hz : l.length ≤ sizeLine)
    (h : ∀ a ∈ l, ∀ (k1 : Sl → Mem → Prop) (k0 : Mem → Prop), (∀ y, f a = some y → k1 y M) → (f a = none → k0 M) → g (φ a) dl M fun dl2 M2 => wt dl2 M2 fun k M3 => if k = true then we dl2 M3 k1 else k0 M3)
    (hR : R (l.filterMap f) M) : lcGo g wt we C dl R (l.map φ) [] M := by
  suffices hs : ∀ (l' : List A) (acc : List Sl), (∀ a ∈ l', a ∈ l) → acc.length + l'.length ≤ sizeLine → R (acc ++ l'.filterMap f) M → lcGo g wt we C dl R (l'.map φ) acc M from hs l [] (fun _ h => h) (by simpa using hz) hR
  intro l'
  induction l' with
  | nil => intro acc _ _ h; exact ⟨hC, by simpa using h⟩
  | cons a r ih =>
    intro acc hm hl hr
    rw [List.length_cons] at hl
    refine ⟨hC, h a (hm a List.mem_cons_self) _ _ (fun y hy => ⟨by omega, ih _ (fun b hb => hm b (List.mem_cons_of_mem _ hb)) (by simp; omega) ?_⟩) fun hy => ih _ (fun b hb => hm b (List.mem_cons_of_mem _ hb)) (by omega) ?_⟩
    · rw [List.filterMap_cons_some hy] at hr
      simpa using hr
    · rwa [List.filterMap_cons_none hy] at hr
/-- .. each is kept -/
theorem lc_m {A : Type} (l : List A) (φ f : A → Sl) (hC : C M) (hz : l.length ≤ sizeLine)
    (h : ∀ a ∈ l, ∀ (k1 : Sl → Mem → Prop) (k0 : Mem → Prop), k1 (f a) M → g (φ a) dl M fun dl2 M2 => wt dl2 M2 fun k M3 => if k = true then we dl2 M3 k1 else k0 M3)
    (hR : R (l.map f) M) : lcGo g wt we C dl R (l.map φ) [] M :=
  lc_fm l φ (fun a => some (f a)) hC hz (fun a ha k1 k0 h1 _ => h a ha k1 k0 (h1 _ rfl)) (by simpa [List.filterMap_eq_map'] using hR)
/-- each is made while something changes -/
theorem lc_seq {items : List Sl} (I : Nat → List Sl → Mem → Prop) (hz : items.length ≤ sizeLine) (h0 : I 0 [] M)
    (h : ∀ i x acc M (nx : Sl → Mem → Prop) (k0 : Mem → Prop), items[i]? = some x → acc.length = i → I i acc M → (∀ y M, I (i + 1) (acc ++ [y]) M → nx y M) → C M ∧ g x dl M fun dl2 M2 => wt dl2 M2 fun k M3 => if k = true then we dl2 M3 nx else k0 M3)
    (hR : ∀ acc M, acc.length = items.length → I items.length acc M → C M ∧ R acc M) : lcGo g wt we C dl R items [] M := by
  suffices hs : ∀ (n : Nat) (acc : List Sl) (M : Mem) (i : Nat), i + n = items.length → acc.length = i → I i acc M → lcGo g wt we C dl R (items.drop i) acc M from by simpa using hs items.length [] M 0 (by omega) rfl h0
  intro n
  induction n with
  | zero =>
    intro acc M i hi ha hI
    have e : i = items.length := by omega
    subst e
    rw [List.drop_length]
    exact hR acc M ha hI
  | succ n ih =>
    intro acc M i hi ha hI
    have hlt : i < items.length := by omega
    rw [List.drop_eq_getElem_cons hlt]
    obtain ⟨hc, hg⟩ := h i items[i] acc M (fun y M4 => acc.length < sizeLine ∧ lcGo g wt we C dl R (items.drop (i + 1)) (acc ++ [y]) M4) (lcGo g wt we C dl R (items.drop (i + 1)) acc) (List.getElem?_eq_getElem hlt) ha hI fun y M4 hy => ⟨by omega, ih _ _ _ (by omega) (by simp [ha]) hy⟩
    exact ⟨hc, hg⟩
end
theorem blsOf_map : ∀ bs : List Bool, blsOf ((bs.map PyData.bool).map Sl.d) = some bs
  | [] => rfl
  | b :: r => by rw [List.map_cons, List.map_cons, blsOf, blsOf_map r]; rfl
theorem blsOf_f {A : Type} (l : List A) (f : A → Bool) : blsOf ((l.map fun a => PyData.bool (f a)).map Sl.d) = some (l.map f) := by
  rw [← blsOf_map (l.map f), List.map_map (l := l) (f := f)]; rfl
theorem all_mapid {A : Type} (l : List A) (f : A → Bool) : (l.map f).all id = l.all f := by rw [List.all_map]; rfl
theorem intsOf_mapD (ns : List Int) : intsOf ((ns.map PyData.int).map Sl.d) = some ns := by rw [← mapI]; exact intsOf_map ns
theorem mapD_d {A : Type} (l : List A) (f : A → PyData) : (l.map fun a => Sl.d (f a)) = (l.map f).map Sl.d := by rw [List.map_map]; rfl
theorem zipS_map {A : Type} (l m : List A) (f : A → PyData) : zipS (l.map f) (m.map f) = (l.zip m).map fun p => Sl.w [f p.1, f p.2] := by
  unfold zipS
  rw [List.zip_map, List.map_map]
  rfl
theorem zipS_map2 {A B : Type} (l : List A) (m : List B) (f : A → PyData) (h : B → PyData) : zipS (l.map f) (m.map h) = (l.zip m).map fun p => Sl.w [f p.1, h p.2] := by
  unfold zipS
  rw [List.zip_map, List.map_map]
  rfl
theorem zipD_map2 {A B : Type} (l : List A) (m : List B) (f : A → PyData) (h : B → PyData) : zipD (l.map f) (m.map h) = (l.zip m).map fun p => PyData.tuple [f p.1, h p.2] := by
  unfold zipD
  rw [List.zip_map, List.map_map]
  rfl
theorem atI_map0 {A B : Type} {f : A → B} {x : A} {r : List A} : atI ((x :: r).map f) 0 = some (f x) := atI_nat (i := 0) rfl
theorem atI_map1 {A B : Type} {f : A → B} {x y : A} {r : List A} : atI ((x :: y :: r).map f) 1 = some (f y) := atI_nat (i := 1) rfl
theorem atI_last {A : Type} {l : List A} {x : A} (h : l.getLast? = some x) : atI l (-1) = some x := by
  have hl : l ≠ [] := fun e => by rw [e] at h; cases h
  have h0 : 0 < l.length := List.length_pos_iff.mpr hl
  rw [List.getLast?_eq_getElem?] at h
  unfold atI ixN
  rw [if_neg (by omega), if_pos (by omega)]
  have e : ((l.length : Int) + -1).toNat = l.length - 1 := by omega
  show l[((l.length : Int) + -1).toNat]? = some x
  rw [e]; exact h
theorem map_erase {A B : Type} (f : A → B) : ∀ (l : List A) (i : Nat), (l.map f).eraseIdx i = (l.eraseIdx i).map f
  | [], _ => rfl
  | _ :: _, 0 => rfl
  | a :: r, i + 1 => by rw [List.map_cons, List.eraseIdx_cons_succ, map_erase f r i, List.eraseIdx_cons_succ, List.map_cons]
theorem erase_perm {A : Type} : ∀ {l : List A} {i : Nat} {x : A}, l[i]? = some x → (x :: l.eraseIdx i).Perm l
  | [], _, _, h => by simp at h
  | a :: r, 0, x, h => by simp at h; subst h; exact List.Perm.refl _
  | a :: r, i + 1, x, h => by
    rw [List.eraseIdx_cons_succ]
    exact (List.Perm.swap a x _).trans ((erase_perm (by simpa using h)).cons a)
section
variable {M : Mem} {p : Addr} {ss : List Sl} {ks : KS}
theorem lsOf_m (h : M p = some (.lst ss)) : lsOf M (.v (.ref p)) = some ss := by simp only [lsOf, h]
theorem rlOf_m (h : M p = some (.lst ss)) : rlOf M (.v (.ref p)) = some ss := by simp only [rlOf, lsOf, h]
theorem sqOf_m (h : M p = some (.lst ss)) : sqOf M (.v (.ref p)) = some ss := by simp only [sqOf, rlOf, lsOf, h]
theorem sqOf'_m (h : M p = some (.lst ss)) : sqOf' M (.v (.ref p)) = some ss := by simp only [sqOf', lsOf, h]
theorem tru_l (h : M p = some (.lst ss)) : tru M (.v (.ref p)) = some (!ss.isEmpty) := by simp only [tru, h]
theorem tru_d (h : M p = some (.dic ks)) : tru M (.v (.ref p)) = some (!ks.isEmpty) := by simp only [tru, h]
end
/-! ### memory: what stays -/
/-- all but some of it stays -/
def Kp (ex : List Addr) (M M' : Mem) : Prop := ∀ a o, a ∉ ex → M a = some o → M' a = some o
theorem Kp.refl (ex : List Addr) (M : Mem) : Kp ex M M := fun _ _ _ h => h
theorem Kp.trans {ex : List Addr} {M M1 M2 : Mem} (a : Kp ex M M1) (b : Kp ex M1 M2) : Kp ex M M2 := fun x o h e => b x o h (a x o h e)
theorem Kp.up {ex : List Addr} {M M' : Mem} {p : Addr} {o : MO} (h : Kp ex M M') (hp : p ∈ ex) : Kp ex M (upM M' p o) := fun a u ha e => by
  rw [upM_ne (fun z : a = p => ha (by rw [z]; exact hp))]; exact h a u ha e
theorem Kp.new {ex : List Addr} {M M' : Mem} {p : Addr} {o : MO} (h : Kp ex M M') (hp : M' p = none) : Kp ex M (upM M' p o) := fun a u ha e => by
  have := h a u ha e
  rw [upM_ne (neM this hp)]; exact this
theorem Kp.upN {ex : List Addr} {M M' : Mem} {p : Addr} {o : MO} (h : Kp ex M M') (hp : M p = none) : Kp ex M (upM M' p o) := fun a u ha e => by
  rw [upM_ne (neM e hp)]; exact h a u ha e
theorem Kp.le {ex : List Addr} {M M1 M2 : Mem} (h : Kp ex M M1) (l : Le M1 M2) : Kp ex M M2 := fun a u ha e => l a u (h a u ha e)
theorem Kp.mono {ex ex2 : List Addr} {M M' : Mem} (h : Kp ex M M') (s : ∀ a, a ∈ ex → a ∈ ex2) : Kp ex2 M M' := fun a u ha e => h a u (fun z => ha (s a z)) e
/-- what is wished for at a memory, from a wider one -/
theorem le1 {M M' : Mem} {a : Addr} {o : MO} (h : M' a = some o) (k : Kp [a] M M') : Le (upM M a o) M' := fun c u e => by
  by_cases hc : c = a
  · subst hc; rw [upM_same] at e; cases e; exact h
  · rw [upM_ne hc] at e; exact k c u (by simpa using hc) e
theorem le2 {M M' : Mem} {a b : Addr} {o u : MO} (ha : M' a = some o) (hb : M' b = some u) (k : Kp [a, b] M M') : Le (upM (upM M a o) b u) M' := fun c x e => by
  by_cases hc : c = b
  · subst hc; rw [upM_same] at e; cases e; exact hb
  · rw [upM_ne hc] at e
    by_cases hd : c = a
    · subst hd; rw [upM_same] at e; cases e; exact ha
    · rw [upM_ne hd] at e; exact k c x (by simp [hc, hd]) e
theorem le3 {M M' : Mem} {a b d : Addr} {o u v : MO} (ha : M' a = some o) (hb : M' b = some u) (hd : M' d = some v) (k : Kp [a, b, d] M M') : Le (upM (upM (upM M a o) b u) d v) M' := fun c x e => by
  by_cases h1 : c = d
  · subst h1; rw [upM_same] at e; cases e; exact hd
  · rw [upM_ne h1] at e
    by_cases h2 : c = b
    · subst h2; rw [upM_same] at e; cases e; exact hb
    · rw [upM_ne h2] at e
      by_cases h3 : c = a
      · subst h3; rw [upM_same] at e; cases e; exact ha
      · rw [upM_ne h3] at e; exact k c x (by simp [h1, h2, h3]) e
end DL

set_option Elab.async false
set_option linter.all false
namespace DL
open PySem PySem.Spec L2
theorem nx_go {P : PK} {dl : Env'} {M : Mem} (h : P.nx dl M) : wNext P dl M := h
/-- an expression's ways come together -/
theorem we_cut {w : WE} {dl : Env'} {M : Mem} {R : RK} (Q : Sl → Mem → Prop) (h2 : ∀ r M, Q r M → R r M) (h1 : ∀ R' : RK, (∀ r M, Q r M → R' r M) → w dl M R') : w dl M R := h1 _ h2
end DL
namespace DL
open PySem PySem.Spec L2
/-! ### keywords in another order -/
def pmId {A : Type} (l : List A) : List A := l
def pmSwap {A : Type} : List A → List A
  | [x, y] => [y, x]
  | _ => []
theorem pmId_p {A B : Type} (R : A → B → Prop) (as : List A) (bs : List B) (h : Paired R as bs) : Paired R (pmId as) (pmId bs) := h
theorem pmId_a {A B : Type} (R : A → B → Prop) (as : List A) (bs : List B) (h : All2 R as bs) : All2 R (pmId as) (pmId bs) := h
theorem pmSwap_p {A B : Type} (R : A → B → Prop) (as : List A) (bs : List B) (h : Paired R as bs) : Paired R (pmSwap as) (pmSwap bs) := by
  cases h with
  | nil => exact .nil
  | cons a t =>
    cases t with
    | nil => exact .nil
    | cons b t =>
      cases t with
      | nil => exact .cons b (.cons a .nil)
      | cons c t => exact .nil
theorem pmSwap_a {A B : Type} (R : A → B → Prop) (as : List A) (bs : List B) (h : All2 R as bs) : All2 R (pmSwap as) (pmSwap bs) := by
  cases h with
  | nil => exact .nil
  | cons a t =>
    cases t with
    | nil => exact .nil
    | cons b t =>
      cases t with
      | nil => exact .cons b (.cons a .nil)
      | cons c t => exact .nil
end DL

set_option Elab.async false
set_option linter.all false
set_option maxRecDepth 100000
set_option maxHeartbeats 4000000
/-! DT: the end of a law row, from a def's promise by data. -/
namespace DL
open PySem PySem.Spec PyProof.Rows L2
open Evl (Ex)
theorem at_none {K : PySem.W.Frag} (G : Hp) : At K G (fun _ => none) G := ⟨Ex.refl G, fun a o e => by cases e⟩
/-- what the call of the law's def does, from a heap in which the script alone may be tracked -/
theorem law_core {P : Program} {w : World} {K : PySem.W.Frag} {mg mb : Str → Option Value} {lv : Nat} {fn ad : Addr} {fd : FuncData} {x : Str} {cn : Cn} {s : Shared} {us : List Value} {ns : List Int} (G : Hp)
    (kin : K.In s.heap) (g1 : s.heap.Ns mainGlobals mg) (g2 : s.heap.Ns builtinsNs mb) (g3 : ∀ y : Str, y ≠ "__name__" → mb y = bootBuiltins y) (g4 : s.heap.NoLimit) (g5 : s.gens = #[]) (scr : s.heap.get? ad = some { cls := .type "list", data := .seq us.toArray })
    (room : Room lv callerA) (F : ∀ base : Heap, FnD P w K mg base lv fn fd [x] cn) (bnd : ∀ (s : Shared) (u : Value), BindsTo s fd ⟨[u], []⟩ [(x, u)]) (prm : cn [.r ns] (fun _ => none) fun r _ => r = .b true)
    (only : ∀ b, G b = none ∨ ∃ o l, G b = some (.frz o (.lst l))) (sq : SqL K G ad (ns.map V.int)) (hok : HOk P w G s.heap) (one : ∀ b, G b ≠ none → b = ad) (off : G ad ≠ none → K.lookup ad = none) :
    codeAny (model P w) callerA (.call (.ref fn) ⟨[.ref ad], []⟩) (fun r t => r = .ok (.ret (.bool true)) ∧ OldK s.heap t.heap ∧ t.os = s.os ∧ AllBare t.gens) s := by
  have there : ∀ {c : Addr} {o : Obj}, s.heap.get? c = some o → G c = none → (hidT s.heap G).get? c = some o := fun e n => hidT_get e n
  have untracked : ∀ {c : Addr} {o : Obj} {es : Array DictEntry} {ep : Nat}, s.heap.get? c = some o → o.data = .dict es ep → G c = none := fun {c o es ep} e d => by
    cases q : G c with
    | none => rfl
    | some u =>
      obtain rfl := one c (by rw [q]; exact fun z => nomatch z)
      rw [scr] at e
      cases e
      exact nomatch (show Data.seq us.toArray _ = Data.dict es ep from d)
  have ns_of : ∀ {c : Addr} {f : Str → Option Value}, s.heap.Ns c f → (hidT s.heap G).Ns c f := fun ⟨o, es, ep, e, d, r⟩ => ⟨o, es, ep, there e (untracked e d), d, r⟩
  have kb : K.In (hidT s.heap G) := fun c o e => there (kin c o e) (by
    cases q : G c with
    | none => rfl
    | some u =>
      have n : G c ≠ none := by rw [q]; exact fun z => nomatch z
      obtain rfl := one c n
      rw [off n] at e
      cases e)
  have lim : (hidT s.heap G).NoLimit := let ⟨mc, h1, h2⟩ := g4; ⟨mc, ns_of h1, h2⟩
  have env : Env0 P w K mg (hidT s.heap G) callerA [] s G := ⟨rfl, ⟨kb, ns_of g1, ⟨mb, ns_of g2, g3⟩, lim⟩, fun c o e => of_hidT e, Nat.le_of_eq (hidT_size _ _), trivial, fun c hc => (List.not_mem_nil (a := c) hc).elim, hok, .of_eq g5⟩
  have wish : spD K cn [.ref ad] G (fun v _ => v = .bl true) := ⟨G, fun _ => none, [.r ns], fun r _ => r = .b true, .cons ⟨ad, rfl, sq⟩ .nil, at_none G, prm, fun v F' H' r M' e _ i => by subst e; exact dq_bl i⟩
  refine codeAny_mono ((F _).run callerA [] s G ⟨[.ref ad], []⟩ [.ref ad] [.ref ad] _ rfl room env (bnd s (.ref ad)) (.cons rfl .nil) wish) fun r t h => ?_
  cases r with
  | error e => exact False.elim h
  | ok fl =>
    cases fl with
    | next => exact False.elim h
    | brk => exact False.elim h
    | cont => exact False.elim h
    | ret u =>
      obtain ⟨v, G', os, bare, un, hok', rel, q⟩ := h
      obtain rfl : v = .bl true := q
      obtain rfl : u = Value.bool true := rel
      refine ⟨rfl, OldK.of_keep fun c o e => ?_, os, bare⟩
      rcases only c with z | ⟨ob, l, z⟩
      · exact un.keep c o e z (fun q => (List.not_mem_nil (a := c) q).elim) (by simp)
      · have e1 := (hok c _ z).1
        have e2 := (hok' c _ (un.frzs c ob _ z)).1
        rw [e] at e1
        cases e1
        exact e2
theorem law_end {l : PySem.W.OpenLaw} {n lv : Nat} {q : Program} {loose : List Str} {XP : (Str → Option Value) → Heap → Prop} {YP : World → Heap → Prop} {d : DefRec} {K : Params → PySem.W.Frag} {cn : Cn} {x : Str}
    (most : l.most = some n) (few : n ≤ sizeLine) (nodef : d.params.defaults = []) (room : Room lv callerA) (hY : ∀ (w : World) (h : Heap), YP w h → (K w.params).In h)
    (F : ∀ (w : World) (mg : Str → Option Value) (fa : Addr) (h : Heap), (K w.params).In h → h.Ns mainGlobals mg → mg d.name = some (.ref fa) → ∃ fd : FuncData, (∀ (s : Shared) (u : Value), BindsTo s fd ⟨[u], []⟩ [(x, u)]) ∧ ∀ base : Heap, FnD l.prog w (K w.params) mg base lv fa fd [x] cn)
    (prm : ∀ ns : List Int, ns.length ≤ n → cn [.r ns] (fun _ => none) fun r _ => r = .b true) : PySem.W.WalkO q loose XP YP l.row.toRowW d [] (fun f vs => PySem.call f vs) := by
  refine Att.attach_call most nodef fun w s0 s mg mb fa o pm cd doc ad us ns G Y ho hd hcd hmg scr inl len g5 => ?_
  obtain ⟨fd, bnd, hF⟩ := F w mg fa _ (hY w _ Y) G.T.g hmg
  have rv := vals_ints inl
  have lu := inl.length
  have core := fun H => law_core (P := l.prog) (w := w) (us := us) (ns := ns) H (hY w _ Y) G.T.g G.T.b G.T.builtins G.T.nolimit g5 scr room hF bnd (prm ns len)
  cases e : (K w.params).lookup ad with
  | some ob =>
    have e2 := hY w _ Y ad ob e
    rw [scr] at e2
    cases e2
    refine core (fun _ => none) (fun _ => .inl rfl) (.inr ⟨_, us.toArray, _, e, rfl, rfl, rfl, ?_, by simpa using rv⟩) (fun c u z => nomatch (show (none : Option HO) = some u from z)) (fun c z => absurd rfl z) fun z => absurd rfl z
    rw [List.size_toArray, lu]; omega
  | none =>
    let H : Hp := fun c => if c = ad then some (.frz { cls := .type "list", data := .seq us.toArray } (.lst (ns.map V.int))) else none
    have at1 : H ad = some (.frz { cls := .type "list", data := .seq us.toArray } (.lst (ns.map V.int))) := if_pos rfl
    have at2 : ∀ c, c ≠ ad → H c = none := fun c hc => if_neg hc
    refine core H (fun c => ?_) (.inl (.inr ⟨_, at1⟩)) (fun c u z => ?_) (fun c z => ?_) fun _ => e
    · by_cases hc : c = ad
      · subst hc; exact .inr ⟨_, _, at1⟩
      · exact .inl (at2 c hc)
    · by_cases hc : c = ad
      · subst hc
        rw [at1] at z
        cases z
        exact ⟨scr, by rw [List.length_map]; omega, us, _, rv, scr⟩
      · rw [at2 c hc] at z; cases z
    · by_cases hc : c = ad
      · exact hc
      · exact absurd (at2 c hc) z
end DL
namespace DL
open PySem PySem.Spec L2
/-- a def of the top -/
def DefAt (K : PySem.W.Frag) (mg : Str → Option Value) (x : Str) (st : Stmt) : Prop := ∃ f fd, mg x = some (.ref f) ∧ Fun K x x st f fd
theorem def_mk {K : PySem.W.Frag} {h : Heap} {mg : Str → Option Value} {x : Str} {st : Stmt} {f : Addr} {od an : Option Addr} {sl : Array (Option Value)} {oc kV doc pm cd ct : Value} (X : K.In h) (G : h.Ns mainGlobals mg)
    (a : PySem.W.nsIn K mainGlobals x = some (some (.ref f))) (l : K.lookup f = some ⟨oc, od, .func (PySem.W.fnOf x x (defArgs st) (defBody st) (defScope st) .none kV doc pm an cd ct), sl⟩) (c : PySem.W.codeIn K cd x = true) (k : PySem.W.keepIn K (.ref f) = true) : DefAt K mg x st :=
  ⟨f, _, PySem.W.mg_of X G a, fun_mk (st := st) l c k⟩
theorem const_mk {K : PySem.W.Frag} {h : Heap} {mg : Str → Option Value} {x : Str} {v : Value} (X : K.In h) (G : h.Ns mainGlobals mg) (a : PySem.W.nsIn K mainGlobals x = some (some v)) : mg x = some v := PySem.W.mg_of X G a
end DL
namespace DL
open PySem PySem.Spec L2
theorem gd_mk {K : PySem.W.Frag} {h : Heap} {mg : Str → Option Value} {x : Str} {f : Addr} {n : Nat} {sl : Array (Option Value)} {ws : Array Value} (ss : List Str) (X : K.In h) (G : h.Ns mainGlobals mg) (a : PySem.W.nsIn K mainGlobals x = some (some (.ref f))) (l : K.lookup f = some ⟨.type "tuple", none, .seq ws n, sl⟩)
    (v : Vals (ss.map V.str) ws.toList) (c : ws.size ≤ sizeLine) : GD K mg x (.tuple (ss.map PyData.str)) := gd_strs ss (PySem.W.mg_of X G a) l v c
end DL

set_option Elab.async false
set_option linter.all false
set_option maxRecDepth 100000
set_option maxHeartbeats 4000000
/-! DU: -a, a, b, c = x, y, z, + of data by shapes, tuple(..), [..] * k of data. -/
namespace DL
open PySem PySem.Spec L2
open Evl (Ex)
section
variable {X : Cx} {a b c : Expr} {wa wb wc : WE} {pos : Pos}
abbrev wNeg (wa : WE) : WE := fun dl M R => wa dl M fun r M1 => match r with
  | .d (.int i) => R (.i (-i)) M1
  | _ => False
theorem pd_neg (ha : PD X a wa) : PD X (.UnaryOp .USub a pos) (wNeg wa) := by
  refine pe_imp (pe_un un_neg ha) fun st H Q ⟨F, dl, M, R, so, at0, hw, po⟩ => ?_
  refine tD_to so at0 hw fun x F1 H1 r M1 h1 g1 so1 at1 i1 => ?_
  split at h1
  · exact ⟨_, dq_int i1, po _ F1 H1 _ M1 h1 g1 (.int _)⟩
  · exact h1.elim
abbrev wPar3 (i j l : Nat) (wa : WA) : WS := fun P dl M => wa dl M fun rs M1 => match rs with
  | [r, q, t] => P.nx (((dl.set i (some r)).set j (some q)).set l (some t)) M1
  | _ => False
theorem isAll3 {K : PySem.W.Frag} {F : Hp} {r q t : Sl} {vs : List V} (h : IsAll K F [r, q, t] vs) : ∃ v u w, vs = [v, u, w] ∧ Is K F r v ∧ Is K F q u ∧ Is K F t w := by
  cases h with
  | cons h k => obtain ⟨u, w, rfl, h2, h3⟩ := isAll2 k; exact ⟨_, _, _, rfl, h, h2, h3⟩
theorem pds_par3 (i j l : Nat) {x y z : Str} {wa : WA} {px py pz pt : Pos} {kt k2 pt2} (hc : X.calm = true) (hN : X.N.Nodup) (hij : i ≠ j) (hil : i ≠ l) (hjl : j ≠ l) (ha : PDA X [a, b, c] wa) (hi : X.N[i]? = some x := by rfl) (hj : X.N[j]? = some y := by rfl) (hl : X.N[l]? = some z := by rfl)
    (hx : X.env.scope.names.lookup x = some .local := by rfl) (hy : X.env.scope.names.lookup y = some .local := by rfl) (hz : X.env.scope.names.lookup z = some .local := by rfl)
    (hw : swappedStores [.Tuple [.Name x px, .Name y py, .Name z pz] kt pt] (.Tuple [a, b, c] k2 pt2) X.env = pure (some [x, y, z]) := by rfl)
    (hs : swapsWithSole [.Tuple [.Name x px, .Name y py, .Name z pz] kt pt] (.Tuple [a, b, c] k2 pt2) pos.line X.env = pure false := by rfl) : PDS X (.Assign [.Tuple [.Name x px, .Name y py, .Name z pz] kt pt] (.Tuple [a, b, c] k2 pt2) pos) (wPar3 i j l wa) :=
  ps_imp (ps_par3 hc hN hi hj hl hij hil hjl hx hy hz ha hw hs) fun D st H ⟨F, dl, M, P, so, at0, hw, po⟩ =>
    tDA_to so at0 hw fun vs F1 H1 rs M1 h1 g1 so1 at1 i1 => by
      split at h1
      · obtain ⟨v, u, t, rfl, q1, q2, q3⟩ := isAll3 i1
        exact ⟨v, u, t, rfl, po.nx _ F1 H1 _ M1 h1 g1 (sok_set (sok_set (sok_set so1 q1) q2) q3)⟩
      · exact h1.elim
/-- + by shapes, data lists at once -/
abbrev gPlusD : W2 := fun p q M R => match p, q with
  | .d (.int i), .d (.int j) => R (.i (i + j)) M
  | .d (.tuple xs), .d (.tuple ys) => xs.length + ys.length ≤ sizeLine ∧ R (.d (.tuple (xs ++ ys))) M
  | .d (.list xs), .d (.list ys) => xs.length + ys.length ≤ sizeLine ∧ R (.d (.list (xs ++ ys))) M
  | p, q => gCat p q M R
theorem o_plusD : OpD X (binaryOp .Add) gPlusD := opD_of fun F H M x y p q R Q at0 h1 h2 h3 po => by
  obtain ⟨r, ho, hr⟩ := o_plus (X := X)
  unfold gPlusD at h3
  split at h3
  · exact ⟨r, ho, hr F H M x y _ _ R Q at0 h1 h2 h3 po⟩
  · exact ⟨r, ho, hr F H M x y _ _ R Q at0 h1 h2 h3 po⟩
  · refine ⟨r, ho, hr F H M x y _ _ R Q at0 h1 h2 ?_ po⟩
    show gCat _ _ M R
    exact ⟨_, _, _, rfl, rfl, (congrArg datOf (List.map_append (f := Sl.d)).symm).trans (datOf_map _), by simpa using h3.1, h3.2⟩
  · obtain ⟨r, ho, hr⟩ := o_cat (X := X)
    exact ⟨r, ho, hr F H M x y _ _ R Q at0 h1 h2 h3 po⟩
end
end DL

set_option Elab.async false
set_option linter.all false
set_option maxRecDepth 100000
set_option maxHeartbeats 4000000
namespace DL
open PySem PySem.Spec L2
open Evl (Ex)
/-! ### what memory reads as, now -/
mutual
inductive RdM (M : Mem) : Sl → PyData → Prop
  | d {x : PyData} : RdM M (.d x) x
  | lst {p : Addr} {ss : List Sl} {ds : List PyData} : M p = some (.lst ss) → RdMs M ss ds → RdM M (.v (.ref p)) (.list ds)
inductive RdMs (M : Mem) : List Sl → List PyData → Prop
  | nil : RdMs M [] []
  | cons {r : Sl} {rs : List Sl} {d : PyData} {ds : List PyData} : RdM M r d → RdMs M rs ds → RdMs M (r :: rs) (d :: ds)
end
mutual
theorem rd_dp {K : PySem.W.Frag} {F H : Hp} {M : Mem} (at0 : At K F M H) : ∀ {r : Sl} {d : PyData} {v : V}, RdM M r d → Is K F r v → Dp K H v d
  | _, _, _, .d, i => dq_up at0.ex i
  | _, _, v, .lst (p := p) (ss := ss) m h, i => by
    have e : v = .ref p := i
    subst e
    obtain ⟨_, vs, h1, h2⟩ := at0.mem p _ m
    exact .lst (SqL.of h1) (rds_dp at0 h h2)
theorem rds_dp {K : PySem.W.Frag} {F H : Hp} {M : Mem} (at0 : At K F M H) : ∀ {rs : List Sl} {ds : List PyData} {vs : List V}, RdMs M rs ds → IsAll K F rs vs → DpAll K H vs ds
  | _, _, _, .nil, .nil => .nil
  | _, _, _, .cons h t, .cons i j => .cons (rd_dp at0 h i) (rds_dp at0 t j)
end
theorem rdm_map {M : Mem} : ∀ ds : List PyData, RdMs M (ds.map Sl.d) ds
  | [] => .nil
  | _ :: r => .cons .d (rdm_map r)
section
variable {X : Cx}
/-- repr of what may still change -/
abbrev gReprM : Sl → Mem → RK → Prop := fun r M R => ∃ x, RdM M r x ∧ Shw x ∧ R (.s x.shown) M
theorem c_reprM (hgd : X.A.guards = some []) (hu : X.A.units + 64 < cLine) : CaD X (.builtin "repr") (g1 gReprM) := ca1 fun F H M v r R Q at0 i1 h1 po => by
  obtain ⟨x, hx, ⟨a, b, c, d⟩, hR⟩ := h1
  exact ⟨_, call_reprD hgd hu, v, _, rfl, rd_dp at0 hx i1, a, b, c, d, po _ F H _ M hR (Go.refl at0) (.str _)⟩
/-! ### xs.extend(ys) -/
abbrev gExtend : Sl → List Sl → Mem → RK → Prop := fun r rs M R => match r, rs with
  | .v (.ref p), [.d (.list ds)] => ∃ ss, M p = some (.lst ss) ∧ ss.length + ds.length ≤ sizeLine ∧ R .n (upM M p (.lst (ss ++ ds.map Sl.d)))
  | .v (.ref p), [.v (.ref q)] => ∃ ss ts, M p = some (.lst ss) ∧ M q = some (.lst ts) ∧ ss.length + ts.length ≤ sizeLine ∧ R .n (upM M p (.lst (ss ++ ts)))
  | _, _ => False
variable {o e : Expr} {wo : WE} {wa : WA} {apos cpos : Pos}
theorem pd_extend (ho : PD X o wo) (ha : PDA X [e] wa) (hbase : attributeBase o "extend" X.env (eval o X.env) = eval o X.env := by rfl)
    (hfew : ((backTo cpos (starEach [e] X.env)).all (fun x => !x.1) && (backToKw cpos (keywordEach [] X.env)).all (fun x => x.1.isSome) && decide ([e].length + ([] : List Keyword).length + (if ([] : List Keyword).isEmpty then 0 else 1) < 30)) = true := by rfl)
    (hline : (apos.endLine == cpos.line) = true := by rfl) (hs : starEach [e] X.env = (false, eval e X.env) :: starEach [] X.env := by rfl) : PD X (.Call (.Attribute o "extend" apos) [e] [] cpos) (wLMeth gExtend wo wa) := by
  refine pe_imp (pe_bm PySem.F.plainAttrs_list PySem.F.slot_list_extend PySem.F.type_list_extend mt_extend ho ha hbase hfew hline hs rfl) fun st H Q h => tBM_of (fun F H M v vs x rs R Q at0 i1 i2 hg po => ?_) h
  unfold gExtend at hg
  split at hg
  · rename_i p ds
    obtain ⟨ss, m, hz, hR⟩ := hg
    obtain ⟨u, rfl, i3⟩ := isAll1 i2
    have i4 : v = .ref p := i1
    subst i4
    obtain ⟨f, us, q1, q2⟩ := at0.mem p _ m
    cases i3 with
    | @lst ad ws _ h1 h2 =>
      have al : IsAll X.K F (ds.map Sl.d) ws := isAll_d h2
      refine ⟨p, ad, us, ws, rfl, rfl, q1, at0.ex _ _ h1, ?_, po _ F _ _ _ hR (Go.put at0 m ⟨_, upd_same, q2.append al⟩) .non⟩
      have l1 := q2.length
      have l2 := al.length
      rw [List.length_map] at l2
      rw [← l1, ← l2]; exact hz
  · rename_i p q
    obtain ⟨ss, ts, m, n, hz, hR⟩ := hg
    obtain ⟨u, rfl, i3⟩ := isAll1 i2
    have i4 : v = .ref p := i1
    subst i4
    have i5 : u = .ref q := i3
    subst i5
    obtain ⟨f, us, q1, q2⟩ := at0.mem p _ m
    obtain ⟨f2, ws, q3, q4⟩ := at0.mem q _ n
    refine ⟨p, q, us, ws, rfl, rfl, q1, q3, ?_, po _ F _ _ _ hR (Go.put at0 m ⟨_, upd_same, q2.append q4⟩) .non⟩
    rw [← q2.length, ← q4.length]; exact hz
  · exact hg.elim
end
end DL

set_option Elab.async false
set_option linter.all false
set_option maxRecDepth 100000
set_option maxHeartbeats 4000000
namespace DL
open PySem PySem.Spec L2 PyProof.Rows
open Evl (Ex)
section
variable {X : Cx}
/-! ### sorted(d), however many keys -/
theorem cr_sortedDA (hc : X.calm = true) : CallR X (.builtin "sorted") (fun args H Q => ∃ (d : Addr) (kvs : List (Key × V)) (ns : List Int), args = [V.ref d] ∧ Rd H d (.dK kvs) ∧ kvs.map (·.1) = ns.map Sum.inl ∧
    ∀ (out : List Int) (p : Addr), out.Perm ns → out.Pairwise (· ≤ ·) → H p = none → Q (.ref p) (upd H p (.lst (out.map V.int)))) := by
  intro pins s st H args us Q I r ⟨d, kvs, ns, ea, hd, hn, post⟩
  subst ea
  obtain ⟨w1, e1, r1⟩ := vals1 r
  subst e1
  cases r1
  obtain ⟨hz, hlo, ents, hrel, hdict⟩ := dk_rd I.hok hd
  obtain ⟨ep, hat⟩ := hdict.dictAt
  have hkn : ents.map (·.1) = ns.map Sum.inl := hrel.keys.symm.trans hn
  have len1 : ents.length = ns.length := by simpa using congrArg List.length hkn
  have len2 : kvs.length = ns.length := by simpa using congrArg List.length hn
  have hz2 : ents.length ≤ sizeLine := by omega
  refine Calls.call_function_entry PyProof.Rows.kind_sorted PyProof.Rows.plain_sorted PyProof.Rows.entry_sorted (PyProof.Rows.args_sorted1 _) ?_
  unfold Builtin.«sorted»
  refine wpAny_bind (m := checkCount "sorted" 1 1 _) (wpAny_pure ?_)
  refine wpAny_bind (PySem.W.kdu_collect (A := X.A.in1) (PySem.W.kdl_dict (knd := mixKind X.prog X.w) (kvs := ents) (ep := ep) hlo) (I.ok.hd hc) hat hz2 fun g tk acc hk hacc => ?_)
  have hal : acc.toList.length = ns.length := by rw [Array.length_toList, hacc.1, len1]
  have hints : IntsAre acc.toList ns := ints_each hal fun j v ev => by
    obtain ⟨key, x, ek, kx⟩ := hacc.2 j v (by rw [← Array.getElem?_toList]; exact ev)
    have em : (ents.map (·.1))[j]? = some key := by rw [List.getElem?_map, ek]; rfl
    rw [hkn, List.getElem?_map] at em
    cases en : ns[j]? with
    | none => rw [en] at em; cases em
    | some n =>
      rw [en] at em
      have eq : Sum.inl n = key := Option.some.inj em
      subst eq
      rcases keyIs_shape (show keyIs (Sum.inl n) v = true from kx) with ⟨i, t, ei, et⟩ | ⟨i, t, ei, et⟩
      · cases ei
        exact ⟨n, t, rfl, et⟩
      · cases ei
  have I1 : Inv X pins st H { s with heap := g, toks := tk } := I.kept hk
  refine wpAny_bind (wpAny_newList ?_ (by rw [hal]; omega))
  have hat2 : (g.push (seqObj "list" acc.toList.toArray 0)).get? g.objs.size = some (seqObj "list" acc.toList.toArray 0) := Heap.get?_push_size _ rfl
  show wpAny _ _ _ _ _ { s with heap := g.push (seqObj "list" acc.toList.toArray 0), toks := tk }
  refine wpAny_bind (wpAny_holding (wpAny_call_entry slot_list_sort ⟨_, hat2, rfl⟩ entry_list_sort
    (SrtO.list_sort_ord (s := { s with heap := g.push (seqObj "list" acc.toList.toArray 0), toks := tk }) SrtO.swo_int hat2 (by rw [hal]; omega) (fun two => SrtO.ints_sortable hints two) fun out o1 o2 => ⟨_, rfl, ?_⟩) (args_list_sort _)))
  obtain ⟨k1, k2, k3⟩ := SrtO.ints_out hints o1 o2
  obtain ⟨ep2, hend⟩ := sortedHeap_at (vs := acc.toList) (out := out.toArray) hat2
  have lout : ((out.map SrtO.iv).map V.int).length ≤ sizeLine := by
    rw [List.length_map, k2.length_eq]; omega
  refine wpAny_pure ⟨_, rfl, .ref g.objs.size, upd H g.objs.size (.lst ((out.map SrtO.iv).map V.int)), I1.laid (t' := tk) (fun b u eb => ?_) (Nat.le_refl _)
    (show ObjOk X.prog X.w _ _ _ (.lst ((out.map SrtO.iv).map V.int)) from ⟨lout, out, ep2, vals_of_ints k1, hend⟩), rfl, post _ _ k2 k3 (I1.hok.fresh (Nat.le_refl _))⟩
  have lt : b < g.objs.size := Heap.lt_size eb
  rw [sortedHeap_old (Nat.ne_of_lt lt) (by rw [size_push']; exact Nat.lt_succ_of_lt lt)]
  exact Heap.get?_push_of_some _ eb
abbrev gSortedDA : Sl → Mem → RK → Prop := fun r M R => match r with
  | .v (.ref a) => ∃ ks ns, M a = some (.dic ks) ∧ keysI ks = some ns ∧ R (.d (.list ((srtI ns).map PyData.int))) M
  | _ => False
theorem c_sortedDA (hc : X.calm = true) : CaD X (.builtin "sorted") (g1 gSortedDA) := ca1 fun F H M v r R Q at0 i1 h1 po => by
  unfold gSortedDA at h1
  split at h1
  · rename_i ad
    obtain ⟨ks, ns, m, e, hR⟩ := h1
    have ex : v = .ref ad := i1
    subst ex
    obtain ⟨_, kvs, q1, q2⟩ := at0.mem ad _ m
    refine ⟨_, cr_sortedDA hc, ad, kvs, ns, rfl, .inl q1, keysI_at q2 e, fun ys p hp hs hn => ?_⟩
    have e4 := sorted_one (hp.trans (srtI_perm ns).symm) hs (srtI_sorted ns)
    subst e4
    exact po_dat at0 po hn hR fun F' e h => .lst h (dqAll_ints _)
  · exact h1.elim
end
end DL

set_option Elab.async false
set_option linter.all false
set_option maxRecDepth 100000
set_option maxHeartbeats 4000000
namespace DL
open PySem PySem.Spec L2
open Evl (Ex)
section
variable {X : Cx}
/-! ### a dict that is walked stays as it is -/
abbrev wLock (w : WS) : WS := fun P dl M => ∃ p ks, M p = some (.dic ks) ∧ ∀ od kvs, w ⟨fun dl' M' => M' p = some (.lok od kvs ks) ∧ P.nx dl' (upM M' p (.dic ks)), fun r M' => M' p = some (.lok od kvs ks) ∧ P.rt r (upM M' p (.dic ks)), fun dl' M' => M' p = some (.lok od kvs ks) ∧ P.bk dl' (upM M' p (.dic ks)), fun dl' M' => M' p = some (.lok od kvs ks) ∧ P.ct dl' (upM M' p (.dic ks))⟩ dl (upM M p (.lok od kvs ks))
theorem lock_back {K : PySem.W.Frag} {F H F' H' : Hp} {M M' : Mem} {p : Addr} {od : Obj} {kvs : List (Key × V)} {ks : KS} (at0 : At K F M H) (m : M p = some (.dic ks)) (q1 : H p = some (.dK kvs)) (q2 : All2 (KIs K F) ks kvs)
    (g : Go K F (upM M p (.lok od kvs ks)) (upd H p (.frz od (.dK kvs))) F' M' H') (m' : M' p = some (.lok od kvs ks)) : H' p = some (.frz od (.dK kvs)) ∧ Go K F M H F' (upM M' p (.dic ks)) (upd H' p (.dK kvs)) := by
  obtain ⟨f, h1, h2⟩ := g.at'.mem p _ m'
  exact ⟨h1, ((Go.put (o := .lok od kvs ks) at0 m ⟨upd_same, q2⟩).trans g).trans (Go.put g.at' m' ⟨kvs, upd_same, h2⟩)⟩
theorem pds_lock {st : Stmt} {w : WS} (h : PDS X st w) : PDS X st (wLock w) := ps_imp (ps_lock h) fun D σ H ⟨F, dl, M, P, so, at0, ⟨p, ks, m, hw⟩, po⟩ => by
  obtain ⟨hF, kvs, q1, q2⟩ := at0.mem p _ m
  refine ⟨p, .dK kvs, q1, trivial, fun od => ?_⟩
  have g : Go X.K F M H F (upM M p (.lok od kvs ks)) (upd H p (.frz od (.dK kvs))) := Go.put at0 m ⟨upd_same, q2⟩
  refine ⟨F, dl, _, _, so, g.at', hw od kvs, ⟨?_, ?_, ?_, ?_⟩⟩
  · rintro st' F' H' dl' M' ⟨m', hn⟩ g2 so'
    obtain ⟨a, b⟩ := lock_back at0 m q1 q2 g2 m'
    exact ⟨a, po.nx st' F' _ dl' _ hn b so'⟩
  · rintro v F' H' r M' ⟨m', hn⟩ g2 i'
    obtain ⟨a, b⟩ := lock_back at0 m q1 q2 g2 m'
    exact ⟨a, po.rt v F' _ r _ hn b i'⟩
  · rintro st' F' H' dl' M' ⟨m', hn⟩ g2 so'
    obtain ⟨a, b⟩ := lock_back at0 m q1 q2 g2 m'
    exact ⟨a, po.bk st' F' _ dl' _ hn b so'⟩
  · rintro st' F' H' dl' M' ⟨m', hn⟩ g2 so'
    obtain ⟨a, b⟩ := lock_back at0 m q1 q2 g2 m'
    exact ⟨a, po.ct st' F' _ dl' _ hn b so'⟩
abbrev wLockE (w : WE) : WE := fun dl M R => ∃ p ks, M p = some (.dic ks) ∧ ∀ od kvs, w dl (upM M p (.lok od kvs ks)) fun r M' => M' p = some (.lok od kvs ks) ∧ R r (upM M' p (.dic ks))
theorem pd_lock {e : Expr} {w : WE} (h : PD X e w) : PD X e (wLockE w) := pe_imp (pe_lock h) fun σ H Q ⟨F, dl, M, R, so, at0, ⟨p, ks, m, hw⟩, po⟩ => by
  obtain ⟨hF, kvs, q1, q2⟩ := at0.mem p _ m
  refine ⟨p, .dK kvs, q1, trivial, fun od => ?_⟩
  have g : Go X.K F M H F (upM M p (.lok od kvs ks)) (upd H p (.frz od (.dK kvs))) := Go.put at0 m ⟨upd_same, q2⟩
  refine ⟨F, dl, _, _, so, g.at', hw od kvs, ?_⟩
  rintro v F' H' r M' ⟨m', hn⟩ g2 i'
  obtain ⟨a, b⟩ := lock_back at0 m q1 q2 g2 m'
  exact ⟨a, po v F' _ r _ hn b i'⟩
/-! ### over the values, over the keys -/
def kSl : Key → Sl
  | .inl i => .i i
  | .inr s => .s s
abbrev wiVals (we : WE) : WI := fun dl M T => we dl M fun r M1 => match r with
  | .v (.ref p) => ∃ od kvs ks, M1 p = some (.lok od kvs ks) ∧ T (ks.map (·.2)) (fun M => M p = some (.lok od kvs ks)) M1
  | _ => False
abbrev wiKeys (we : WE) : WI := fun dl M T => we dl M fun r M1 => match r with
  | .v (.ref p) => ∃ od kvs ks, M1 p = some (.lok od kvs ks) ∧ T (ks.map fun k => kSl k.1) (fun M => M p = some (.lok od kvs ks)) M1
  | _ => False
theorem wk_vals {K : PySem.W.Frag} {F0 : Hp} {p : Addr} {od : Obj} {kvs : List (Key × V)} {ks : KS} : Wk K F0 (fun M => M p = some (.lok od kvs ks)) (Itd p od kvs) (ks.map (·.2)) := by
  refine ⟨fun F M H i e at0 c hi => ?_, fun F M H i x H' r e at0 c y hr => ?_, fun F M H e at0 c => ?_⟩
  · obtain ⟨_, h1, h2⟩ := at0.mem p _ c
    rw [List.length_map] at hi
    exact ⟨h1, by rw [← h2.length]; exact hi⟩
  · obtain ⟨_, h1, h2⟩ := at0.mem p _ c
    obtain ⟨rfl, k, hk⟩ := y
    refine ⟨F, Go.refl at0, ?_⟩
    rw [List.getElem?_map] at hr
    cases e1 : ks[i]? with
    | none => rw [e1] at hr; cases hr
    | some kr =>
      rw [e1] at hr
      obtain ⟨kv, h3, h4⟩ := h2.get e1
      rw [hk] at h3
      cases h3
      cases hr
      exact h4.2
  · obtain ⟨_, h1, h2⟩ := at0.mem p _ c
    exact ⟨h1, by rw [List.length_map, h2.length]; exact Nat.le_refl _⟩
theorem kSl_is {K : PySem.W.Frag} {F : Hp} : ∀ k : Key, Is K F (kSl k) (kV k)
  | .inl i => .int i
  | .inr s => .str s
theorem wk_keys {K : PySem.W.Frag} {F0 : Hp} {p : Addr} {od : Obj} {kvs : List (Key × V)} {ks : KS} : Wk K F0 (fun M => M p = some (.lok od kvs ks)) (Itk p od kvs) (ks.map fun k => kSl k.1) := by
  refine ⟨fun F M H i e at0 c hi => ?_, fun F M H i x H' r e at0 c y hr => ?_, fun F M H e at0 c => ?_⟩
  · obtain ⟨_, h1, h2⟩ := at0.mem p _ c
    rw [List.length_map] at hi
    exact ⟨h1, by rw [← h2.length]; exact hi⟩
  · obtain ⟨_, h1, h2⟩ := at0.mem p _ c
    obtain ⟨rfl, k, v, hk, rfl⟩ := y
    refine ⟨F, Go.refl at0, ?_⟩
    rw [List.getElem?_map] at hr
    cases e1 : ks[i]? with
    | none => rw [e1] at hr; cases hr
    | some kr =>
      rw [e1] at hr
      obtain ⟨kv, h3, h4⟩ := h2.get e1
      rw [hk] at h3
      cases h3
      cases hr
      have e9 : kr.1 = k := h4.1
      show Is K F (kSl kr.1) (kV k)
      rw [e9]
      exact kSl_is _
  · obtain ⟨_, h1, h2⟩ := at0.mem p _ c
    exact ⟨h1, by rw [List.length_map, h2.length]; exact Nat.le_refl _⟩
variable {tg e : Expr} {we : WE} {apos cpos : Pos}
theorem pdi_vals (he : PD X e we) (hbase : attributeBase e "values" X.env (eval e X.env) = eval e X.env := by rfl) (hline : (apos.endLine == cpos.line) = true := by rfl) : PDI X tg (.Call (.Attribute e "values" apos) [] [] cpos) (wiVals we) :=
  pi_imp (pi_values he hbase hline) fun st H Q ⟨F, dl, M, T, so, at0, hw, po⟩ => tD_to so at0 hw fun x F1 H1 r M1 h1 g1 so1 at1 i1 => by
    split at h1
    · rename_i p
      obtain ⟨od, kvs, ks, m, hT⟩ := h1
      have ex : x = .ref p := i1
      obtain ⟨_, h2, h3⟩ := at1.mem p _ m
      exact ⟨p, od, kvs, ex, h2, po F1 M1 H1 _ _ _ hT g1 wk_vals⟩
    · exact h1.elim
theorem pdi_keys (he : PD X e we) : PDI X tg e (wiKeys we) :=
  pi_imp (pi_keys he) fun st H Q ⟨F, dl, M, T, so, at0, hw, po⟩ => tD_to so at0 hw fun x F1 H1 r M1 h1 g1 so1 at1 i1 => by
    split at h1
    · rename_i p
      obtain ⟨od, kvs, ks, m, hT⟩ := h1
      have ex : x = .ref p := i1
      obtain ⟨_, h2, h3⟩ := at1.mem p _ m
      exact ⟨p, od, ex, .inl ⟨kvs, h2, po F1 M1 H1 _ _ _ hT g1 wk_keys⟩⟩
    · exact h1.elim
end
end DL

set_option Elab.async false
set_option linter.all false
set_option maxRecDepth 100000
set_option maxHeartbeats 4000000
namespace DL
open PySem PySem.Spec L2
open Evl (Ex)
section
variable {X : Cx}
/-! ### d.update(d2) -/
theorem mt_dupdate : MtR X "dict.update" (fun x vs H Q => ∃ (d o : Addr) (kvs more : List (Key × V)), x = V.ref d ∧ vs = [V.ref o] ∧ d ≠ o ∧ H d = some (.dK kvs) ∧ Rd H o (.dK more) ∧ kvs.length + more.length ≤ sizeLine ∧ Q .non (upd H d (.dK (mergeK kvs more)))) := by
  intro pins s st H x vs v us Q I rx rv ⟨d, o, kvs, more, ex, ev, hne, hd, ho, hz, q⟩
  subst ex ev
  obtain rfl : v = .ref d := rx
  obtain ⟨u, eu, ru⟩ := vals1 rv
  subst eu
  obtain rfl : u = .ref o := ru
  obtain ⟨z1, lo1, es1, rel1, dd1⟩ := dk_of I.hok hd
  obtain ⟨z2, lo2, es2, rel2, dd2⟩ := dk_rd I.hok ho
  refine call_meetsIn PySem.F.slot_dict_update dd1.typeIs PySem.F.entry_dict_update (PySem.F.args_dict_update_2 _ _) (meets_dict_update (mixKind X.prog X.w) d o hne lo2) ⟨es1, es2, dd1, dd2, by rw [← rel1.length, ← rel2.length]; exact hz, fun h' hd' ho' hs => ?_⟩
  have he : ∃ b, h'.get? d = some b := let ⟨b, _, _, hb, _⟩ := hd'; ⟨b, hb⟩
  have hl : (mergeK kvs more).length ≤ sizeLine := Nat.le_trans (length_mergeK more kvs) hz
  exact ⟨.non, _, d_write I (by rw [hd]; exact True.intro) hs he (dk_new hl lo1 (KV.merge rel2 rel1) hd'), rfl, q⟩
/-! ### dict(d2) -/
theorem cr_dictD : CallR X (.type "dict") (fun vs H Q => ∃ (o : Addr) (kvs : List (Key × V)), vs = [V.ref o] ∧ Rd H o (.dK kvs) ∧ ∀ p, H p = none → Q (.ref p) (upd H p (.dK kvs))) := by
  intro pins s st H vs us Q I r ⟨o, kvs, ev, ho, q⟩
  subst ev
  obtain ⟨u, eu, ru⟩ := vals1 r
  subst eu
  obtain rfl : u = .ref o := ru
  obtain ⟨z2, lo2, es2, rel2, dd2⟩ := dk_rd I.hok ho
  refine kt_call_dict lo2 dd2 (by rw [← rel2.length]; exact z2) fun h' hd' hs => ?_
  have hm : (s.heap.objs.size == sysModules) = false := beq_eq_false_iff_ne.mpr (Nat.ne_of_gt I.big)
  refine ⟨.ref s.heap.objs.size, upd H s.heap.objs.size (.dK kvs), I.laid (t' := s.toks) (fun b u e => ?_) (Nat.le_refl _) (dk_new z2 hm rel2 hd'), rfl, q _ (I.hok.fresh (Nat.le_refl _))⟩
  rw [hs.2 b (Nat.ne_of_lt (Heap.lt_size e))]
  exact Heap.get?_push_of_some _ e
abbrev gDictD : Sl → Mem → RK → Prop := fun r M R => match r with
  | .v (.ref o) => ∃ ks, M o = some (.dic ks) ∧ ∀ p, M p = none → R (.v (.ref p)) (upM M p (.dic ks))
  | _ => False
theorem c_dictD : CaD X (.type "dict") (g1 gDictD) := ca1 fun F H M v r R Q at0 i1 h1 po => by
  unfold gDictD at h1
  split at h1
  · rename_i o
    obtain ⟨ks, m, hR⟩ := h1
    have e : v = .ref o := i1
    subst e
    obtain ⟨_, kvs, q1, q2⟩ := at0.mem o _ m
    exact ⟨_, cr_dictD, o, kvs, rfl, .inl q1, fun p hp => po _ F _ _ _ (hR p (at0.freeM hp)) (Go.new at0 hp ⟨_, upd_same, q2⟩) rfl⟩
  · exact h1.elim
abbrev wUpd (wo : WE) (wa : WA) : WE := fun dl M R => wo dl M fun r M1 => match r with
  | .v (.ref d) => (∃ ks, M1 d = some (.dic ks)) ∧ wa dl M1 fun rs M2 => match rs with
    | [.v (.ref o)] => ∃ ks ms, M2 d = some (.dic ks) ∧ M2 o = some (.dic ms) ∧ d ≠ o ∧ ks.length + ms.length ≤ sizeLine ∧ R .n (upM M2 d (.dic (mergeS ks ms)))
    | _ => False
  | _ => False
variable {o e : Expr} {wo : WE} {wa : WA} {apos cpos : Pos}
theorem pd_update (ho : PD X o wo) (ha : PDA X [e] wa) (hbase : attributeBase o "update" X.env (eval o X.env) = eval o X.env := by rfl)
    (hfew : ((backTo cpos (starEach [e] X.env)).all (fun x => !x.1) && (backToKw cpos (keywordEach [] X.env)).all (fun x => x.1.isSome) && decide ([e].length + ([] : List Keyword).length + (if ([] : List Keyword).isEmpty then 0 else 1) < 30)) = true := by rfl)
    (hline : (apos.endLine == cpos.line) = true := by rfl) (hs : starEach [e] X.env = (false, eval e X.env) :: starEach [] X.env := by rfl) : PD X (.Call (.Attribute o "update" apos) [e] [] cpos) (wUpd wo wa) := by
  refine pe_imp (pe_bm PySem.F.plainAttrs_dict PySem.F.slot_dict_update PySem.F.type_dict_update mt_dupdate ho ha hbase hfew hline hs rfl) fun st H Q ⟨F, dl, M, R, so, at0, hw, po⟩ => ?_
  refine tD_to so at0 hw fun v F1 H1 x M1 h1 g1 so1 at1 i1 => ?_
  split at h1
  · rename_i d
    obtain ⟨⟨ks, m⟩, h1⟩ := h1
    have ev : v = .ref d := i1
    subst ev
    obtain ⟨_, kvs, q1, _⟩ := at1.mem d _ m
    refine ⟨.inr (.inr (.inl ⟨rfl, .inl ⟨_, q1⟩⟩)), tDA_to so1 at1 h1 fun us F2 H2 rs M2 h2 g2 so2 at2 i2 => ?_⟩
    split at h2
    · rename_i o2
      obtain ⟨ks2, ms, m1, m2, hne, hz, hR⟩ := h2
      obtain ⟨u, rfl, i3⟩ := isAll1 i2
      have e3 : u = .ref o2 := i3
      subst e3
      obtain ⟨_, kv1, p1, p2⟩ := at2.mem d _ m1
      obtain ⟨_, kv2, p3, p4⟩ := at2.mem o2 _ m2
      refine ⟨d, o2, kv1, kv2, rfl, rfl, hne, p1, .inl p3, by rw [← p2.length, ← p4.length]; exact hz, (po.mono (g1.trans g2)) _ F2 _ _ _ hR (Go.put at2 m1 ⟨_, upd_same, mergeS_at p4 p2⟩) .non⟩
    · exact h2.elim
  · exact h1.elim
end
end DL

set_option Elab.async false
set_option linter.all false
set_option maxRecDepth 100000
set_option maxHeartbeats 4000000
namespace DL
open PySem PySem.Spec L2
open Evl (Ex)
/-! ### {k: v for t in it if c} -/
def dcGo (g : WG) (wt : WT) (wk wv : WE) (C : Mem → Prop) (dl : Env') (R : KS → Mem → Prop) : List Sl → KS → Mem → Prop
  | [], ks, M => C M ∧ R ks M
  | x :: xs, ks, M => C M ∧ g x dl M fun dl2 M2 => wt dl2 M2 fun k M3 => if k = true then wk dl2 M3 fun y M4 => wv dl2 M4 fun z M5 => ∃ kk, keyS y = some kk ∧ ks.length < sizeLine ∧ dcGo g wt wk wv C dl R xs (putS ks kk z) M5 else dcGo g wt wk wv C dl R xs ks M3
theorem dcGo_C {g : WG} {wt : WT} {wk wv : WE} {C : Mem → Prop} {dl : Env'} {R : KS → Mem → Prop} : ∀ {xs : List Sl} {ks : KS} {M : Mem}, dcGo g wt wk wv C dl R xs ks M → C M
  | [], _, _, h => h.1
  | _ :: _, _, _, h => h.1
abbrev wDc (wi : WI) (g : WG) (wt : WT) (wk wv : WE) (vs : List Nat) : WE := fun dl M R => wi dl M fun items C M1 => dcGo g wt wk wv C (wipeD dl vs) (fun ks M2 => ∀ p, M2 p = none → R (.v (.ref p)) (upM M2 p (.dic ks))) items [] M1
structure DcW (K : PySem.W.Frag) (F0 : Hp) (M0 : Mem) (H0 : Hp) (p : Addr) (F : Hp) (M : Mem) (H : Hp) (ks : KS) : Prop where
  go : Go K F0 M0 H0 F M H
  f : F p = none
  m : M p = none
  h : ∃ kvs, H p = some (.dK kvs) ∧ All2 (KIs K F) ks kvs
theorem DcW.step {K : PySem.W.Frag} {F0 H0 F H F1 H1 : Hp} {M0 M M1 : Mem} {p : Addr} {ks : KS} (l : DcW K F0 M0 H0 p F M H ks) (g : Go K F M H F1 M1 H1) : DcW K F0 M0 H0 p F1 M1 H1 ks := by
  obtain ⟨kvs, h1, h2⟩ := l.h
  obtain ⟨q1, q2, q3⟩ := g.fr p _ h1 l.f l.m
  exact ⟨l.go.trans g, q2, q3, kvs, q1, h2.imp fun _ _ q => ⟨q.1, is_mono g.ex q.2⟩⟩
theorem DcW.mem {K : PySem.W.Frag} {F0 H0 F H : Hp} {M0 M : Mem} {p : Addr} {ks : KS} (l : DcW K F0 M0 H0 p F M H ks) (hp : H0 p = none) : Go K F0 M0 H0 F (upM M p (.dic ks)) H := by
  obtain ⟨kvs, q1, q2⟩ := l.h
  refine ⟨l.go.ex, ⟨l.go.at'.ex, fun b u z => ?_⟩, fun b u h1 h2 h3 => ?_⟩
  · by_cases hb : b = p
    · subst hb; rw [upM_same] at z; cases z; exact ⟨l.f, kvs, q1, q2⟩
    · rw [upM_ne hb] at z; exact l.go.at'.mem b u z
  · obtain ⟨w1, w2, w3⟩ := l.go.fr b u h1 h2 h3
    exact ⟨w1, w2, by rw [upM_ne (ne_of_none h1 hp)]; exact w3⟩
theorem tD_dc {K : PySem.W.Frag} {wi : WI} {g : WG} {wt : WT} {wk wv : WE} {vs : List Nat} {st : St} {H : Hp} {Q : VK} (h : tD K (wDc wi g wt wk wv vs) st H Q) : tDc (tDI K wi) (tDGw K vs g) (tDT K wt) (tD K wk) (tD K wv) vs st H Q := by
  obtain ⟨F, dl, M, R, so, at0, hw, po⟩ := h
  refine ⟨F, dl, M, _, so, at0, hw, fun F1 M1 H1 items C J h1 g1 wk1 p hp => ?_⟩
  have so1 := sok_mono g1.ex so
  have at1 := g1.at'
  have f1 := at1.freeF hp
  have m1 := at1.freeM hp
  refine ⟨fun i m H => m = items.length - i ∧ i ≤ items.length ∧ ∃ F M ks, DcW K F1 M1 H1 p F M H ks ∧ dcGo g wt wk wv C (wipeD dl vs) _ (items.drop i) ks M,
    ⟨_, rfl, Nat.zero_le _, F1, M1, [], ⟨⟨Ex.refl _, at1.hid f1 m1, fun a o h1 h2 h3 => ⟨by rw [upd_ne (ne_of_none h1 hp)]; exact h1, h2, h3⟩⟩, f1, m1, [], upd_same, .nil⟩, h1⟩, ?_⟩
  rintro i m H ⟨rfl, hi, F, M, ks, l, hw⟩
  have c := dcGo_C hw
  have at0 := l.go.at'
  by_cases hlt : i < items.length
  · refine .inr ⟨wk1.go F M H i l.go.ex at0 c hlt, fun H' => i + 1 ≤ items.length ∧ ∃ F M ks, DcW K F1 M1 H1 p F M H' ks ∧ dcGo g wt wk wv C (wipeD dl vs) _ (items.drop (i + 1)) ks M, fun H' q => ⟨_, by omega, rfl, q⟩, fun x H' y => ?_⟩
    obtain ⟨F2, g2, i2⟩ := wk1.yld F M H i x H' _ l.go.ex at0 c y (List.getElem?_eq_getElem hlt)
    rw [List.drop_eq_getElem_cons hlt] at hw
    obtain ⟨_, hw⟩ := hw
    have l2 := l.step g2
    refine ⟨F2, wipeD dl vs, M, _, _, sok_wipe (sok_mono l2.go.ex so1) vs, g2.at', i2, hw, fun st3 F3 H3 dl3 M3 h3 g3 so3 w3 => ⟨?_, ?_⟩⟩
    · rw [w3]; exact wipe_wipe st vs
    · have l3 := l2.step g3
      refine tDT_to so3 g3.at' h3 fun k F4 H4 M4 h4 g4 so4 at4 => ?_
      have l4 := l3.step g4
      cases k with
      | false => exact ⟨hlt, F4, M4, ks, l4, h4⟩
      | true =>
        refine tD_to so4 at4 h4 fun y F5 H5 r M5 h5 g5 so5 at5 i5 => ?_
        have l5 := l4.step g5
        refine tD_to so5 at5 h5 fun z F6 H6 r6 M6 h6 g6 so6 at6 i6 => ?_
        have l6 := l5.step g6
        obtain ⟨kk, ek, hz, h6⟩ := h6
        obtain ⟨kvs, q1, q2⟩ := l6.h
        refine ⟨kvs, kk, keyS_at i5 ek, q1, by rw [← q2.length]; exact hz, hlt, F6, M6, putS ks kk r6, ⟨⟨l6.go.ex, l6.go.at'.hid l6.f l6.m, fun a o z1 z2 z3 => ?_⟩, l6.f, l6.m, _, upd_same, putS_at i6 q2⟩, h6⟩
        obtain ⟨w1, w2, w3⟩ := l6.go.fr a o z1 z2 z3
        exact ⟨by rw [upd_ne (ne_of_none z1 hp)]; exact w1, w2, w3⟩
  · have ei : i = items.length := by omega
    subst ei
    rw [List.drop_length] at hw
    exact .inl ⟨wk1.stop F M H l.go.ex at0 c, po _ F H _ _ (hw.2 p l.m) (g1.trans (l.mem hp)) rfl⟩
section
variable {X : Cx} {kx vx tg iter : Expr} {ifs : List Expr} {scope : Scope} {own : List (Str × Nat)} {wi : WI} {g : WG} {wt : WT} {wk wv : WE} {pos : Pos}
theorem pd_dc (hc : X.calm = true) (hN : X.N.Nodup) (hi : PDI X tg iter wi) (ok : BlkOk X.N X.env.scope scope own)
    (hg : ∀ (s : Shared) (H : Hp) (C : Addr) (cl : List (Str × Addr)) (fp : List Addr), PDGw (X.blk s H scope (compEnvC scope cl C X.env) fp) (own.map (·.2)) tg g) (ht : ∀ (s : Shared) (H : Hp) (C : Addr) (cl : List (Str × Addr)) (fp : List Addr), PDTs (X.blk s H scope (compEnvC scope cl C X.env) fp) ifs wt)
    (hk : ∀ (s : Shared) (H : Hp) (C : Addr) (cl : List (Str × Addr)) (fp : List Addr), PD (X.blk s H scope (compEnvC scope cl C X.env) fp) kx wk)
    (hv : ∀ (s : Shared) (H : Hp) (C : Addr) (cl : List (Str × Addr)) (fp : List Addr), PD (X.blk s H scope (compEnvC scope cl C X.env) fp) vx wv) (hs : ∀ x, foldedSetIterable iter X.env x = pure x := by intro _; rfl) : PD X (.DictComp kx vx [⟨tg, iter, ifs, 0⟩] scope pos) (wDc wi g wt wk wv (own.map (·.2))) :=
  pe_imp (pe_dc (g := tDGw X.K (own.map (fun z : Str × Nat => z.2)) g) (tt := tDT X.K wt) (tk := tD X.K wk) (tv := tD X.K wv) hc hN hi ok hg ht hk hv hs) fun st H Q h => tD_dc h
end
end DL

set_option Elab.async false
set_option linter.all false
set_option maxRecDepth 100000
set_option maxHeartbeats 4000000
/-! DZ: list(zip(a, b, c, strict=True)) of three lists of one length. -/
namespace DL
open PySem PySem.Spec PySem.Builtin.SmallTypes
abbrev IsZ3 (h : Heap) (z TI TO : Addr) (v : Value) (f : Bool) : Prop := h.get? z = some { cls := .type "zip", dict := none, data := .fields #[v, .bool f, .bool true, .ref TI, .ref TO], slots := #[] }
abbrev IsTri (h : Heap) (T : Addr) (a b c : Value) : Prop := h.get? T = some { cls := .type "tuple", data := .seq #[a, b, c] }
structure Apart3 (z TI TO i1 i2 i3 l1 l2 l3 : Addr) : Prop where
  nd : [z, TI, TO, i1, i2, i3].Nodup
  n1 : l1 ∉ [z, TI, TO, i1, i2, i3]
  n2 : l2 ∉ [z, TI, TO, i1, i2, i3]
  n3 : l3 ∉ [z, TI, TO, i1, i2, i3]
section
variable {prog : Program} {w : World} {A : Around} {E : Value → Shared → Prop} {s : Shared} {z TI TO i1 i2 i3 l1 l2 l3 : Addr} {k1 k2 k3 : Nat} {xs ys us : Array Value} {x y u a b c v0 : Value} {f0 : Bool}
theorem orEnd_item {it l : Addr} {i : Nat} {Q : Option Value → Shared → Prop} (hit : s.heap.IsListIter it l i) (hl : s.heap.IsList l xs) (hx : xs[i]? = some x) (hQ : ∀ g, g.IsListIter it l (i + 1) → Heap.SameBut it s.heap g → Q (some x) { s with heap := g }) :
    wpAny (model prog w) A (nextOrEnd (.ref it)) Q E s := by
  unfold nextOrEnd
  exact wpAny_bind (wpAny_attempt (wpAny_nextOf_list_item hit hl hx fun g h1 h2 => wpAny_pure (hQ g h1 h2)))
theorem orEnd_end {it l : Addr} {i : Nat} {Q : Option Value → Shared → Prop} (hh : A.handled = none) (hit : s.heap.IsListIter it l i) (hl : s.heap.IsList l xs) (hx : xs[i]? = none) (hQ : ∀ g, Heap.ExtBut it s.heap g → Q none { s with heap := g }) :
    wpAny (model prog w) A (nextOrEnd (.ref it)) Q E s := by
  unfold nextOrEnd
  refine wpAny_bind (wpAny_attempt (wpAny_nextOf_list_end hh hit hl hx fun g e h1 ⟨o, ho, hc⟩ => ?_))
  exact wpAny_bind (wpAny_isInstance (T := "StopIteration") (b := true) ⟨o, ho, hc⟩ isSubtype_stop (wpAny_pure (hQ g h1)))
theorem upd_tri {T : Addr} {k : Nat} {v : Value} {Q : Unit → Shared → Prop} (hT : IsTri s.heap T a b c)
    (h : ∀ g, g.get? T = some { cls := .type "tuple", data := .seq ((#[a, b, c] : Array Value).setIfInBounds k v) } → Heap.SameBut T s.heap g → Q () { s with heap := g }) : wpAny (model prog w) A (updateSeq T (·.setIfInBounds k v)) Q E s := by
  refine wpAny_updateSeq hT rfl (h _ ?_ (Heap.SameBut.update ..))
  rw [Heap.get?_update_self _ hT rfl]
  simp [Obj.mapSeq]
theorem stop_now {α : Type} {Q : α → Shared → Prop} (hh : A.handled = none) (hE : ∀ g e, (∀ d o, s.heap.get? d = some o → g.get? d = some o) → (∃ o, g.get? e = some o ∧ o.cls = .type "StopIteration") → E (.ref e) { s with heap := g }) :
    wpAny (model prog w) A (stopIteration (α := α)) Q E s := by
  unfold stopIteration
  refine wpAny_bind ?_
  simp only [newExc, newTuple]
  refine wpAny_bind (wpAny_newObj_type ?_ (by size_fits))
  refine wpAny_bind (m := firstArgMember _ _) (wpAny_of_eq (a := Value.none) (by first | rfl | (simp only [firstArgMember]; rfl)) ?_)
  refine wpAny_newObj_type ?_ (by size_fits)
  simp only [raiseNew]
  refine wpAny_bind (wpAny_handled ?_)
  rw [hh]
  refine wpAny_bind (wpAny_pure (wpAny_throw ?_))
  exact hE _ _ (fun d o e => Heap.get?_push_of_some _ (Heap.get?_push_of_some _ e)) ⟨_, Heap.get?_push_size _ rfl, rfl⟩
theorem zip3_item {Q : Value → Shared → Prop} (D : Apart3 z TI TO i1 i2 i3 l1 l2 l3) (hz : IsZ3 s.heap z TI TO v0 f0) (fr : ∀ R : Bool → Shared → Prop, R true s → wpAny (model prog w) A (ownedTupleIsFree (.ref z)) R E s)
    (pI : IsTri s.heap TI (.ref i1) (.ref i2) (.ref i3)) (pO : IsTri s.heap TO a b c) (t1 : s.heap.IsListIter i1 l1 k1) (t2 : s.heap.IsListIter i2 l2 k2) (t3 : s.heap.IsListIter i3 l3 k3)
    (y1 : s.heap.IsList l1 xs) (y2 : s.heap.IsList l2 ys) (y3 : s.heap.IsList l3 us) (hx : xs[k1]? = some x) (hy : ys[k2]? = some y) (hu : us[k3]? = some u)
    (hQ : ∀ g, IsZ3 g z TI TO (rawInt s.heap.objs.size) false → IsTri g TO x y u → g.IsListIter i1 l1 (k1 + 1) → g.IsListIter i2 l2 (k2 + 1) → g.IsListIter i3 l3 (k3 + 1) → IsTri g s.heap.objs.size x y u →
      (∀ d o, d ∉ [z, TO, i1, i2, i3] → s.heap.get? d = some o → g.get? d = some o) → Q (.ref s.heap.objs.size) { s with heap := g }) :
    wpAny (model prog w) A (Builtin.«zip.__next__» ⟨[.ref z], []⟩) (fun fin s2 => ∃ r, fin = .done (.ret r) ∧ Q r s2) E s := by
  have nd := D.nd
  have n1 := D.n1
  have n2 := D.n2
  have n3 := D.n3
  simp only [List.nodup_cons, List.mem_cons, List.not_mem_nil, or_false, not_or, List.nodup_nil, and_true, not_false_eq_true] at nd n1 n2 n3
  obtain ⟨⟨zTI, zTO, z1, z2, z3⟩, ⟨TITO, TI1, TI2, TI3⟩, ⟨TO1, TO2, TO3⟩, ⟨i12, i13⟩, i23⟩ := nd
  refine wpAny_bind (m := field (.ref z) 2) (wpAny_field hz rfl (x := .bool true) rfl ?_)
  refine wpAny_bind (m := field (.ref z) 3) (wpAny_field hz rfl (x := .ref TI) rfl (wpAny_bind (wpAny_seqItems pI rfl ?_)))
  refine wpAny_bind (m := ownedTupleIsFree (.ref z)) (fr _ ?_)
  simp only [if_true]
  refine wpAny_bind (wpAny_rule (wpAny_bind (wpAny_field hz rfl (x := .ref TO) rfl (wpAny_bind (wpAny_setField_rec hz (by simp) fun g1 w1 s1 => wpAny_bind ?_)))))
  replace w1 : IsZ3 g1 z TI TO .ellipsis f0 := w1
  simp only [List.zipIdx_cons, List.zipIdx_nil, List.forIn_cons, List.forIn_nil]
  refine wpAny_bind (wpAny_bind (wpAny_onRaise (orEnd_item (t1.extBut s1.extBut (Ne.symm z1)) (y1.extBut s1.extBut n1.1) hx fun g2 u2 s2 => ?_)))
  have o2 : IsTri g2 TO a b c := s2.extBut _ _ TO1 (s1.extBut _ _ (Ne.symm zTO) pO)
  refine wpAny_bind (wpAny_seqItems o2 rfl (wpAny_bind (upd_tri o2 fun g3 o3 s3 => wpAny_bind (wpAny_letGo (wpAny_pure ?_)))))
  replace o3 : IsTri g3 TO x b c := o3
  have up3 : ∀ d o, d ≠ z → d ≠ TO → d ≠ i1 → s.heap.get? d = some o → g3.get? d = some o := fun d o d1 d2 d3 e => s3.extBut _ _ d2 (s2.extBut _ _ d3 (s1.extBut _ _ d1 e))
  refine wpAny_bind (wpAny_bind (wpAny_onRaise (orEnd_item (t2.at fun o e => up3 _ o (Ne.symm z2) (Ne.symm TO2) (Ne.symm i12) e) (((y2.extBut s1.extBut n2.1).extBut s2.extBut n2.2.2.2.1).extBut s3.extBut n2.2.2.1) hy fun g4 u4 s4 => ?_)))
  have o4 : IsTri g4 TO x b c := s4.extBut _ _ TO2 o3
  refine wpAny_bind (wpAny_seqItems o4 rfl (wpAny_bind (upd_tri o4 fun g5 o5 s5 => wpAny_bind (wpAny_letGo (wpAny_pure ?_)))))
  replace o5 : IsTri g5 TO x y c := o5
  have up5 : ∀ d o, d ≠ z → d ≠ TO → d ≠ i1 → d ≠ i2 → s.heap.get? d = some o → g5.get? d = some o := fun d o d1 d2 d3 d4 e => s5.extBut _ _ d2 (s4.extBut _ _ d4 (up3 d o d1 d2 d3 e))
  have y3' := ((((y3.extBut s1.extBut n3.1).extBut s2.extBut n3.2.2.2.1).extBut s3.extBut n3.2.2.1).extBut s4.extBut n3.2.2.2.2.1).extBut s5.extBut n3.2.2.1
  refine wpAny_bind (wpAny_bind (wpAny_onRaise (orEnd_item (t3.at fun o e => up5 _ o (Ne.symm z3) (Ne.symm TO3) (Ne.symm i13) (Ne.symm i23) e) y3' hu fun g6 u6 s6 => ?_)))
  have o6 : IsTri g6 TO x y c := s6.extBut _ _ TO3 o5
  refine wpAny_bind (wpAny_seqItems o6 rfl (wpAny_bind (upd_tri o6 fun g7 o7 s7 => wpAny_bind (wpAny_letGo (wpAny_pure (wpAny_pure ?_))))))
  replace o7 : IsTri g7 TO x y u := o7
  refine wpAny_bind (wpAny_seqItems o7 rfl (wpAny_bind (wpAny_newTuple ?_)))
  have sz : g7.objs.size = s.heap.objs.size := by rw [s7.1, s6.1, s5.1, s4.1, s3.1, s2.1, s1.1]
  have w7 : IsZ3 g7 z TI TO .ellipsis f0 := s7.extBut _ _ zTO (s6.extBut _ _ z3 (s5.extBut _ _ zTO (s4.extBut _ _ z2 (s3.extBut _ _ zTO (s2.extBut _ _ z1 w1)))))
  have up7 : ∀ d o, d ≠ z → d ≠ TO → d ≠ i1 → d ≠ i2 → d ≠ i3 → s.heap.get? d = some o → g7.get? d = some o := fun d o d1 d2 d3 d4 d5 e => s7.extBut _ _ d2 (s6.extBut _ _ d5 (up5 d o d1 d2 d3 d4 e))
  have a7 : g7.IsListIter i1 l1 (k1 + 1) := ((((u2.extBut s3.extBut (Ne.symm TO1)).extBut s4.extBut i12).extBut s5.extBut (Ne.symm TO1)).extBut s6.extBut i13).extBut s7.extBut (Ne.symm TO1)
  have b7 : g7.IsListIter i2 l2 (k2 + 1) := ((u4.extBut s5.extBut (Ne.symm TO2)).extBut s6.extBut i23).extBut s7.extBut (Ne.symm TO2)
  have c7 : g7.IsListIter i3 l3 (k3 + 1) := u6.extBut s7.extBut (Ne.symm TO3)
  have lz : z < g7.objs.size := Heap.lt_size w7
  refine wpAny_bind (m := ownedTupleHandOut (.ref z) (.ref g7.objs.size)) ?_
  unfold ownedTupleHandOut
  have w8 : IsZ3 (g7.push { cls := .type "tuple", data := .seq #[x, y, u] }) z TI TO .ellipsis f0 := Heap.get?_push_of_some _ w7
  refine wpAny_bind (wpAny_setField_rec w8 (by simp) fun g9 w9 s9 => ?_)
  replace w9 : IsZ3 g9 z TI TO (rawInt g7.objs.size) f0 := w9
  refine wpAny_setField_rec w9 (by simp) fun gA wA sA => wpAny_pure ⟨_, rfl, ?_⟩
  replace wA : IsZ3 gA z TI TO (rawInt g7.objs.size) false := wA
  have up : ∀ d o, d ≠ z → g7.get? d = some o → gA.get? d = some o := fun d o d1 e => sA.extBut _ _ d1 (s9.extBut _ _ d1 (Heap.get?_push_of_some _ e))
  have pA : IsTri gA g7.objs.size x y u := sA.extBut _ _ (Nat.ne_of_gt lz) (s9.extBut _ _ (Nat.ne_of_gt lz) (Heap.get?_push_size _ rfl))
  rw [sz] at wA pA
  show Q (.ref g7.objs.size) _
  rw [sz]
  refine hQ gA wA (up _ _ (Ne.symm zTO) o7) (a7.at fun o e => up _ o (Ne.symm z1) e) (b7.at fun o e => up _ o (Ne.symm z2) e) (c7.at fun o e => up _ o (Ne.symm z3) e) pA fun d o hd e => ?_
  simp only [List.mem_cons, List.not_mem_nil, or_false, not_or] at hd
  exact up d o hd.1 (up7 d o hd.1 hd.2.1 hd.2.2.1 hd.2.2.2.1 hd.2.2.2.2 e)
/-- the tuple that is out is held -/
theorem held3 {T : Addr} {oT : Obj} {R : Bool → Shared → Prop} (hz : IsZ3 s.heap z TI TO (rawInt T) f0) (hT : s.heap.get? T = some oT) (h : ∀ g, IsZ3 g z TI TO (rawInt T) true → Heap.SameBut z s.heap g → R false { s with heap := g }) : wpAny (model prog w) A (ownedTupleIsFree (.ref z)) R E s := by
  unfold ownedTupleIsFree
  refine wpAny_bind (wpAny_field hz rfl (x := rawInt T) rfl ?_)
  show wpAny _ _ (loadIfAlive ((T : Int).toNat) >>= _) _ _ _
  rw [Int.toNat_natCast]
  have q : ∀ R : Option Obj → Shared → Prop, R (some oT) s → wpAny (model prog w) A (loadIfAlive T) R E s := fun R hr => by
    have hr2 : R (s.heap.get? T) s := by rw [hT]; exact hr
    exact fun _ _ _ => hr2
  refine wpAny_bind (q _ ?_)
  simp only [Option.isNone_some, Bool.false_eq_true, if_false]
  refine wpAny_bind (wpAny_field hz rfl (x := .bool f0) rfl ?_)
  cases f0 with
  | false =>
    rw [if_pos (show (Value.bool false != Value.bool true) = true from rfl)]
    exact wpAny_bind (wpAny_setField_rec hz (by simp) fun g hg sg => wpAny_pure (h g hg sg))
  | true =>
    rw [if_neg (show ¬ ((Value.bool true != Value.bool true) = true) from Bool.false_ne_true)]
    exact wpAny_pure (h s.heap hz (Heap.SameBut.refl _ _))
theorem zip3_held {T : Addr} {oT : Obj} {Q : Value → Shared → Prop} (D : Apart3 z TI TO i1 i2 i3 l1 l2 l3) (hz : IsZ3 s.heap z TI TO (rawInt T) f0) (hT : s.heap.get? T = some oT)
    (pI : IsTri s.heap TI (.ref i1) (.ref i2) (.ref i3)) (t1 : s.heap.IsListIter i1 l1 k1) (t2 : s.heap.IsListIter i2 l2 k2) (t3 : s.heap.IsListIter i3 l3 k3)
    (y1 : s.heap.IsList l1 xs) (y2 : s.heap.IsList l2 ys) (y3 : s.heap.IsList l3 us) (hx : xs[k1]? = some x) (hy : ys[k2]? = some y) (hu : us[k3]? = some u)
    (hQ : ∀ g, IsZ3 g z TI TO (rawInt T) true → g.IsListIter i1 l1 (k1 + 1) → g.IsListIter i2 l2 (k2 + 1) → g.IsListIter i3 l3 (k3 + 1) → IsTri g s.heap.objs.size x y u →
      (∀ d o, d ∉ [z, i1, i2, i3] → s.heap.get? d = some o → g.get? d = some o) → Q (.ref s.heap.objs.size) { s with heap := g }) :
    wpAny (model prog w) A (Builtin.«zip.__next__» ⟨[.ref z], []⟩) (fun fin s2 => ∃ r, fin = .done (.ret r) ∧ Q r s2) E s := by
  have nd := D.nd
  have n1 := D.n1
  have n2 := D.n2
  have n3 := D.n3
  simp only [List.nodup_cons, List.mem_cons, List.not_mem_nil, or_false, not_or, List.nodup_nil, and_true, not_false_eq_true] at nd n1 n2 n3
  obtain ⟨⟨zTI, zTO, z1, z2, z3⟩, ⟨TITO, TI1, TI2, TI3⟩, ⟨TO1, TO2, TO3⟩, ⟨i12, i13⟩, i23⟩ := nd
  refine wpAny_bind (m := field (.ref z) 2) (wpAny_field hz rfl (x := .bool true) rfl ?_)
  refine wpAny_bind (m := field (.ref z) 3) (wpAny_field hz rfl (x := .ref TI) rfl (wpAny_bind (wpAny_seqItems pI rfl ?_)))
  refine wpAny_bind (m := ownedTupleIsFree (.ref z)) (held3 hz hT fun g1 w1 s1 => ?_)
  simp only [Bool.false_eq_true, if_false]
  refine wpAny_bind ?_
  rw [← Array.forIn_toList]
  simp only [List.forIn_cons, List.forIn_nil]
  refine wpAny_bind (wpAny_bind (wpAny_holding (orEnd_item (s := { s with heap := g1 }) (t1.extBut s1.extBut (Ne.symm z1)) (y1.extBut s1.extBut n1.1) hx fun g2 u2 s2 => wpAny_pure ?_)))
  refine wpAny_bind (wpAny_bind (wpAny_holding (orEnd_item (s := { s with heap := g2 }) ((t2.extBut s1.extBut (Ne.symm z2)).extBut s2.extBut (Ne.symm i12)) ((y2.extBut s1.extBut n2.1).extBut s2.extBut n2.2.2.2.1) hy fun g3 u3 s3 => wpAny_pure ?_)))
  refine wpAny_bind (wpAny_bind (wpAny_holding (orEnd_item (s := { s with heap := g3 }) (((t3.extBut s1.extBut (Ne.symm z3)).extBut s2.extBut (Ne.symm i13)).extBut s3.extBut (Ne.symm i23)) (((y3.extBut s1.extBut n3.1).extBut s2.extBut n3.2.2.2.1).extBut s3.extBut n3.2.2.2.2.1) hu fun g4 u4 s4 => wpAny_pure (wpAny_pure ?_))))
  refine wpAny_bind (m := newTuple [x, y, u]) (wpAny_newTuple ?_)
  have sz : g4.objs.size = s.heap.objs.size := by rw [s4.1, s3.1, s2.1, s1.1]
  have w4 : IsZ3 g4 z TI TO (rawInt T) true := s4.extBut _ _ z3 (s3.extBut _ _ z2 (s2.extBut _ _ z1 w1))
  have a4 : g4.IsListIter i1 l1 (k1 + 1) := (u2.extBut s3.extBut i12).extBut s4.extBut i13
  have b4 : g4.IsListIter i2 l2 (k2 + 1) := u3.extBut s4.extBut i23
  refine wpAny_pure ⟨_, rfl, ?_⟩
  have p4 : IsTri (g4.push { cls := .type "tuple", data := .seq #[x, y, u] }) g4.objs.size x y u := Heap.get?_push_size _ rfl
  show Q (.ref g4.objs.size) _
  rw [sz] at p4 ⊢
  refine hQ _ (Heap.get?_push_of_some _ w4) (a4.at fun o e => Heap.get?_push_of_some _ e) (b4.at fun o e => Heap.get?_push_of_some _ e) (u4.at fun o e => Heap.get?_push_of_some _ e) p4 fun d o hd e => ?_
  simp only [List.mem_cons, List.not_mem_nil, or_false, not_or] at hd
  exact Heap.get?_push_of_some _ (s4.extBut _ _ hd.2.2.2 (s3.extBut _ _ hd.2.2.1 (s2.extBut _ _ hd.2.1 (s1.extBut _ _ hd.1 e))))
theorem zip3_end {Q : Fin → Shared → Prop} (hh : A.handled = none) (D : Apart3 z TI TO i1 i2 i3 l1 l2 l3) (hz : IsZ3 s.heap z TI TO v0 f0) (fr : ∀ R : Bool → Shared → Prop, R true s → wpAny (model prog w) A (ownedTupleIsFree (.ref z)) R E s)
    (pI : IsTri s.heap TI (.ref i1) (.ref i2) (.ref i3)) (pO : IsTri s.heap TO a b c) (t1 : s.heap.IsListIter i1 l1 k1) (t2 : s.heap.IsListIter i2 l2 k2) (t3 : s.heap.IsListIter i3 l3 k3)
    (y1 : s.heap.IsList l1 xs) (y2 : s.heap.IsList l2 ys) (y3 : s.heap.IsList l3 us) (hx : xs[k1]? = none) (hy : ys[k2]? = none) (hu : us[k3]? = none)
    (hE : ∀ g e, (∀ d o, d ∉ [z, i1, i2, i3] → s.heap.get? d = some o → g.get? d = some o) → (∃ o, g.get? e = some o ∧ o.cls = .type "StopIteration") → E (.ref e) { s with heap := g }) :
    wpAny (model prog w) A (Builtin.«zip.__next__» ⟨[.ref z], []⟩) Q E s := by
  have nd := D.nd
  have n1 := D.n1
  have n2 := D.n2
  have n3 := D.n3
  simp only [List.nodup_cons, List.mem_cons, List.not_mem_nil, or_false, not_or, List.nodup_nil, and_true, not_false_eq_true] at nd n1 n2 n3
  obtain ⟨⟨zTI, zTO, z1, z2, z3⟩, ⟨TITO, TI1, TI2, TI3⟩, ⟨TO1, TO2, TO3⟩, ⟨i12, i13⟩, i23⟩ := nd
  refine wpAny_bind (m := field (.ref z) 2) (wpAny_field hz rfl (x := .bool true) rfl ?_)
  refine wpAny_bind (m := field (.ref z) 3) (wpAny_field hz rfl (x := .ref TI) rfl (wpAny_bind (wpAny_seqItems pI rfl ?_)))
  refine wpAny_bind (m := ownedTupleIsFree (.ref z)) (fr _ ?_)
  simp only [if_true]
  refine wpAny_bind (wpAny_rule (wpAny_bind (wpAny_field hz rfl (x := .ref TO) rfl (wpAny_bind (wpAny_setField_rec hz (by simp) fun g1 w1 s1 => wpAny_bind ?_)))))
  replace w1 : IsZ3 g1 z TI TO .ellipsis f0 := w1
  simp only [List.zipIdx_cons, List.zipIdx_nil, List.forIn_cons, List.forIn_nil]
  refine wpAny_bind (wpAny_bind (wpAny_onRaise (orEnd_end hh (t1.extBut s1.extBut (Ne.symm z1)) (y1.extBut s1.extBut n1.1) hx fun g2 s2 => ?_)))
  have w2 : IsZ3 g2 z TI TO .ellipsis f0 := s2 _ _ z1 w1
  refine wpAny_bind (wpAny_setField_rec w2 (by simp) fun g3 w3 s3 => ?_)
  refine wpAny_bind ?_
  refine wpAny_bind (m := forIn ([(Value.ref i2, 1), (Value.ref i3, 2)] : List (Value × Nat)) PUnit.unit _) ?_
  simp only [List.forIn_cons, List.forIn_nil]
  have up3 : ∀ d o, d ≠ z → d ≠ i1 → s.heap.get? d = some o → g3.get? d = some o := fun d o d1 d2 e => s3.extBut _ _ d1 (s2 _ _ d2 (s1.extBut _ _ d1 e))
  have y2' : g3.IsList l2 ys := ((y2.extBut s1.extBut n2.1).extBut s2 n2.2.2.2.1).extBut s3.extBut n2.1
  have y3' : g3.IsList l3 us := ((y3.extBut s1.extBut n3.1).extBut s2 n3.2.2.2.1).extBut s3.extBut n3.1
  refine wpAny_bind (wpAny_bind (orEnd_end hh (t2.at fun o e => up3 _ o (Ne.symm z2) (Ne.symm i12) e) y2' hy fun g4 s4 => ?_))
  simp only [Option.isSome_none, Bool.false_eq_true, if_false]
  refine wpAny_pure (wpAny_bind (wpAny_bind (orEnd_end hh ((t3.at fun o e => up3 _ o (Ne.symm z3) (Ne.symm i13) e).extBut s4 (Ne.symm i23)) (y3'.extBut s4 n3.2.2.2.2.1) hu fun g5 s5 => ?_)))
  simp only [Option.isSome_none, Bool.false_eq_true, if_false]
  refine wpAny_pure (wpAny_pure (wpAny_bind (wpAny_rule ?_)))
  have keep : ∀ d o, d ∉ [z, i1, i2, i3] → s.heap.get? d = some o → g5.get? d = some o := fun d o hd e => by
    simp only [List.mem_cons, List.not_mem_nil, or_false, not_or] at hd
    exact s5 _ _ hd.2.2.2 (s4 _ _ hd.2.2.1 (up3 d o hd.1 hd.2.1 e))
  exact stop_now hh fun g e k he => hE g e (fun d o hd q => k d o (keep d o hd q)) he
theorem zip3_endH {T : Addr} {oT : Obj} {Q : Fin → Shared → Prop} (hh : A.handled = none) (D : Apart3 z TI TO i1 i2 i3 l1 l2 l3) (hz : IsZ3 s.heap z TI TO (rawInt T) f0) (hT : s.heap.get? T = some oT)
    (pI : IsTri s.heap TI (.ref i1) (.ref i2) (.ref i3)) (t1 : s.heap.IsListIter i1 l1 k1) (t2 : s.heap.IsListIter i2 l2 k2) (t3 : s.heap.IsListIter i3 l3 k3)
    (y1 : s.heap.IsList l1 xs) (y2 : s.heap.IsList l2 ys) (y3 : s.heap.IsList l3 us) (hx : xs[k1]? = none) (hy : ys[k2]? = none) (hu : us[k3]? = none)
    (hE : ∀ g e, (∀ d o, d ∉ [z, i1, i2, i3] → s.heap.get? d = some o → g.get? d = some o) → (∃ o, g.get? e = some o ∧ o.cls = .type "StopIteration") → E (.ref e) { s with heap := g }) :
    wpAny (model prog w) A (Builtin.«zip.__next__» ⟨[.ref z], []⟩) Q E s := by
  have nd := D.nd
  have n1 := D.n1
  have n2 := D.n2
  have n3 := D.n3
  simp only [List.nodup_cons, List.mem_cons, List.not_mem_nil, or_false, not_or, List.nodup_nil, and_true, not_false_eq_true] at nd n1 n2 n3
  obtain ⟨⟨zTI, zTO, z1, z2, z3⟩, ⟨TITO, TI1, TI2, TI3⟩, ⟨TO1, TO2, TO3⟩, ⟨i12, i13⟩, i23⟩ := nd
  refine wpAny_bind (m := field (.ref z) 2) (wpAny_field hz rfl (x := .bool true) rfl ?_)
  refine wpAny_bind (m := field (.ref z) 3) (wpAny_field hz rfl (x := .ref TI) rfl (wpAny_bind (wpAny_seqItems pI rfl ?_)))
  refine wpAny_bind (m := ownedTupleIsFree (.ref z)) (held3 hz hT fun g1 w1 s1 => ?_)
  simp only [Bool.false_eq_true, if_false]
  refine wpAny_bind ?_
  rw [← Array.forIn_toList]
  simp only [List.forIn_cons, List.forIn_nil]
  refine wpAny_bind (wpAny_bind (wpAny_holding (orEnd_end (s := { s with heap := g1 }) hh (t1.extBut s1.extBut (Ne.symm z1)) (y1.extBut s1.extBut n1.1) hx fun g3 s3 => ?_)))
  refine wpAny_bind ?_
  refine wpAny_bind (m := forIn ([(Value.ref i2, 1), (Value.ref i3, 2)] : List (Value × Nat)) PUnit.unit _) ?_
  simp only [List.forIn_cons, List.forIn_nil]
  have up3 : ∀ d o, d ≠ z → d ≠ i1 → s.heap.get? d = some o → g3.get? d = some o := fun d o d1 d2 e => s3 _ _ d2 (s1.extBut _ _ d1 e)
  have y2' : g3.IsList l2 ys := (y2.extBut s1.extBut n2.1).extBut s3 n2.2.2.2.1
  have y3' : g3.IsList l3 us := (y3.extBut s1.extBut n3.1).extBut s3 n3.2.2.2.1
  refine wpAny_bind (wpAny_bind (orEnd_end hh (t2.at fun o e => up3 _ o (Ne.symm z2) (Ne.symm i12) e) y2' hy fun g4 s4 => ?_))
  simp only [Option.isSome_none, Bool.false_eq_true, if_false]
  refine wpAny_pure (wpAny_bind (wpAny_bind (orEnd_end hh ((t3.at fun o e => up3 _ o (Ne.symm z3) (Ne.symm i13) e).extBut s4 (Ne.symm i23)) (y3'.extBut s4 n3.2.2.2.2.1) hu fun g5 s5 => ?_)))
  simp only [Option.isSome_none, Bool.false_eq_true, if_false]
  refine wpAny_pure (wpAny_pure (wpAny_bind (wpAny_rule ?_)))
  have keep : ∀ d o, d ∉ [z, i1, i2, i3] → s.heap.get? d = some o → g5.get? d = some o := fun d o hd e => by
    simp only [List.mem_cons, List.not_mem_nil, or_false, not_or] at hd
    exact s5 _ _ hd.2.2.2 (s4 _ _ hd.2.2.1 (up3 d o hd.1 hd.2.1 e))
  exact stop_now hh fun g e k he => hE g e (fun d o hd q => k d o (keep d o hd q)) he
end
end DL

set_option Elab.async false
set_option linter.all false
set_option maxRecDepth 100000
set_option maxHeartbeats 4000000
namespace DL
open PySem PySem.Spec PySem.Builtin.SmallTypes
section
variable {prog : Program} {w : World} {A : Around} {E : Value → Shared → Prop} {s : Shared} {z TI TO i1 i2 i3 l1 l2 l3 : Addr} {i : Nat} {xs ys us : Array Value} {x y u : Value}
/-- a strict zip of three, between two turns -/
structure Z3St (h : Heap) (z TI TO i1 i2 i3 l1 l2 l3 : Addr) (i : Nat) : Prop where
  z : ∃ v f, IsZ3 h z TI TO v f ∧ (v = .none ∨ ∃ T : Addr, v = rawInt T)
  pI : IsTri h TI (.ref i1) (.ref i2) (.ref i3)
  pO : ∃ a b c, IsTri h TO a b c
  t1 : h.IsListIter i1 l1 i
  t2 : h.IsListIter i2 l2 i
  t3 : h.IsListIter i3 l3 i
theorem free3_none {v : Value} {f : Bool} {R : Bool → Shared → Prop} (hz : IsZ3 s.heap z TI TO .none f) (h : R true s) : wpAny (model prog w) A (ownedTupleIsFree (.ref z)) R E s := by
  unfold ownedTupleIsFree
  exact wpAny_bind (wpAny_field hz rfl (x := .none) rfl (wpAny_pure h))
theorem free3_gone {T : Addr} {f : Bool} {R : Bool → Shared → Prop} (hz : IsZ3 s.heap z TI TO (rawInt T) f) (g : s.heap.get? T = none) (h : R true s) : wpAny (model prog w) A (ownedTupleIsFree (.ref z)) R E s := by
  unfold ownedTupleIsFree
  refine wpAny_bind (wpAny_field hz rfl (x := rawInt T) rfl ?_)
  show wpAny _ _ (loadIfAlive ((T : Int).toNat) >>= _) _ _ _
  rw [Int.toNat_natCast]
  have q : ∀ R : Option Obj → Shared → Prop, R none s → wpAny (model prog w) A (loadIfAlive T) R E s := fun R hr => by
    have hr2 : R (s.heap.get? T) s := by rw [g]; exact hr
    exact fun _ _ _ => hr2
  exact wpAny_bind (q _ (wpAny_pure h))
theorem next3_item {Q : Option Value → Shared → Prop} (D : Apart3 z TI TO i1 i2 i3 l1 l2 l3) (S : Z3St s.heap z TI TO i1 i2 i3 l1 l2 l3 i) (y1 : s.heap.IsList l1 xs) (y2 : s.heap.IsList l2 ys) (y3 : s.heap.IsList l3 us) (hx : xs[i]? = some x) (hy : ys[i]? = some y) (hu : us[i]? = some u)
    (hQ : ∀ g, Z3St g z TI TO i1 i2 i3 l1 l2 l3 (i + 1) → IsTri g s.heap.objs.size x y u → (∀ d o, d ∉ [z, TO, i1, i2, i3] → s.heap.get? d = some o → g.get? d = some o) → Q (some (.ref s.heap.objs.size)) { s with heap := g }) : wpAny (model prog w) A (pyNext (.ref z)) Q E s := by
  obtain ⟨⟨v, f, hz, hv⟩, pI, ⟨a, b, c, pO⟩, t1, t2, t3⟩ := S
  have hT : s.TypeIs (.ref z) "zip" := ⟨_, hz, rfl⟩
  have nd := D.nd
  simp only [List.nodup_cons, List.mem_cons, List.not_mem_nil, or_false, not_or, List.nodup_nil, and_true, not_false_eq_true] at nd
  obtain ⟨⟨zTI, zTO, z1, z2, z3⟩, ⟨TITO, TI1, TI2, TI3⟩, ⟨TO1, TO2, TO3⟩, ⟨i12, i13⟩, i23⟩ := nd
  have kI : TI ∉ [z, TO, i1, i2, i3] := by simp only [List.mem_cons, List.not_mem_nil, or_false, not_or]; exact ⟨Ne.symm zTI, TITO, TI1, TI2, TI3⟩
  have fin : (∀ (A : Around) (E : Value → Shared → Prop) (R : Bool → Shared → Prop), R true s → wpAny (model prog w) A (ownedTupleIsFree (.ref z)) R E s) → wpAny (model prog w) A (pyNext (.ref z)) Q E s := fun fr => by
    unfold pyNext
    refine wpAny_bind (wpAny_attempt (wpAny_callSpecial?_slot (name := Str.ofString "__next__") hT F.slot_zip_next (wpAny_call_entry F.slot_zip_next hT F.entry_zip_next ?_ (F.args_zip_next_1 _))))
    exact zip3_item D hz (fr _ _) pI pO t1 t2 t3 y1 y2 y3 hx hy hu fun g a1 a2 a3 a4 a5 a6 a7 => wpAny_pure (hQ g ⟨⟨_, _, a1, .inr ⟨_, rfl⟩⟩, a7 _ _ kI pI, ⟨_, _, _, a2⟩, a3, a4, a5⟩ a6 a7)
  rcases hv with rfl | ⟨T, rfl⟩
  · exact fin fun _ _ _ h => free3_none (v := .none) hz h
  · cases e : s.heap.get? T with
    | none => exact fin fun _ _ _ h => free3_gone hz e h
    | some oT =>
      unfold pyNext
      refine wpAny_bind (wpAny_attempt (wpAny_callSpecial?_slot (name := Str.ofString "__next__") hT F.slot_zip_next (wpAny_call_entry F.slot_zip_next hT F.entry_zip_next ?_ (F.args_zip_next_1 _))))
      have less : ∀ d, d ∉ [z, TO, i1, i2, i3] → d ∉ [z, i1, i2, i3] := fun d hd => by
        simp only [List.mem_cons, List.not_mem_nil, or_false, not_or] at hd ⊢
        exact ⟨hd.1, hd.2.2.1, hd.2.2.2.1, hd.2.2.2.2⟩
      have kO : TO ∉ [z, i1, i2, i3] := by simp only [List.mem_cons, List.not_mem_nil, or_false, not_or]; exact ⟨Ne.symm zTO, TO1, TO2, TO3⟩
      exact zip3_held D hz e pI t1 t2 t3 y1 y2 y3 hx hy hu fun g a1 a3 a4 a5 a6 a7 => wpAny_pure (hQ g ⟨⟨_, _, a1, .inr ⟨_, rfl⟩⟩, a7 _ _ (less _ kI) pI, ⟨a, b, c, a7 _ _ kO pO⟩, a3, a4, a5⟩ a6 fun d o hd q => a7 d o (less d hd) q)
theorem next3_end {Q : Option Value → Shared → Prop} (hh : A.handled = none) (D : Apart3 z TI TO i1 i2 i3 l1 l2 l3) (S : Z3St s.heap z TI TO i1 i2 i3 l1 l2 l3 i) (y1 : s.heap.IsList l1 xs) (y2 : s.heap.IsList l2 ys) (y3 : s.heap.IsList l3 us) (hx : xs[i]? = none) (hy : ys[i]? = none) (hu : us[i]? = none)
    (hQ : ∀ g, (∀ d o, d ∉ [z, TO, i1, i2, i3] → s.heap.get? d = some o → g.get? d = some o) → Q none { s with heap := g }) : wpAny (model prog w) A (pyNext (.ref z)) Q E s := by
  obtain ⟨⟨v, f, hz, hv⟩, pI, ⟨a, b, c, pO⟩, t1, t2, t3⟩ := S
  have hT : s.TypeIs (.ref z) "zip" := ⟨_, hz, rfl⟩
  have less : ∀ d, d ∉ [z, TO, i1, i2, i3] → d ∉ [z, i1, i2, i3] := fun d hd => by
    simp only [List.mem_cons, List.not_mem_nil, or_false, not_or] at hd ⊢
    exact ⟨hd.1, hd.2.2.1, hd.2.2.2.1, hd.2.2.2.2⟩
  have fin : (∀ (A : Around) (E : Value → Shared → Prop) (R : Bool → Shared → Prop), R true s → wpAny (model prog w) A (ownedTupleIsFree (.ref z)) R E s) → wpAny (model prog w) A (pyNext (.ref z)) Q E s := fun fr => by
    unfold pyNext
    refine wpAny_bind (wpAny_attempt (wpAny_callSpecial?_slot (name := Str.ofString "__next__") hT F.slot_zip_next (wpAny_call_entry F.slot_zip_next hT F.entry_zip_next ?_ (F.args_zip_next_1 _))))
    refine zip3_end hh D hz (fr _ _) pI pO t1 t2 t3 y1 y2 y3 hx hy hu fun g e k ⟨o, ho, hc⟩ => ?_
    exact wpAny_bind (wpAny_isInstance (T := "StopIteration") (b := true) ⟨o, ho, hc⟩ isSubtype_stop (wpAny_pure (hQ g fun d o hd q => k d o (less d hd) q)))
  rcases hv with rfl | ⟨T, rfl⟩
  · exact fin fun _ _ _ h => free3_none (v := .none) hz h
  · cases e : s.heap.get? T with
    | none => exact fin fun _ _ _ h => free3_gone hz e h
    | some oT =>
      unfold pyNext
      refine wpAny_bind (wpAny_attempt (wpAny_callSpecial?_slot (name := Str.ofString "__next__") hT F.slot_zip_next (wpAny_call_entry F.slot_zip_next hT F.entry_zip_next ?_ (F.args_zip_next_1 _))))
      refine zip3_endH hh D hz e pI t1 t2 t3 y1 y2 y3 hx hy hu fun g e2 k ⟨o, ho, hc⟩ => ?_
      exact wpAny_bind (wpAny_isInstance (T := "StopIteration") (b := true) ⟨o, ho, hc⟩ isSubtype_stop (wpAny_pure (hQ g fun d o hd q => k d o (less d hd) q)))
end
end DL

set_option Elab.async false
set_option linter.all false
set_option maxRecDepth 100000
set_option maxHeartbeats 4000000
namespace DL
open PySem PySem.Spec PySem.Builtin.SmallTypes
abbrev kwS : List (Str × Value) := [(Str.ofString "strict", .bool true)]
theorem tc_zip3 (a b c : Value) : checkTypeCall "zip" ⟨[a, b, c], kwS⟩ = pure () := by kernel_rfl
theorem nc_zip3 (a b c : Value) : checkBuiltinCall "zip.__new__" ⟨[.type "zip", a, b, c], kwS⟩ = pure () := by kernel_rfl
abbrev zA (h : Heap) (l : Addr) : Heap := h.push { cls := .type "list_iterator", data := .fields #[.ref l, .int 0 0] }
abbrev z3C (h : Heap) (l1 l2 l3 : Addr) : Heap := zA (zA (zA h l1) l2) l3
abbrev z3D (h : Heap) (l1 l2 l3 : Addr) : Heap := (z3C h l1 l2 l3).push { cls := .type "tuple", data := .seq #[.ref h.objs.size, .ref (zA h l1).objs.size, .ref (zA (zA h l1) l2).objs.size] }
abbrev z3E (h : Heap) (l1 l2 l3 : Addr) : Heap := (z3D h l1 l2 l3).push { cls := .type "tuple", data := .seq #[.none, .none, .none] }
abbrev z3F (h : Heap) (l1 l2 l3 : Addr) : Heap := (z3E h l1 l2 l3).push { cls := .type "zip", data := .fields #[.none, .bool false, .bool true, .ref (z3C h l1 l2 l3).objs.size, .ref (z3D h l1 l2 l3).objs.size] }
theorem meets_zip3 (l1 l2 l3 : Addr) (xs ys us : Array Value) :
    Meets (Builtin.«zip.__new__» ⟨[.type "zip", .ref l1, .ref l2, .ref l3], kwS⟩) (fun _ R s => s.heap.IsList l1 xs ∧ s.heap.IsList l2 ys ∧ s.heap.IsList l3 us ∧ R (.ok (.ret (.ref (z3E s.heap l1 l2 l3).objs.size))) { s with heap := z3F s.heap l1 l2 l3 }) :=
  .of_wp fun prog w A R s h => by
    obtain ⟨hp, g, d, tk, os⟩ := s
    obtain ⟨a1, a2, a3, h⟩ := h
    have hsub := sub_zip
    have b1 : Heap.IsList (Shared.heap ⟨hp, g, d, tk, os⟩) l1 xs := a1
    have b2 : Heap.IsList (Shared.heap ⟨zA hp l1, g, d, tk, os⟩) l2 ys := Heap.IsList.push a2 _
    have b3 : Heap.IsList (Shared.heap ⟨zA (zA hp l1) l2, g, d, tk, os⟩) l3 us := Heap.IsList.push (Heap.IsList.push a3 _) _
    wp_walk using wpAny_pyIter_list b1, wpAny_pyIter_list b2, wpAny_pyIter_list b3
    exact ⟨_, rfl, h⟩
end DL

set_option Elab.async false
set_option linter.all false
set_option maxRecDepth 100000
set_option maxHeartbeats 4000000
namespace DL
open PySem PySem.Spec PySem.Builtin.SmallTypes PyProof.Rows
theorem ao_zip3 (o a b c : Value) : argsOk "object.__init__" ⟨[o, a, b, c], kwS⟩ := by
  unfold argsOk
  rw [signature?_of (id := "object.__init__") (n := ['_', '_', 't', 'i', 'n', 'i', '_', '_']) (o := ['t', 'c', 'e', 'j', 'b', 'o']) (by kernel_rfl) PySem.F.owner_object]
  kernel_rfl
theorem six_no {n l : Nat} (h : l < n) : l ∉ ([n + 5, n + 3, n + 4, n, n + 1, n + 2] : List Nat) := by simp; omega
theorem six_ge {n d : Nat} (h : d ∈ ([n + 5, n + 3, n + 4, n, n + 1, n + 2] : List Nat)) : n ≤ d := by simp at h; omega
section
variable {prog : Program} {w : World} {A : Around} {E : Value → Shared → Prop} {s : Shared} {l1 l2 l3 : Addr} {xs ys us : Array Value}
theorem call_zip3 {Q : Value → Shared → Prop} (y1 : s.heap.IsList l1 xs) (y2 : s.heap.IsList l2 ys) (y3 : s.heap.IsList l3 us)
    (h : ∀ g z TI TO i1 i2 i3, Apart3 z TI TO i1 i2 i3 l1 l2 l3 → Z3St g z TI TO i1 i2 i3 l1 l2 l3 0 → (∀ d ∈ [z, TI, TO, i1, i2, i3], s.heap.objs.size ≤ d) → (∀ d o, s.heap.get? d = some o → g.get? d = some o) → Q (.ref z) { s with heap := g }) :
    wpAny (model prog w) A (call (.type "zip") [.ref l1, .ref l2, .ref l3] kwS) Q E s := by
  refine callType_newKw PySem.F.called_zip (by decide) (tc_zip3 _ _ _) (nc_zip3 _ _ _) (fun obj => ao_zip3 obj _ _ _) PySem.F.entry_zip_new (meets_zip3 l1 l2 l3 xs ys us) ⟨y1, y2, y3, ?_⟩
  have e1 : (zA s.heap l1).objs.size = s.heap.objs.size + 1 := Heap.size_push ..
  have e2 : (zA (zA s.heap l1) l2).objs.size = s.heap.objs.size + 2 := by rw [Heap.size_push, e1]
  have e3 : (z3C s.heap l1 l2 l3).objs.size = s.heap.objs.size + 3 := by rw [Heap.size_push, e2]
  have e4 : (z3D s.heap l1 l2 l3).objs.size = s.heap.objs.size + 4 := by rw [Heap.size_push, e3]
  have e5 : (z3E s.heap l1 l2 l3).objs.size = s.heap.objs.size + 5 := by rw [Heap.size_push, e4]
  have old : ∀ d o, s.heap.get? d = some o → (z3F s.heap l1 l2 l3).get? d = some o := fun d o q => Heap.get?_push_of_some _ (Heap.get?_push_of_some _ (Heap.get?_push_of_some _ (Heap.get?_push_of_some _ (Heap.get?_push_of_some _ (Heap.get?_push_of_some _ q)))))
  have g6 : (z3F s.heap l1 l2 l3).get? (z3E s.heap l1 l2 l3).objs.size = some _ := Heap.get?_push_size _ rfl
  have g5 : (z3F s.heap l1 l2 l3).get? (z3D s.heap l1 l2 l3).objs.size = some _ := Heap.get?_push_of_some _ (Heap.get?_push_size _ rfl)
  have g4 : (z3F s.heap l1 l2 l3).get? (z3C s.heap l1 l2 l3).objs.size = some _ := Heap.get?_push_of_some _ (Heap.get?_push_of_some _ (Heap.get?_push_size _ rfl))
  have g3 : (z3F s.heap l1 l2 l3).get? (zA (zA s.heap l1) l2).objs.size = some _ := Heap.get?_push_of_some _ (Heap.get?_push_of_some _ (Heap.get?_push_of_some _ (Heap.get?_push_size _ rfl)))
  have g2 : (z3F s.heap l1 l2 l3).get? (zA s.heap l1).objs.size = some _ := Heap.get?_push_of_some _ (Heap.get?_push_of_some _ (Heap.get?_push_of_some _ (Heap.get?_push_of_some _ (Heap.get?_push_size _ rfl))))
  have g1 : (z3F s.heap l1 l2 l3).get? s.heap.objs.size = some _ := Heap.get?_push_of_some _ (Heap.get?_push_of_some _ (Heap.get?_push_of_some _ (Heap.get?_push_of_some _ (Heap.get?_push_of_some _ (Heap.get?_push_size _ rfl)))))
  have b1 : l1 < s.heap.objs.size := let ⟨_, q, _⟩ := y1; Heap.lt_size q
  have b2 : l2 < s.heap.objs.size := let ⟨_, q, _⟩ := y2; Heap.lt_size q
  have b3 : l3 < s.heap.objs.size := let ⟨_, q, _⟩ := y3; Heap.lt_size q
  show _ ∧ _
  refine ⟨⟨_, g6, rfl⟩, h (z3F s.heap l1 l2 l3) _ (z3C s.heap l1 l2 l3).objs.size (z3D s.heap l1 l2 l3).objs.size s.heap.objs.size (zA s.heap l1).objs.size (zA (zA s.heap l1) l2).objs.size ⟨?_, ?_, ?_, ?_⟩ ⟨⟨_, _, g6, .inl rfl⟩, g4, ⟨_, _, _, g5⟩, ⟨_, g1, rfl, rfl⟩, ⟨_, g2, rfl, rfl⟩, ⟨_, g3, rfl, rfl⟩⟩ ?_ old⟩
  · rw [e1, e2, e3, e4, e5]; simp
  · rw [e1, e2, e3, e4, e5]; exact six_no b1
  · rw [e1, e2, e3, e4, e5]; exact six_no b2
  · rw [e1, e2, e3, e4, e5]; exact six_no b3
  · rw [e1, e2, e3, e4, e5]; exact fun d hd => six_ge hd
end
end DL

set_option Elab.async false
set_option linter.all false
set_option maxRecDepth 100000
set_option maxHeartbeats 4000000
namespace DL
open PySem PySem.Spec PySem.Builtin.SmallTypes PyProof.Rows
/-- the tuples that were collected -/
structure Tris (h : Heap) (S : Addr) (bad : List Addr) (acc : Array Value) (xs ys us : Array Value) (i : Nat) : Prop where
  size : acc.size = i
  at' : ∀ j, j < i → ∃ (T : Addr) (x y u : Value), acc[j]? = some (.ref T) ∧ xs[j]? = some x ∧ ys[j]? = some y ∧ us[j]? = some u ∧ IsTri h T x y u ∧ T ∉ bad
  lo : ∀ (j : Nat) (T : Addr), acc[j]? = some (.ref T) → S < T
  rise : ∀ (j k : Nat) (T U : Addr), j < k → acc[j]? = some (.ref T) → acc[k]? = some (.ref U) → T < U
section
variable {prog : Program} {w : World} {A : Around} {R : Result → Shared → Prop} {z TI TO i1 i2 i3 l1 l2 l3 S : Addr} {xs ys us : Array Value} {n : Nat}
theorem loop3 (hh : A.in1.handled = none) (D : Apart3 z TI TO i1 i2 i3 l1 l2 l3) (hn : n ≤ sizeLine) (n1 : xs.size = n) (n2 : ys.size = n) (n3 : us.size = n) (hS : S ∉ [z, TI, TO, i1, i2, i3, l1, l2, l3]) (res : Value) :
    ∀ (k i : Nat) (s : Shared) (acc : Array Value) (c : Nat), i + k = n → Z3St s.heap z TI TO i1 i2 i3 l1 l2 l3 i → s.heap.IsList l1 xs → s.heap.IsList l2 ys → s.heap.IsList l3 us →
    s.heap.get? S = some { cls := .type "list", dict := none, data := .seq acc c, slots := #[] } → Tris s.heap S [z, TO, i1, i2, i3, S] acc xs ys us i →
    (∀ g acc' c', (∀ d o, d ∉ [z, TO, i1, i2, i3, S] → s.heap.get? d = some o → g.get? d = some o) → g.get? S = some { cls := .type "list", dict := none, data := .seq acc' c', slots := #[] } → Tris g S [z, TO, i1, i2, i3, S] acc' xs ys us n → R (.ok (.ret res)) { s with heap := g }) →
    codeAny (model prog w) A (.builtin "list.extend.loop" ⟨[.ref S, .ref z, res], []⟩) R s := by
  have hS0 := hS
  simp only [List.mem_cons, List.not_mem_nil, or_false, not_or] at hS0
  obtain ⟨sz0, sTI, sTO, s1, s2, s3, m1, m2, m3⟩ := hS0
  have nd := D.nd
  have q1 := D.n1
  have q2 := D.n2
  have q3 := D.n3
  simp only [List.nodup_cons, List.mem_cons, List.not_mem_nil, or_false, not_or, List.nodup_nil, and_true, not_false_eq_true] at nd q1 q2 q3
  intro k
  induction k with
  | zero =>
    intro i s acc c hk st y1 y2 y3 hs tr hR
    refine codeAny_builtin F.entry_extend_loop ?_
    rw [Around.under_plainId F.plain_extend_loop _]
    show wpAny _ A.in1 (pyNext (.ref z) >>= _) _ _ s
    have no : ∀ {a : Array Value}, a.size = n → a[i]? = none := fun h => Array.getElem?_eq_none (by omega)
    refine wpAny_bind (next3_end hh D st y1 y2 y3 (no n1) (no n2) (no n3) fun g k => wpAny_pure ?_)
    have hin : i = n := by omega
    subst hin
    refine hR g acc c (fun d o hd q => k d o (fun z => hd (by simp only [List.mem_cons, List.not_mem_nil, or_false] at z ⊢; rcases z with z | z | z | z | z <;> simp [z])) q) (k S _ (by simp only [List.mem_cons, List.not_mem_nil, or_false, not_or]; exact ⟨sz0, sTO, s1, s2, s3⟩) hs) ⟨tr.size, fun j hj => ?_, tr.lo, tr.rise⟩
    obtain ⟨T, x, y, u, e1, e2, e3, e4, e5, e6⟩ := tr.at' j hj
    refine ⟨T, x, y, u, e1, e2, e3, e4, k T _ (fun z => e6 ?_) e5, e6⟩
    simp only [List.mem_cons, List.not_mem_nil, or_false] at z ⊢
    rcases z with z | z | z | z | z <;> simp [z]
  | succ k ih =>
    intro i s acc c hk st y1 y2 y3 hs tr hR
    refine codeAny_builtin F.entry_extend_loop ?_
    rw [Around.under_plainId F.plain_extend_loop _]
    show wpAny _ A.in1 (pyNext (.ref z) >>= _) _ _ s
    have hi : i < n := by omega
    obtain ⟨x, hx⟩ : ∃ x, xs[i]? = some x := ⟨_, Array.getElem?_eq_getElem (by omega)⟩
    obtain ⟨y, hy⟩ : ∃ y, ys[i]? = some y := ⟨_, Array.getElem?_eq_getElem (by omega)⟩
    obtain ⟨u, hu⟩ : ∃ u, us[i]? = some u := ⟨_, Array.getElem?_eq_getElem (by omega)⟩
    refine wpAny_bind (next3_item D st y1 y2 y3 hx hy hu fun g st' tri kp => ?_)
    obtain ⟨⟨zTI, zTO, z1, z2, z3⟩, ⟨TITO, TI1, TI2, TI3⟩, ⟨TO1, TO2, TO3⟩, ⟨i12, i13⟩, i23⟩ := nd
    have hS' := kp S _ (by simp only [List.mem_cons, List.not_mem_nil, or_false, not_or]; exact ⟨sz0, sTO, s1, s2, s3⟩) hs
    show wpAny _ A.in1 (updateSeq S (·.push (.ref s.heap.objs.size)) >>= _) _ _ _
    have sa : acc.size = i := tr.size
    refine wpAny_bind (wpAny_updateSeq hS' rfl (wpAny_pure ⟨plainId_quiet F.plain_extend_loop _, ?_⟩) (by rw [sa]; omega) (by show (acc.push _).size ≤ sizeLine + 1; rw [Array.size_push, sa]; omega))
    have up : ∀ d o, d ≠ S → g.get? d = some o → (g.update S (Obj.mapSeq (·.push (.ref s.heap.objs.size)))).get? d = some o := fun d o hd e => (Heap.get?_update_other _ _ (Ne.symm hd)).trans e
    have five : ∀ d, d ∉ [z, TO, i1, i2, i3, S] → d ∉ [z, TO, i1, i2, i3] ∧ d ≠ S := fun d hd => by
      simp only [List.mem_cons, List.not_mem_nil, or_false, not_or] at hd ⊢
      exact ⟨⟨hd.1, hd.2.1, hd.2.2.1, hd.2.2.2.1, hd.2.2.2.2.1⟩, hd.2.2.2.2.2⟩
    have ls : ∀ {l : Addr} {a : Array Value}, s.heap.IsList l a → l ∉ [z, TO, i1, i2, i3] → l ≠ S → (g.update S (Obj.mapSeq (·.push (.ref s.heap.objs.size)))).IsList l a := fun {l a} h h1 h2 => by
      obtain ⟨o, e, r⟩ := h
      exact ⟨o, up _ _ h2 (kp _ _ h1 e), r⟩
    have l1n : l1 ∉ [z, TO, i1, i2, i3] := by simp only [List.mem_cons, List.not_mem_nil, or_false, not_or]; exact ⟨q1.1, q1.2.2.1, q1.2.2.2.1, q1.2.2.2.2.1, q1.2.2.2.2.2⟩
    have l2n : l2 ∉ [z, TO, i1, i2, i3] := by simp only [List.mem_cons, List.not_mem_nil, or_false, not_or]; exact ⟨q2.1, q2.2.2.1, q2.2.2.2.1, q2.2.2.2.2.1, q2.2.2.2.2.2⟩
    have l3n : l3 ∉ [z, TO, i1, i2, i3] := by simp only [List.mem_cons, List.not_mem_nil, or_false, not_or]; exact ⟨q3.1, q3.2.2.1, q3.2.2.2.1, q3.2.2.2.2.1, q3.2.2.2.2.2⟩
    have new : s.heap.objs.size ∉ [z, TO, i1, i2, i3, S] := by
      obtain ⟨⟨v, f, hz, _⟩, _, ⟨_, _, _, pO⟩, ⟨_, e1, _⟩, ⟨_, e2, _⟩, ⟨_, e3, _⟩⟩ := st
      simp only [List.mem_cons, List.not_mem_nil, or_false, not_or]
      exact ⟨Nat.ne_of_gt (Heap.lt_size hz), Nat.ne_of_gt (Heap.lt_size pO), Nat.ne_of_gt (Heap.lt_size e1), Nat.ne_of_gt (Heap.lt_size e2), Nat.ne_of_gt (Heap.lt_size e3), Nat.ne_of_gt (Heap.lt_size hs)⟩
    refine ih (i + 1) _ (acc.push (.ref s.heap.objs.size)) _ (by omega) ?_ (ls y1 l1n (Ne.symm m1)) (ls y2 l2n (Ne.symm m2)) (ls y3 l3n (Ne.symm m3)) (Heap.get?_update_self _ hS' rfl) ⟨by rw [Array.size_push, sa], fun j hj => ?_, fun j T e => ?_, fun j k T U hjk e e' => ?_⟩ fun g' acc' c' k' hS'' tr' => ?_
    · obtain ⟨⟨v, f, hz, hv⟩, pI, ⟨a, b, c, pO⟩, t1, t2, t3⟩ := st'
      exact ⟨⟨v, f, up _ _ (Ne.symm sz0) hz, hv⟩, up _ _ (Ne.symm sTI) pI, ⟨a, b, c, up _ _ (Ne.symm sTO) pO⟩, t1.at fun o e => up _ o (Ne.symm s1) e, t2.at fun o e => up _ o (Ne.symm s2) e, t3.at fun o e => up _ o (Ne.symm s3) e⟩
    · by_cases hji : j < i
      · obtain ⟨T, x, y, u, e1, e2, e3, e4, e5, e6⟩ := tr.at' j hji
        refine ⟨T, x, y, u, ?_, e2, e3, e4, up _ _ (five T e6).2 (kp T _ (five T e6).1 e5), e6⟩
        rw [Array.getElem?_push, if_neg (by omega)]; exact e1
      · have : j = i := by omega
        subst this
        exact ⟨_, x, y, u, by rw [Array.getElem?_push, if_pos sa.symm], hx, hy, hu, up _ _ (five _ new).2 tri, new⟩
    · rw [Array.getElem?_push] at e
      split at e
      · cases e; exact Heap.lt_size hs
      · exact tr.lo j T e
    · rw [Array.getElem?_push] at e e'
      have oldT : ∀ (j : Nat) (T : Addr), acc[j]? = some (Value.ref T) → T < s.heap.objs.size := fun j T e => by
        have hj : j < acc.size := (Array.getElem?_eq_some_iff.mp e).1
        obtain ⟨T', x, y, u, e1, _, _, _, e5, _⟩ := tr.at' j (by omega)
        rw [e] at e1; cases e1
        exact Heap.lt_size e5
      split at e
      · split at e'
        · omega
        · have := (Array.getElem?_eq_some_iff.mp e').1; omega
      · split at e'
        · cases e'; exact oldT j T e
        · exact tr.rise j k T U hjk e e'
    · exact hR g' acc' c' (fun d o hd q => k' d o hd (up d o (five d hd).2 (kp d o (five d hd).1 q))) hS'' tr'
end
end DL

set_option Elab.async false
set_option linter.all false
set_option maxRecDepth 100000
set_option maxHeartbeats 4000000
namespace DL
open PySem PySem.Spec PySem.Builtin.SmallTypes PyProof.Rows
theorem zip_no_len : typeLookup (.type "zip") "__len__" = pure none := am_miss_of_fast (by first | decide +kernel | rfl)
theorem zip_no_hint : typeLookup (.type "zip") "__length_hint__" = pure none := am_miss_of_fast (by first | decide +kernel | rfl)
section
variable {prog : Program} {w : World} {A : Around} {E : Value → Shared → Prop} {s : Shared} {R : Result → Shared → Prop} {z TI TO i1 i2 i3 l1 l2 l3 S : Addr} {xs ys us : Array Value} {n : Nat}
theorem iter3 {v : Value} {f : Bool} {Q : Value → Shared → Prop} (hz : IsZ3 s.heap z TI TO v f) (h : Q (.ref z) s) : wpAny (model prog w) A (pyIter (.ref z)) Q E s := by
  have hT : s.TypeIs (.ref z) "zip" := ⟨_, hz, rfl⟩
  refine wpAny_pyIter_slot hT F.slot_zip_iter (wpAny_call_entry F.slot_zip_iter hT F.entry_zip_iter ?_ (F.args_zip_iter_1 _))
  show wpAny _ _ (ret (.ref z)) _ _ s
  exact wpAny_pure ⟨_, rfl, "zip", _, hT, F.slot_zip_next.lookup, h⟩
theorem extend3 (hh : A.in1.handled = none) (D : Apart3 z TI TO i1 i2 i3 l1 l2 l3) (hn : n ≤ sizeLine) (n1 : xs.size = n) (n2 : ys.size = n) (n3 : us.size = n) (hS : S ∉ [z, TI, TO, i1, i2, i3, l1, l2, l3]) (res : Value)
    (st : Z3St s.heap z TI TO i1 i2 i3 l1 l2 l3 0) (y1 : s.heap.IsList l1 xs) (y2 : s.heap.IsList l2 ys) (y3 : s.heap.IsList l3 us) (c₀ : Nat) (hs : s.heap.get? S = some { cls := .type "list", data := .seq #[] c₀ })
    (hR : ∀ g acc' c', (∀ d o, d ∉ [z, TO, i1, i2, i3, S] → s.heap.get? d = some o → g.get? d = some o) → g.get? S = some { cls := .type "list", dict := none, data := .seq acc' c', slots := #[] } → Tris g S [z, TO, i1, i2, i3, S] acc' xs ys us n → R (.ok (.ret res)) { s with heap := g }) :
    wpAny (model prog w) A.in1 (Builtin.List.listExtendWith (.ref S) (.ref z) res)
      (fun fin s' => match fin with | .done f => R (.ok f) s' | .again c' => c'.quiet = true ∧ codeAny (model prog w) A c' R s') (fun e s' => R (.error e) s') s := by
  obtain ⟨v, f, hz, hv⟩ := st.z
  have hT : s.TypeIs (.ref z) "zip" := ⟨_, hz, rfl⟩
  have hS0 := hS
  simp only [List.mem_cons, List.not_mem_nil, or_false, not_or] at hS0
  obtain ⟨sz0, sTI, sTO, s1, s2, s3, m1, m2, m3⟩ := hS0
  unfold Builtin.List.listExtendWith
  refine wpAny_bind (wpAny_typeOf hT ?_)
  have h1 : Builtin.List.listSameRef (.ref S) (.ref z) = false := by simp [Builtin.List.listSameRef, sz0]
  have h2 : (Value.type "zip" == Value.type "list") = false := by decide
  have h3 : (Value.type "zip" == Value.type "tuple") = false := by decide
  simp only [h1, h2, h3, Bool.or_false, Bool.false_eq_true, if_false]
  refine wpAny_bind (iter3 hz ?_)
  refine wpAny_bind (wpAny_holding ?_)
  unfold Builtin.List.listLengthHint
  refine wpAny_bind (wpAny_specialOf hT zip_no_len ?_)
  show wpAny _ A.in1 (specialOf (Value.ref z) (Str.ofString "__length_hint__") >>= _) _ _ _
  refine wpAny_bind (wpAny_specialOf hT zip_no_hint ?_)
  refine wpAny_pure ?_
  show wpAny _ A.in1 (rule "list.extend.makes-room" >>= fun _ => Builtin.List.listTouch (.ref S) >>= fun _ => again (.builtin "list.extend.loop" ⟨[.ref S, .ref z, res], []⟩)) _ _ _
  refine wpAny_bind (wpAny_rule (wpAny_bind ?_))
  show wpAny _ A.in1 (updateSeq S (·.push .none) >>= fun _ => updateSeq S (·.pop)) _ _ _
  refine wpAny_bind (wpAny_updateSeq hs rfl ?_)
  have hs2 := Heap.get?_update_self (Obj.mapSeq (·.push Value.none)) hs rfl
  refine wpAny_updateSeq hs2 rfl ?_
  have hs3 := Heap.get?_update_self (Obj.mapSeq (·.pop)) hs2 rfl
  have up : ∀ d o, d ≠ S → s.heap.get? d = some o → ((s.heap.update S (Obj.mapSeq (·.push Value.none))).update S (Obj.mapSeq (·.pop))).get? d = some o := fun d o hd e => (Heap.get?_update_other _ _ (Ne.symm hd)).trans ((Heap.get?_update_other _ _ (Ne.symm hd)).trans e)
  have ls : ∀ {l : Addr} {a : Array Value}, s.heap.IsList l a → l ≠ S → ((s.heap.update S (Obj.mapSeq (·.push Value.none))).update S (Obj.mapSeq (·.pop))).IsList l a := fun {l a} h h2 => by
    obtain ⟨o, e, r⟩ := h
    exact ⟨o, up _ _ h2 e, r⟩
  refine wpAny_pure ⟨plainId_quiet F.plain_extend_loop _, loop3 hh D hn n1 n2 n3 hS res n 0 _ _ _ (Nat.zero_add n) ?_ (ls y1 (Ne.symm m1)) (ls y2 (Ne.symm m2)) (ls y3 (Ne.symm m3)) hs3 ⟨rfl, fun j hj => absurd hj (Nat.not_lt_zero j), fun j T e => by simp at e, fun j k T U _ e => by simp at e⟩ fun g acc' c' k e tr => ?_⟩
  · obtain ⟨⟨v, f, hz, hv⟩, pI, ⟨a, b, c, pO⟩, t1, t2, t3⟩ := st
    exact ⟨⟨v, f, up _ _ (Ne.symm sz0) hz, hv⟩, up _ _ (Ne.symm sTI) pI, ⟨a, b, c, up _ _ (Ne.symm sTO) pO⟩, t1.at fun o e => up _ o (Ne.symm s1) e, t2.at fun o e => up _ o (Ne.symm s2) e, t3.at fun o e => up _ o (Ne.symm s3) e⟩
  · refine hR g acc' c' (fun d o hd q => k d o hd (up d o (fun z => hd (by simp [z])) q)) e tr
end
end DL

set_option Elab.async false
set_option linter.all false
set_option maxRecDepth 100000
set_option maxHeartbeats 4000000
namespace DL
open PySem PySem.Spec PySem.Builtin.SmallTypes PyProof.Rows
section
variable {prog : Program} {w : World} {A : Around} {E : Value → Shared → Prop} {s : Shared} {z TI TO i1 i2 i3 l1 l2 l3 : Addr} {xs ys us : Array Value} {n : Nat}
/-- list(z), z a strict zip of three lists of one length -/
theorem call_list3 {Q : Value → Shared → Prop} (hh : A.handled = none) (D : Apart3 z TI TO i1 i2 i3 l1 l2 l3) (hn : n ≤ sizeLine) (n1 : xs.size = n) (n2 : ys.size = n) (n3 : us.size = n)
    (st : Z3St s.heap z TI TO i1 i2 i3 l1 l2 l3 0) (y1 : s.heap.IsList l1 xs) (y2 : s.heap.IsList l2 ys) (y3 : s.heap.IsList l3 us)
    (hQ : ∀ g acc' c', (∀ d o, d ∉ [z, TO, i1, i2, i3] → s.heap.get? d = some o → g.get? d = some o) → g.get? s.heap.objs.size = some { cls := .type "list", dict := none, data := .seq acc' c', slots := #[] } → Tris g s.heap.objs.size [z, TO, i1, i2, i3, s.heap.objs.size] acc' xs ys us n → Q (.ref s.heap.objs.size) { s with heap := g }) :
    wpAny (model prog w) A (call (.type "list") [.ref z]) Q E s := by
  refine callType_codes (Q₁ := fun obj s₁ => obj = .ref s.heap.objs.size ∧ s₁ = { s with heap := s.heap.push { cls := .type "list", data := .seq #[] } }) F.called_list (F.typeCall_list_1 _) F.entry_list_init
    (code_list_new _ ⟨rfl, rfl⟩) fun obj s₁ h₁ => ?_
  obtain ⟨rfl, rfl⟩ := h₁
  have hS : (s.heap.push { cls := .type "list", data := .seq #[] }).get? s.heap.objs.size = some { cls := .type "list", data := .seq #[] } := Heap.get?_push_size _ rfl
  refine ⟨⟨_, hS, rfl⟩, F.args_list_init_2 _ _, ?_⟩
  show wpAny _ _ (do let old ← Builtin.List.listItems (.ref s.heap.objs.size); Builtin.List.listUpdate (.ref s.heap.objs.size) (fun _ => #[]); letGo old.toList.reverse; Builtin.List.listExtendWith (.ref s.heap.objs.size) (.ref z) .none) _ _ _
  refine wpAny_bind ?_
  unfold Builtin.List.listItems
  refine wpAny_bind (wpAny_seqItems hS rfl (wpAny_pure ?_))
  show wpAny _ _ (updateSeq s.heap.objs.size (fun _ => #[]) >>= fun _ => letGo (#[] : Array Value).toList.reverse >>= fun _ => Builtin.List.listExtendWith (.ref s.heap.objs.size) (.ref z) .none) _ _ _
  refine wpAny_bind (wpAny_updateSeq hS rfl ?_)
  have hS2 := Heap.get?_update_self (Obj.mapSeq (fun _ => (#[] : Array Value))) hS rfl
  have up : ∀ d o, s.heap.get? d = some o → ((s.heap.push { cls := .type "list", data := .seq #[] }).update s.heap.objs.size (Obj.mapSeq (fun _ => (#[] : Array Value)))).get? d = some o :=
    fun d o e => (Heap.get?_update_other _ _ (Nat.ne_of_gt (Heap.lt_size e))).trans (Heap.get?_push_of_some _ e)
  refine wpAny_bind (wpAny_letGo ?_)
  obtain ⟨⟨v, f, hz, hv⟩, pI, ⟨a, b, c, pO⟩, t1, t2, t3⟩ := st
  obtain ⟨_, e1, _⟩ := id t1
  obtain ⟨_, e2, _⟩ := id t2
  obtain ⟨_, e3, _⟩ := id t3
  obtain ⟨_, f1, _⟩ := id y1
  obtain ⟨_, f2, _⟩ := id y2
  obtain ⟨_, f3, _⟩ := id y3
  have hSn : s.heap.objs.size ∉ [z, TI, TO, i1, i2, i3, l1, l2, l3] := by
    simp only [List.mem_cons, List.not_mem_nil, or_false, not_or]
    exact ⟨Nat.ne_of_gt (Heap.lt_size hz), Nat.ne_of_gt (Heap.lt_size pI), Nat.ne_of_gt (Heap.lt_size pO), Nat.ne_of_gt (Heap.lt_size e1), Nat.ne_of_gt (Heap.lt_size e2), Nat.ne_of_gt (Heap.lt_size e3), Nat.ne_of_gt (Heap.lt_size f1), Nat.ne_of_gt (Heap.lt_size f2), Nat.ne_of_gt (Heap.lt_size f3)⟩
  have ls : ∀ {l : Addr} {a : Array Value}, s.heap.IsList l a → ((s.heap.push { cls := .type "list", data := .seq #[] }).update s.heap.objs.size (Obj.mapSeq (fun _ => (#[] : Array Value)))).IsList l a := fun {l a} h => by
    obtain ⟨o, e, r⟩ := h
    exact ⟨o, up _ _ e, r⟩
  refine extend3 (A := A.in1) hh D hn n1 n2 n3 hSn .none ⟨⟨v, f, up _ _ hz, hv⟩, up _ _ pI, ⟨a, b, c, up _ _ pO⟩, t1.at fun o e => up _ o e, t2.at fun o e => up _ o e, t3.at fun o e => up _ o e⟩ (ls y1) (ls y2) (ls y3) _ hS2 fun g acc' c' k e tr => ?_
  refine ⟨rfl, hQ g acc' c' (fun d o hd q => k d o (fun m => ?_) (up d o q)) e tr⟩
  simp only [List.mem_cons, List.not_mem_nil, or_false, not_or] at m hd
  rcases m with m | m | m | m | m | m
  · exact hd.1 m
  · exact hd.2.1 m
  · exact hd.2.2.1 m
  · exact hd.2.2.2.1 m
  · exact hd.2.2.2.2 m
  · exact Nat.ne_of_lt (Heap.lt_size q) m
end
end DL

set_option Elab.async false
set_option linter.all false
set_option maxRecDepth 100000
set_option maxHeartbeats 4000000
namespace DL
open PySem PySem.Spec PySem.Builtin.SmallTypes PyProof.Rows
/-! ### a call of a built-in class with keywords -/
section
variable {M : Model} {A : Around} {E : Value → Shared → Prop} {s : Shared} {env : Env}
theorem callWith_typeKw {pos : Pos} {T : String} {e : Expr} {rest : List Expr} {kws : List Keyword} {Q : Value → Shared → Prop}
    (h : wpAny M A (spliced (backTo pos (starEach (e :: rest) env))) (fun vs s₁ => wpAny M A (evalAll ((backToKw pos (keywordEach kws env)).map (·.2)))
      (fun kvs s₂ => wpAny M A (call (.type T) vs (((backToKw pos (keywordEach kws env)).filterMap (·.1)).zip kvs)) Q E s₂) E s₁) E s)
    (he : backTo pos (starEach (e :: rest) env) = (false, eval e env) :: backTo pos (starEach rest env) := by rfl)
    (hplain : (backTo pos (starEach (e :: rest) env)).any (·.1) = false := by rfl)
    (hall : (backToKw pos (keywordEach kws env)).all (·.1.isSome) = true := by rfl)
    (hkw : (backToKw pos (keywordEach kws env)).any (·.1.isNone) = false := by rfl) :
    wpAny M A (callWith pos (.type T) [] (backTo pos (starEach (e :: rest) env)) (backToKw pos (keywordEach kws env))) Q E s := by
  have h2 : wpAny M A (evalArgs (.type T) true (backTo pos (starEach (e :: rest) env)) (backToKw pos (keywordEach kws env))) (fun a s₁ => wpAny M A (call (.type T) ([] ++ a.pos) a.kw) Q E s₁) E s := by
    rw [he] at h ⊢
    exact evalArgs_kwB hall h
  unfold callWith
  refine wpAny_bind (wpAny_holding (wpAny_mono h2 (fun a s₁ h₁ => wpAny_bind (wpAny_standAt ?_)) fun _ _ x => x))
  simp only [hplain, hkw, Bool.or_false]
  refine wpAny_bind (wpAny_pure ?_)
  exact wpAny_bind (wpAny_mono h₁ (fun r s₂ hr => wpAny_bind (wpAny_holding (wpAny_point (wpAny_pure hr)))) fun _ _ x => x)
end
end DL
namespace DL
open PySem PySem.Spec L2
open Evl (Ex)
/-! ### many new things at once -/
def putF (H : Hp) : List (Addr × HO) → Hp
  | [] => H
  | (a, o) :: r => upd (putF H r) a o
theorem putF_off {H : Hp} {b : Addr} : ∀ {l : List (Addr × HO)}, b ∉ l.map (·.1) → putF H l b = H b
  | [], _ => rfl
  | (a, o) :: r, h => by
    rw [List.map_cons, List.mem_cons, not_or] at h
    unfold putF
    rw [upd_ne h.1]; exact putF_off h.2
theorem putF_at {H : Hp} {a : Addr} {o : HO} : ∀ {l : List (Addr × HO)}, (l.map (·.1)).Nodup → (a, o) ∈ l → putF H l a = some o
  | (b, u) :: r, nd, h => by
    rw [List.map_cons, List.nodup_cons] at nd
    unfold putF
    rcases List.mem_cons.mp h with e | e
    · cases e; exact upd_same
    · rw [upd_ne fun z => nd.1 (by rw [← z]; exact List.mem_map_of_mem (f := (·.1)) e)]
      exact putF_at nd.2 e
theorem Go.many {K : PySem.W.Frag} {F H : Hp} {M : Mem} (at0 : At K F M H) : ∀ {l : List (Addr × HO)}, (l.map (·.1)).Nodup → (∀ p ∈ l, H p.1 = none) → Go K F M H (putF F l) M (putF H l)
  | [], _, _ => Go.refl at0
  | (a, o) :: r, nd, h => by
    rw [List.map_cons, List.nodup_cons] at nd
    have g := Go.many at0 nd.2 fun p hp => h p (List.mem_cons_of_mem _ hp)
    exact g.trans (Go.laid g.at' (by rw [putF_off nd.1]; exact h _ List.mem_cons_self))
theorem inv_many {X : Cx} {pins : List (Addr × Obj)} {σ : L2.St} {H : Hp} {s : Shared} {h' : Heap} {tk : Nat} (I : Inv X pins σ H s) (hk : ∀ b o, s.heap.get? b = some o → h'.get? b = some o) {l : List (Addr × HO)} (nd : (l.map (·.1)).Nodup)
    (hn : ∀ p ∈ l, s.heap.objs.size ≤ p.1 ∧ ∀ H' : Hp, ObjOk X.prog X.w H' h' p.1 p.2) : Inv X pins σ (putF H l) { s with heap := h', toks := tk } := by
  have fr : ∀ b, b ∈ l.map (·.1) → s.heap.objs.size ≤ b := fun b hb => by
    obtain ⟨p, hp, rfl⟩ := List.mem_map.mp hb
    exact (hn p hp).1
  have low : ∀ b o, s.heap.get? b = some o → b ∉ l.map (·.1) := fun b o e z => absurd (Heap.lt_size e) (Nat.not_lt.mpr (fr b z))
  have kp : ∀ b u, H b = some u → putF H l b = some u := fun b u e => by
    rw [putF_off fun z => ?_]
    · exact e
    · rw [I.hok.fresh (fr b z)] at e; cases e
  refine I.call' (s' := { s with heap := h', toks := tk }) (ch := []) rfl ⟨fun b o q _ _ _ => hk b o q, fun b o q _ _ _ => ⟨o.slots, hk b o q⟩, fun b o q n _ => by rw [putF_off (low b o q)]; exact n, fun b o q _ => ⟨o, hk b o q⟩, fun b xs q => kp b _ q, fun b o u q => kp b _ q, fun b ps q => ⟨#[], by rw [kp b _ q]; simp⟩⟩ (fun b u q => ?_) I.bare fun b z => by simp at z
  by_cases hb : b ∈ l.map (·.1)
  · obtain ⟨p, hp, rfl⟩ := List.mem_map.mp hb
    rw [putF_at nd (show (p.1, p.2) ∈ l from hp)] at q
    cases q
    exact (hn p hp).2 _
  · rw [putF_off hb] at q
    exact (I.hok b u q).stay (fun c v _ e => hk c v e) (fun c e => kp c _ e) fun c xs e => kp c _ e
end DL

set_option Elab.async false
set_option linter.all false
set_option maxRecDepth 100000
set_option maxHeartbeats 4000000
namespace DL
open PySem PySem.Spec L2
open Evl (Ex)
/-! ### list(zip(a, b, c, strict=True)) -/
def triD : List PyData → List PyData → List PyData → List PyData
  | x :: xs, y :: ys, z :: zs => .tuple [x, y, z] :: triD xs ys zs
  | _, _, _ => []
/-- what is new: the tuples -/
def triO : List Addr → List V → List V → List V → List (Value × Value × Value) → List (Addr × HO)
  | t :: ts, x :: xs, y :: ys, z :: zs, o :: os => (t, .frz { cls := .type "tuple", data := .seq #[o.1, o.2.1, o.2.2] } (.tup [x, y, z])) :: triO ts xs ys zs os
  | _, _, _, _, _ => []
theorem triO_fst : ∀ {ts : List Addr} {xs ys zs : List V} {os : List (Value × Value × Value)}, xs.length = ts.length → ys.length = ts.length → zs.length = ts.length → os.length = ts.length → (triO ts xs ys zs os).map (·.1) = ts
  | [], _, _, _, _, _, _, _, _ => by unfold triO; rfl
  | t :: ts, x :: xs, y :: ys, z :: zs, o :: os, a, b, c, d => by
    unfold triO
    rw [List.map_cons, triO_fst (by simpa using a) (by simpa using b) (by simpa using c) (by simpa using d)]
theorem triO_ok {P : Program} {w : World} {h : Heap} : ∀ {ts : List Addr} {xs ys zs : List V} {os : List (Value × Value × Value)}, Vals xs (os.map (·.1)) → Vals ys (os.map (·.2.1)) → Vals zs (os.map (·.2.2)) →
    (∀ p ∈ ts.zip os, IsTri h p.1 p.2.1 p.2.2.1 p.2.2.2) → ∀ p ∈ triO ts xs ys zs os, ∀ H' : Hp, ObjOk P w H' h p.1 p.2
  | t :: ts, x :: xs, y :: ys, z :: zs, o :: os, a, b, c, d, p, hp, H' => by
    unfold triO at hp
    cases a with | cons a1 a2 =>
    cases b with | cons b1 b2 =>
    cases c with | cons c1 c2 =>
    rcases List.mem_cons.mp hp with e | e
    · subst e
      have q := d (t, o) (by rw [List.zip_cons_cons]; exact List.mem_cons_self)
      refine ⟨q, show 3 ≤ sizeLine by decide, [o.1, o.2.1, o.2.2], .cons a1 (.cons b1 (.cons c1 .nil)), _, q, rfl, _, rfl⟩
    · exact triO_ok a2 b2 c2 (fun p hp => d p (by rw [List.zip_cons_cons]; exact List.mem_cons_of_mem _ hp)) p e H'
  | [], _, _, _, _, _, _, _, _, p, hp, _ => by unfold triO at hp; cases hp
  | _ :: _, [], _, _, _, _, _, _, _, p, hp, _ => by unfold triO at hp; cases hp
  | _ :: _, _ :: _, [], _, _, _, _, _, _, p, hp, _ => by unfold triO at hp; cases hp
  | _ :: _, _ :: _, _ :: _, [], _, _, _, _, _, p, hp, _ => by unfold triO at hp; cases hp
  | _ :: _, _ :: _, _ :: _, _ :: _, [], _, _, _, _, p, hp, _ => by unfold triO at hp; cases hp
theorem triO_dq {K : PySem.W.Frag} {F : Hp} : ∀ {ts : List Addr} {xs ys zs : List V} {os : List (Value × Value × Value)} {dx dy dz : List PyData}, DqAll K F xs dx → DqAll K F ys dy → DqAll K F zs dz → xs.length = ts.length → ys.length = ts.length → zs.length = ts.length → os.length = ts.length →
    (∀ p ∈ triO ts xs ys zs os, F p.1 = some p.2) → DqAll K F (ts.map V.ref) (triD dx dy dz)
  | [], [], [], [], _, _, _, _, .nil, .nil, .nil, _, _, _, _, _ => .nil
  | t :: ts, x :: xs, y :: ys, z :: zs, o :: os, _, _, _, .cons a1 a2, .cons b1 b2, .cons c1 c2, l1, l2, l3, l4, h => by
    unfold triO at h
    unfold triD
    refine .cons (.tup (.inl ⟨_, h _ List.mem_cons_self, rfl⟩) (.cons a1 (.cons b1 (.cons c1 .nil)))) (triO_dq a2 b2 c2 (by simpa using l1) (by simpa using l2) (by simpa using l3) (by simpa using l4) fun p hp => h p (List.mem_cons_of_mem _ hp))
def adOf : Value → Addr
  | .ref a => a
  | _ => 0
section
variable {X : Cx} {a b c : Expr} {wa : WA} {p p2 q pos kp kpos : Pos} {j : Nat}
abbrev wLZip3 (wa : WA) : WE := fun dl M R => wa dl M fun rs M1 => match rs with
  | [.d (.list xs), .d (.list ys), .d (.list zs)] => xs.length = ys.length ∧ xs.length = zs.length ∧ R (.d (.list (triD xs ys zs))) M1
  | _ => False
theorem pd_listZip3 (hc : X.calm = true) (hg : Gl X "list") (hm : X.mg "list" = none) (hg2 : Gl X "zip") (hm2 : X.mg "zip" = none) (ha : PDA X [a, b, c] wa)
    (he : backTo q (starEach [a, b, c] X.env) = (false, eval a X.env) :: backTo q (starEach [b, c] X.env) := by rfl) (hpl : (backTo q (starEach [a, b, c] X.env)).any (·.1) = false := by rfl) :
    PD X (.Call (.Name "list" p) [.Call (.Name "zip" p2) [a, b, c] [⟨some "strict", .Constant (.bool true) j kp, kpos⟩] q] [] pos) (wLZip3 wa) := by
  refine ⟨fun pins s st H Q I h => ?_⟩
  obtain ⟨F, dl, M, R, so, at0, hw, po⟩ := h
  refine PyProof.Rows.Call_ (ld_blt I hg hm (u := .type "list") (by decide +kernel) ?_)
  refine PyProof.Rows.callWith_type1 (PyProof.Rows.args_cons ?_ rfl) rfl rfl
  refine wpAny_Call_Name_kw (ld_blt I hg2 hm2 (u := .type "zip") (by decide +kernel) ?_)
  refine callWith_typeKw ?_ he hpl rfl rfl
  refine thn (PA.run ha q pins s st H (fun vs H1 => ∃ a b c xs ys zs, vs = [.ref a, .ref b, .ref c] ∧ SqL X.K H1 a xs ∧ SqL X.K H1 b ys ∧ SqL X.K H1 c zs ∧ xs.length = ys.length ∧ xs.length = zs.length ∧
    ∀ (S : Addr) (ts : List Addr) (os : List (Value × Value × Value)), H1 S = none → (∀ t ∈ ts, H1 t = none) → (S :: ts).Nodup → ts.length = xs.length → os.length = xs.length → Q (.ref S) (putF H1 ((S, .lst (ts.map V.ref)) :: triO ts xs ys zs os))) I ?_) fun us s1 ⟨vs, H1, I1, r1, q1⟩ => ?_
  · refine tDA_to so at0 hw fun vs F1 H1 rs M1 h1 g1 so1 at1 i1 => ?_
    split at h1
    · rename_i dx dy dz
      obtain ⟨l1, l2, hR⟩ := h1
      obtain ⟨v, u, w, rfl, i2, i3, i4⟩ := isAll3 i1
      cases i2 with | @lst a xs _ q1 d1 =>
      cases i3 with | @lst b ys _ q2 d2 =>
      cases i4 with | @lst c zs _ q3 d3 =>
      have e1 := dqAll_len d1
      have e2 := dqAll_len d2
      have e3 := dqAll_len d3
      refine ⟨a, b, c, xs, ys, zs, rfl, SqL.of (at1.ex _ _ q1), SqL.of (at1.ex _ _ q2), SqL.of (at1.ex _ _ q3), by omega, by omega, fun S ts os hS ht nd z1 z2 => ?_⟩
      have f1 := triO_fst (ts := ts) (xs := xs) (ys := ys) (zs := zs) (os := os) (by omega) (by omega) (by omega) (by omega)
      have nd2 : (((S, HO.lst (ts.map V.ref)) :: triO ts xs ys zs os).map (·.1)).Nodup := by rw [List.map_cons, f1]; exact nd
      have g := Go.many at1 nd2 fun p hp => by
        rcases List.mem_cons.mp hp with e | e
        · subst e; exact hS
        · exact ht _ (by rw [← f1]; exact List.mem_map_of_mem (f := (·.1)) e)
      refine po _ _ _ _ M1 hR (g1.trans g) (.lst (vs := ts.map V.ref) (putF_at nd2 List.mem_cons_self) ?_)
      exact triO_dq (os := os) (dqAll_mono g.ex d1) (dqAll_mono g.ex d2) (dqAll_mono g.ex d3) (by omega) (by omega) (by omega) (by omega) fun p hp => putF_at nd2 (List.mem_cons_of_mem _ hp)
    · exact h1.elim
  · obtain ⟨l1, l2, l3, xs, ys, zs, rfl, hx, hy, hz, n1, n2, hQ⟩ := q1
    obtain ⟨its, rx, px, zx⟩ := I1.list hx
    obtain ⟨jts, ry, py, zy⟩ := I1.list hy
    obtain ⟨kts, rz, pz, zz⟩ := I1.list hz
    cases r1 with | cons r1 r2 =>
    cases r1
    cases r2 with | cons r2 r3 =>
    cases r2
    cases r3 with | cons r3 r4 =>
    cases r3
    cases r4
    refine PyProof.Rows.kws_cons ?_
    refine PyProof.Rows.Constant_bool ?_
    refine PyProof.Rows.kws_nil ?_
    show wpAny (model X.prog X.w) X.A (call (.type "zip") [.ref l1, .ref l2, .ref l3] kwS) _ _ _
    refine call_zip3 px.isList py.isList pz.isList fun g z TI TO i1 i2 i3 D st nw kp => ?_
    refine PyProof.Rows.args_nil ?_
    have ls : ∀ {l : Addr} {a : Array Value}, s1.heap.IsList l a → g.IsList l a := fun {l a} h => by
      obtain ⟨o, e, r⟩ := h
      exact ⟨o, kp _ _ e, r⟩
    have lx := rx.length
    have ly := ry.length
    have lz := rz.length
    refine call_list3 (n := xs.length) (s := { s1 with heap := g }) (I1.ok.hd hc) D zx (by rw [List.size_toArray]; omega) (by rw [List.size_toArray]; omega) (by rw [List.size_toArray]; omega) st (ls px.isList) (ls py.isList) (ls pz.isList) fun g2 acc c k2 hS tr => ?_
    obtain ⟨zv, zf, hzz, _⟩ := st.z
    have hsz : s1.heap.objs.size ≤ g.objs.size := Nat.le_of_lt (Nat.lt_of_le_of_lt (nw z (by simp)) (Heap.lt_size hzz))
    have hlen : acc.toList.length = xs.length := by rw [Array.length_toList]; exact tr.size
    have acce : acc.toList = (acc.toList.map adOf).map Value.ref := by
      apply List.ext_getElem?
      intro j
      rw [List.map_map, List.getElem?_map]
      by_cases hj : j < xs.length
      · obtain ⟨T, x, y, u, e1, _⟩ := tr.at' j hj
        rw [Array.getElem?_toList, e1]; rfl
      · rw [List.getElem?_eq_none (by omega)]; rfl
    have atT : ∀ (j : Nat) (T : Addr), (acc.toList.map adOf)[j]? = some T → acc[j]? = some (.ref T) := fun j T e => by
      have : acc.toList[j]? = some (.ref T) := by rw [acce, List.getElem?_map, e]; rfl
      rwa [Array.getElem?_toList] at this
    have above : ∀ t ∈ acc.toList.map adOf, g.objs.size < t := fun t ht => by
      obtain ⟨j, hj⟩ := List.mem_iff_getElem?.mp ht
      exact tr.lo j t (atT j t hj)
    have nd : (acc.toList.map adOf).Nodup := by
      refine List.Pairwise.imp (R := fun a b : Addr => a < b) (fun {a b} h => Nat.ne_of_lt h) (List.pairwise_iff_getElem.mpr fun i j hi hj hij => ?_)
      exact tr.rise i j _ _ hij (atT i _ (List.getElem?_eq_getElem hi)) (atT j _ (List.getElem?_eq_getElem hj))
    have m1 : (its.zip (jts.zip kts)).map (·.1) = its := by rw [List.map_fst_zip]; rw [List.length_zip]; omega
    have m0 : (its.zip (jts.zip kts)).map (·.2) = jts.zip kts := by rw [List.map_snd_zip]; rw [List.length_zip]; omega
    have m2 : (its.zip (jts.zip kts)).map (·.2.1) = jts := by
      have : (its.zip (jts.zip kts)).map (·.2.1) = ((its.zip (jts.zip kts)).map (·.2)).map (·.1) := by rw [List.map_map]; rfl
      rw [this, m0, List.map_fst_zip]; omega
    have m3 : (its.zip (jts.zip kts)).map (·.2.2) = kts := by
      have : (its.zip (jts.zip kts)).map (·.2.2) = ((its.zip (jts.zip kts)).map (·.2)).map (·.2) := by rw [List.map_map]; rfl
      rw [this, m0, List.map_snd_zip]; omega
    have lo : (its.zip (jts.zip kts)).length = xs.length := by rw [List.length_zip, List.length_zip]; omega
    have lt : (acc.toList.map adOf).length = xs.length := by rw [List.length_map]; exact hlen
    have nd2 : (g.objs.size :: acc.toList.map adOf).Nodup := List.nodup_cons.mpr ⟨fun z => Nat.lt_irrefl _ (above _ z), nd⟩
    have f1 := triO_fst (ts := acc.toList.map adOf) (xs := xs) (ys := ys) (zs := zs) (os := its.zip (jts.zip kts)) (by omega) (by omega) (by omega) (by omega)
    refine ⟨.ref g.objs.size, _, inv_many (tk := s1.toks) I1 (h' := g2) (fun b o e => k2 b o (fun zz => ?_) (kp b o e)) (l := (g.objs.size, .lst ((acc.toList.map adOf).map V.ref)) :: triO (acc.toList.map adOf) xs ys zs (its.zip (jts.zip kts))) (by rw [List.map_cons, f1]; exact nd2) (fun p hp => ?_), rfl, hQ g.objs.size (acc.toList.map adOf) (its.zip (jts.zip kts)) (I1.hok.fresh hsz) (fun t ht => I1.hok.fresh (Nat.le_of_lt (Nat.lt_of_le_of_lt hsz (above t ht)))) nd2 lt lo⟩
    · have hb := Heap.lt_size e
      have : b ∈ [z, TI, TO, i1, i2, i3] := by
        simp only [List.mem_cons, List.not_mem_nil, or_false] at zz ⊢
        rcases zz with h | h | h | h | h <;> simp [h]
      exact absurd hb (Nat.not_lt.mpr (nw b this))
    · rcases List.mem_cons.mp hp with e | e
      · subst e
        refine ⟨hsz, fun H' => ⟨by rw [List.length_map, lt]; exact zx, acc.toList, c, ?_, hS⟩⟩
        have : ∀ l : List Addr, Vals (l.map V.ref) (l.map Value.ref) := fun l => by
          induction l with
          | nil => exact .nil
          | cons t r ih => exact .cons rfl ih
        have h9 := this (acc.toList.map adOf)
        rwa [← acce] at h9
      · refine ⟨Nat.le_of_lt (Nat.lt_of_le_of_lt hsz (above _ (by rw [← f1]; exact List.mem_map_of_mem (f := (·.1)) e))), triO_ok (by rw [m1]; exact rx) (by rw [m2]; exact ry) (by rw [m3]; exact rz) (fun p hp => ?_) p e⟩
        obtain ⟨j, hj⟩ := List.mem_iff_getElem?.mp hp
        rw [List.getElem?_zip_eq_some] at hj
        obtain ⟨h1, h2⟩ := hj
        rw [List.getElem?_zip_eq_some, List.getElem?_zip_eq_some] at h2
        obtain ⟨h2, h3, h4⟩ := h2
        have hjl : j < xs.length := by have := (List.getElem?_eq_some_iff.mp h1).1; omega
        obtain ⟨T, x, y, u, e1, e2, e3, e4, e5, _⟩ := tr.at' j hjl
        have e6 := atT j _ h1
        rw [e1] at e6
        have a1 : its[j]? = some x := by simpa using e2
        have a2 : jts[j]? = some y := by simpa using e3
        have a3 : kts[j]? = some u := by simpa using e4
        rw [a1] at h2; rw [a2] at h3; rw [a3] at h4
        cases e6; cases h2; cases h3; cases h4
        exact e5
end
end DL

set_option Elab.async false
set_option linter.all false
set_option maxRecDepth 100000
set_option maxHeartbeats 4000000
namespace DL
open PySem PySem.Spec L2
open Evl (Ex)
/-! ### d[k], the dict walked or not; max(a, b) -/
def dcOf (M : Mem) (a : Addr) : Option KS := match M a with
  | some (.dic ks) => some ks
  | some (.lok _ _ ks) => some ks
  | _ => none
theorem dcOf_d {M : Mem} {a : Addr} {ks : KS} (h : M a = some (.dic ks)) : dcOf M a = some ks := by simp only [dcOf, h]
theorem dcOf_l {M : Mem} {a : Addr} {od : Obj} {kvs : List (Key × V)} {ks : KS} (h : M a = some (.lok od kvs ks)) : dcOf M a = some ks := by simp only [dcOf, h]
abbrev gDGetL : W2 := fun p q M R => match p with
  | .v (.ref a) => ∃ ks k r, dcOf M a = some ks ∧ keyS q = some k ∧ valS ks k = some r ∧ R r M
  | _ => False
theorem dcOf_at {K : PySem.W.Frag} {F H : Hp} {M : Mem} {a : Addr} {ks : KS} (at0 : At K F M H) (h : dcOf M a = some ks) : ∃ kvs, Rd H a (.dK kvs) ∧ All2 (KIs K F) ks kvs := by
  unfold dcOf at h
  split at h
  · rename_i m
    cases h
    obtain ⟨_, kvs, q1, q2⟩ := at0.mem a _ m
    exact ⟨kvs, .inl q1, q2⟩
  · rename_i m
    cases h
    obtain ⟨_, q1, q2⟩ := at0.mem a _ m
    exact ⟨_, .inr ⟨_, q1⟩, q2⟩
  · cases h
section
variable {X : Cx} {a b c o i : Expr} {wa wb wc wo wi we : WE} {pos : Pos}
theorem pd_dgetL (hu : X.A.units + 1 < cLine) (ha : PD X a wa) (hb : PD X b wb) (hs : NoSl b := by exact fun _ _ => rfl) : PD X (.Subscript a b pos) (wOp gDGetL wa wb) := by
  refine pe_imp (pe_dget hu ha hb hs) fun st H Q ⟨F, dl, M, R, so, at0, hw, po⟩ => ?_
  refine tD_to so at0 hw fun x F1 H1 p M1 h1 e1 so1 at1 i1 => ?_
  refine tD_to so1 at1 h1 fun y F2 H2 q M2 h2 e2 so2 at2 i2 => ?_
  unfold gDGetL at h2
  split at h2
  · rename_i ad
    obtain ⟨ks, k, r, m, hk, hv, hR⟩ := h2
    have e : x = .ref ad := i1
    subst e
    obtain ⟨kvs, q1, q2⟩ := dcOf_at at2 m
    obtain ⟨v, z1, z2⟩ := (valS_at (k := k) q2).1 r hv
    refine ⟨ad, v, rfl, ?_, po _ F2 H2 _ M2 hR (e1.trans e2) z2⟩
    rw [keyS_at i2 hk, ← z1]
    rcases q1 with q1 | ⟨o, q1⟩
    · exact DGet.k q1
    · exact .inl ⟨kvs, _, .inr ⟨o, q1⟩, rfl, rfl⟩
  · exact h2.elim
abbrev gMax2 : WCl := fun rs M R => match rs with
  | [.d (.int i), .d (.int j)] => R (.i (if j > i then j else i)) M
  | _ => False
theorem c_max2 (hc : X.calm = true) : CaD X (.builtin "max") gMax2 := caD_of fun F H M vs rs R Q at0 i1 h1 po => by
  unfold gMax2 at h1
  split at h1
  · obtain ⟨v, u, rfl, i2, i3⟩ := isAll2 i1
    exact ⟨_, call_max2 hc, _, _, by rw [dq_int i2, dq_int i3], po _ F H _ M h1 (Go.refl at0) (.int _)⟩
  · exact h1.elim
end
/-- a comprehension with a test: nothing changes -/
theorem lc_fl {g : WG} {wt : WT} {we : WE} {C : Mem → Prop} {dl : Env'} {R : List Sl → Mem → Prop} {M : Mem} {A : Type} (l : List A) (φ : A → Sl) (p : A → Bool) (f : A → PyData) (hC : C M) (hz : l.length ≤ sizeLine)
    (h : ∀ a ∈ l, ∀ (k1 : Sl → Mem → Prop) (k0 : Mem → Prop), (p a = true → k1 (.d (f a)) M) → (p a = false → k0 M) → g (φ a) dl M fun dl2 M2 => wt dl2 M2 fun k M3 => if k = true then we dl2 M3 k1 else k0 M3)
    (hR : R (((l.filter p).map f).map Sl.d) M) : lcGo g wt we C dl R (l.map φ) [] M := by
  refine lc_fm l φ (fun a => if p a = true then some (.d (f a)) else none) hC hz (fun a ha k1 k0 h1 h0 => h a ha k1 k0 (fun hp => h1 _ (by rw [if_pos hp])) fun hp => h0 (by rw [if_neg (by rw [hp]; exact Bool.false_ne_true)])) ?_
  have e : ∀ l : List A, l.filterMap (fun a => if p a = true then some (Sl.d (f a)) else none) = ((l.filter p).map f).map Sl.d := fun l => by
    induction l with
    | nil => rfl
    | cons a r ih =>
      by_cases hp : p a = true
      · rw [List.filterMap_cons_some (b := .d (f a)) (by rw [if_pos hp]), List.filter_cons_of_pos hp, ih]; rfl
      · rw [List.filterMap_cons_none (by rw [if_neg hp]), List.filter_cons_of_neg hp, ih]
  rw [e]; exact hR
theorem merge_new : ∀ (more acc : KS), ((acc ++ more).map (·.1)).Nodup → mergeS acc more = acc ++ more
  | [], acc, _ => by simp [mergeS]
  | a :: r, acc, h => by
    show mergeS (putS acc a.1 a.2) r = _
    have hn : a.1 ∉ acc.map (·.1) := fun z => by
      rw [List.map_append, List.map_cons] at h
      exact (List.nodup_append.mp h).2.2 a.1 z a.1 List.mem_cons_self rfl
    rw [putS_new hn, merge_new r (acc ++ [(a.1, a.2)]) (by simpa using h)]
    simp
end DL

set_option Elab.async false
set_option linter.all false
set_option maxRecDepth 100000
set_option maxHeartbeats 4000000
namespace DL
open PySem PySem.Spec L2
/-! ### a dict comprehension over a typed list: nothing changes -/
theorem putS_len (ks : KS) (k : Key) (v : Sl) : (putS ks k v).length ≤ ks.length + 1 := by
  unfold putS
  split
  · rw [List.length_map]; omega
  · rw [List.length_append]; simp
theorem dc_m {g : WG} {wt : WT} {wk wv : WE} {C : Mem → Prop} {dl : Env'} {R : KS → Mem → Prop} {M : Mem} {A : Type} (l : List A) (φ : A → Sl) (kf : A → Key) (vf : A → Sl) (hC : C M) (hz : l.length ≤ sizeLine)
    (h : ∀ a ∈ l, ∀ (k1 : Sl → Sl → Mem → Prop) (k0 : Mem → Prop), (∀ y, keyS y = some (kf a) → k1 y (vf a) M) → g (φ a) dl M fun dl2 M2 => wt dl2 M2 fun k M3 => if k = true then wk dl2 M3 fun y M4 => wv dl2 M4 fun z M5 => k1 y z M5 else k0 M3)
    (hR : R (mergeS [] (l.map fun a => (kf a, vf a))) M) : dcGo g wt wk wv C dl R (l.map φ) [] M := by
  suffices hs : ∀ (l' : List A) (acc : KS), (∀ a ∈ l', a ∈ l) → acc.length + l'.length ≤ sizeLine → R (mergeS acc (l'.map fun a => (kf a, vf a))) M → dcGo g wt wk wv C dl R (l'.map φ) acc M from hs l [] (fun _ h => h) (by simpa using hz) hR
  intro l'
  induction l' with
  | nil => intro acc _ _ hR; exact ⟨hC, hR⟩
  | cons a r ih =>
    intro acc hm hl hR
    rw [List.length_cons] at hl
    refine ⟨hC, h a (hm a List.mem_cons_self) (fun y z M5 => ∃ kk, keyS y = some kk ∧ acc.length < sizeLine ∧ dcGo g wt wk wv C dl R (r.map φ) (putS acc kk z) M5) _ fun y hy => ⟨kf a, hy, by omega, ?_⟩⟩
    exact ih _ (fun b hb => hm b (List.mem_cons_of_mem _ hb)) (by have := putS_len acc (kf a) (vf a); omega) hR
/-! ### numbers, each once, as they come; a dict of them -/
abbrev trueS (ns : List Int) : KS := ns.map fun n => (Sum.inl n, Sl.b true)
def uniq (acc : List Int) : List Int → List Int
  | [] => acc
  | n :: r => uniq (if n ∈ acc then acc else acc ++ [n]) r
theorem trueS_put (ns : List Int) (n : Int) : putS (trueS ns) (.inl n) (.b true) = trueS (if n ∈ ns then ns else ns ++ [n]) := by
  have hm : ((trueS ns).any fun kv => decide (kv.1 = .inl n)) = true ↔ n ∈ ns := by
    rw [List.any_map, List.any_eq_true]
    constructor
    · rintro ⟨x, hx, h⟩
      have : (Sum.inl x : Key) = .inl n := of_decide_eq_true h
      cases this; exact hx
    · intro h; exact ⟨n, h, decide_eq_true rfl⟩
  unfold putS
  by_cases h : n ∈ ns
  · rw [if_pos (hm.mpr h), if_pos h, List.map_map]
    refine List.map_congr_left fun x _ => ?_
    show (if (Sum.inl x : Key) = .inl n then _ else _) = _
    split <;> rfl
  · rw [if_neg (fun z => h (hm.mp z)), if_neg h]
    show _ = List.map _ (ns ++ [n])
    rw [List.map_append]; rfl
theorem trueS_merge : ∀ (ms ns : List Int), mergeS (trueS ns) (trueS ms) = trueS (uniq ns ms)
  | [], ns => rfl
  | m :: r, ns => by
    show mergeS (putS (trueS ns) (.inl m) (.b true)) (trueS r) = _
    rw [trueS_put, trueS_merge r]; rfl
theorem uniq_mem {x : Int} : ∀ {ms acc : List Int}, x ∈ uniq acc ms ↔ x ∈ acc ∨ x ∈ ms
  | [], acc => by simp [uniq]
  | m :: r, acc => by
    rw [uniq, uniq_mem]
    split
    · rename_i h
      constructor
      · rintro (a | a)
        · exact .inl a
        · exact .inr (List.mem_cons_of_mem _ a)
      · rintro (a | a)
        · exact .inl a
        · rcases List.mem_cons.mp a with rfl | a
          · exact .inl h
          · exact .inr a
    · simp [or_assoc]
theorem uniq_nd : ∀ {ms acc : List Int}, acc.Nodup → (uniq acc ms).Nodup
  | [], acc, h => h
  | m :: r, acc, h => by
    rw [uniq]
    split
    · exact uniq_nd h
    · rename_i hm
      exact uniq_nd (List.nodup_append.mpr ⟨h, by simp, fun a ha c hc e => by simp at hc; subst hc; subst e; exact hm ha⟩)
theorem uniq_len : ∀ {ms acc : List Int}, (uniq acc ms).length ≤ acc.length + ms.length
  | [], acc => by simp [uniq]
  | m :: r, acc => by
    rw [uniq, List.length_cons]
    split
    · have := uniq_len (ms := r) (acc := acc); omega
    · have := uniq_len (ms := r) (acc := acc ++ [m])
      rw [List.length_append, List.length_singleton] at this; omega
theorem uniq_uniq : ∀ {ms acc : List Int} (rs : List Int), uniq (uniq acc ms) rs = uniq acc (ms ++ rs)
  | [], acc, rs => rfl
  | m :: r, acc, rs => by rw [uniq, uniq_uniq, List.cons_append, uniq]
theorem uniq_uniq0 : ∀ (ms acc : List Int), uniq acc (uniq [] ms) = uniq acc ms := by
  suffices h : ∀ (ms acc : List Int) (b : List Int), uniq acc (uniq b ms) = uniq (uniq acc b) ms from fun ms acc => h ms acc []
  intro ms
  induction ms with
  | nil => intro acc b; rfl
  | cons m r ih =>
    intro acc b
    rw [uniq, ih, uniq]
    congr 1
    by_cases h : m ∈ b
    · rw [if_pos h, if_pos (uniq_mem.mpr (.inr h))]
    · rw [if_neg h, ← uniq_uniq]; rfl
theorem keysI_true : ∀ ns : List Int, keysI (trueS ns) = some ns
  | [] => rfl
  | n :: r => by show (keysI (trueS r)).map (n :: ·) = _; rw [keysI_true r]; rfl
theorem uniq_id : ∀ {ms acc : List Int}, (acc ++ ms).Nodup → uniq acc ms = acc ++ ms
  | [], acc, _ => by simp [uniq]
  | m :: r, acc, h => by
    have hm : m ∉ acc := fun z => (List.nodup_append.mp h).2.2 m z m List.mem_cons_self rfl
    rw [uniq, if_neg hm, uniq_id (by simpa using h)]; simp
end DL

set_option Elab.async false
set_option linter.all false
namespace DL
open PySem PySem.Spec L2
theorem lk1 {o : Option MO} {od : Obj} {kvs : List (Key × V)} {ks : KS} {k : Obj → List (Key × V) → KS → Prop} (h : o = some (.lok od kvs ks)) (hk : k od kvs ks) : ∃ a b c, o = some (.lok a b c) ∧ k a b c := ⟨od, kvs, ks, h, hk⟩
end DL
namespace DL
open PySem PySem.Spec L2
open Evl (Ex)
/-! ### a, b, .. = x, y, .. by way of a tuple (a name is a cell) -/
section
variable {X : Cx} {pos pt pt2 : Pos} {es ts : List Expr} {kt k2 n : Nat} {wa : WA} {ws : WGs}
abbrev wParT (n : Nat) (wa : WA) (ws : WGs) : WS := fun P dl M => wa dl M fun rs M1 => rs.length = n ∧ ws rs dl M1 P.nx
theorem pds_parT (hc : X.calm = true) (ha : PDA X es wa) (hg : PDGs X ts ws) (hn : (assignEach ts X.env).length = n := by rfl) (hst : (assignEach ts X.env).findIdx? (·.1) = none := by rfl) (hz : n ≤ sizeLine := by decide)
    (hs : swapsWithSole [.Tuple ts kt pt] (.Tuple es k2 pt2) pos.line X.env = pure false := by rfl) (hw : swappedStores [.Tuple ts kt pt] (.Tuple es k2 pt2) X.env = pure none := by rfl)
    (h1 : (assignEach [.Tuple ts kt pt] X.env).map (·.2) = [assign (.Tuple ts kt pt) X.env] := by rfl) : PDS X (.Assign [.Tuple ts kt pt] (.Tuple es k2 pt2) pos) (wParT n wa ws) :=
  ps_imp (ps_asg (pe_tupF ha) (pg_tup hc hg hn hst) hs hw h1) fun D st H ⟨F, dl, M, P, so, at0, hw, po⟩ =>
    tDA_to so at0 hw fun vs F1 H1 rs M1 h1 g1 so1 at1 i1 => by
      obtain ⟨hl, h1⟩ := h1
      have e := i1.length
      refine ⟨by omega, fun p o ho hp => ⟨p, vs, rfl, .inl (.inr ⟨o, upd_same⟩), by omega, ?_⟩⟩
      have at2 : At X.K F1 M1 (upd H1 p (.frz o (.tup vs))) := at1.hid (at1.freeF hp) (at1.freeM hp)
      have g2 : Go X.K F1 M1 H1 F1 M1 (upd H1 p (.frz o (.tup vs))) := ⟨Ex.refl _, at2, fun a o z1 z2 z3 => ⟨by rw [upd_ne (ne_of_none z1 hp)]; exact z1, z2, z3⟩⟩
      exact ⟨F1, dl, M1, rs, _, so1, at2, i1, h1, po.nx.mono (g1.trans g2)⟩
end
end DL

set_option Elab.async false
set_option linter.all false
set_option maxRecDepth 100000
set_option maxHeartbeats 4000000
/-! ED: d.pop(k, x), xs.index(y), xs.insert(i, y), stars in displays, raise (never met), for over d.items(). -/
namespace DL
open PySem PySem.Spec L2
open Evl (Ex)
def dropS (ks : KS) (k : Key) : KS := ks.filter fun kv => decide (kv.1 ≠ k)
theorem dropS_at {K : PySem.W.Frag} {F : Hp} {k : Key} : ∀ {ks : KS} {kvs : List (Key × V)}, All2 (KIs K F) ks kvs → All2 (KIs K F) (dropS ks k) (dropK kvs k)
  | _, _, .nil => .nil
  | a :: as, b :: bs, .cons h t => by
    have ih := dropS_at (k := k) t
    have e : a.1 = b.1 := h.1
    unfold dropS dropK at ih ⊢
    rw [List.filter_cons, List.filter_cons, e]
    split
    · exact .cons h ih
    · exact ih
section
variable {X : Cx} {a b c o e f : Expr} {wa wb wc wo we wx : WE} {pos apos cpos : Pos}
/-! ### d.pop(k, x) -/
abbrev wDPop2 (wo we wx : WE) : WE := fun dl M R => wo dl M fun p M1 => match p with
  | .v (.ref a) => (∃ ks, M1 a = some (.dic ks)) ∧ we dl M1 fun q M2 => wx dl M2 fun z M3 => ∃ ks k r, M3 a = some (.dic ks) ∧ keyS q = some k ∧ some ((valS ks k).getD z) = some r ∧ R r (upM M3 a (.dic (dropS ks k)))
  | _ => False
theorem dropS_none {ks : KS} {k : Key} (h : valS ks k = none) : dropS ks k = ks := by
  unfold dropS
  refine List.filter_eq_self.mpr fun kv hm => ?_
  refine decide_eq_true fun e => ?_
  unfold valS at h
  rw [Option.map_eq_none_iff, List.find?_eq_none] at h
  exact h kv hm (decide_eq_true e)
theorem pd_dpop2 (ho : PD X o wo) (he : PD X e we) (hf : PD X f wx) (hbase : attributeBase o "pop" X.env (eval o X.env) = eval o X.env := by rfl)
    (few : ((backTo cpos (starEach [e, f] X.env)).all (fun x => !x.1) && (backToKw cpos (keywordEach [] X.env)).all (fun x => x.1.isSome) && decide (([e, f] : List Expr).length + ([] : List Keyword).length + (if ([] : List Keyword).isEmpty then 0 else 1) < 30)) = true := by rfl)
    (line : (apos.endLine == cpos.line) = true := by rfl) (trees : backTo cpos (starEach [e, f] X.env) = [(false, eval e X.env), (false, eval f X.env)] := by rfl) : PD X (.Call (.Attribute o "pop" apos) [e, f] [] cpos) (wDPop2 wo we wx) := by
  refine pe_imp (pe_dpop2 ho he hf ⟨hbase, few, line, trees⟩) fun st H Q ⟨F, dl, M, R, so, at0, hw, po⟩ => ?_
  refine tD_to so at0 hw fun x F1 H1 p M1 h1 g1 so1 at1 i1 => ?_
  split at h1
  · rename_i ad
    obtain ⟨⟨ks, m⟩, h1⟩ := h1
    have ex : x = .ref ad := i1
    subst ex
    obtain ⟨_, kvs, q1, _⟩ := at1.mem ad _ m
    refine ⟨ad, rfl, .inl ⟨kvs, .inl q1⟩, ?_⟩
    refine tD_to so1 at1 h1 fun y F2 H2 q M2 h2 g2 so2 at2 i2 => ?_
    refine tD_to so2 at2 h2 fun z F3 H3 r M3 h3 g3 so3 at3 i3 => ?_
    obtain ⟨ks, k, r, m, hk, hv, hR⟩ := h3
    obtain ⟨_, kvs, q1, q2⟩ := at3.mem ad _ m
    obtain ⟨z1, z2⟩ := valS_at (k := k) q2
    refine ⟨kvs, k, q1, keyS_at (is_mono g3.ex i2) hk, fun v hvv => ?_, fun hvn => ?_⟩
    · cases hv
      cases ev : valS ks k with
      | none => rw [z2 ev] at hvv; cases hvv
      | some r =>
        rw [ev] at hR
        obtain ⟨v', e1, e2⟩ := z1 r ev
        rw [e1] at hvv
        cases hvv
        exact po _ F3 _ _ _ hR (((g1.trans g2).trans g3).trans (Go.put at3 m ⟨_, upd_same, dropS_at q2⟩)) e2
    · cases hv
      cases ev : valS ks k with
      | none =>
        rw [ev, dropS_none ev, upM_self m] at hR
        exact po _ F3 _ _ _ hR ((g1.trans g2).trans g3) i3
      | some r => obtain ⟨v', e1, e2⟩ := z1 r ev; rw [e1] at hvn; cases hvn
  · exact h1.elim
/-! ### xs.index(y), numbers; xs.insert(i, y) -/
def ixOf (ns : List Int) (n : Int) : Option Nat := ns.findIdx? fun m => decide (m = n)
abbrev gIndex : Sl → List Sl → Mem → RK → Prop := fun r rs M R => match rs with
  | [.d (.int n)] => ∃ ss ns j, lsOf M r = some ss ∧ intsOf ss = some ns ∧ ixOf ns n = some j ∧ R (.i (j : Int)) M
  | _ => False
theorem pd_index (ho : PD X o wo) {wa : WA} (ha : PDA X [e] wa) (hbase : attributeBase o "index" X.env (eval o X.env) = eval o X.env := by rfl)
    (hfew : ((backTo cpos (starEach [e] X.env)).all (fun x => !x.1) && (backToKw cpos (keywordEach [] X.env)).all (fun x => x.1.isSome) && decide ([e].length + ([] : List Keyword).length + (if ([] : List Keyword).isEmpty then 0 else 1) < 30)) = true := by rfl)
    (hline : (apos.endLine == cpos.line) = true := by rfl) (hs : starEach [e] X.env = (false, eval e X.env) :: starEach [] X.env := by rfl) : PD X (.Call (.Attribute o "index" apos) [e] [] cpos) (wLMeth gIndex wo wa) := by
  refine pe_imp (pe_bm PySem.F.plainAttrs_list PySem.F.slot_list_index PySem.F.type_list_index mt_index ho ha hbase hfew hline hs rfl) fun st H Q h => tBM_of (fun F H M v vs x rs R Q at0 i1 i2 hg po => ?_) h
  unfold gIndex at hg
  split at hg
  · rename_i n
    obtain ⟨ss, ns, j, e1, e2, e3, hR⟩ := hg
    obtain ⟨u, rfl, i3⟩ := isAll1 i2
    obtain ⟨a, us, rfl, q1, q2⟩ := lsOf_at at0 i1 e1
    have e4 := intsOf_at e2 q2
    subst e4
    rw [dq_int i3]
    obtain ⟨hj, h1, h2⟩ := List.findIdx?_eq_some_iff_getElem.mp e3
    refine ⟨a, _, _, j, .int ns[j], rfl, rfl, SqL.of q1, rfl, ?_, ?_, ?_, fun m z hm hz => ?_, po _ F H _ M hR (Go.refl at0) (.int _)⟩
    · rw [List.all_map]; exact List.all_eq_true.mpr fun _ _ => rfl
    · rw [List.getElem?_map, List.getElem?_eq_getElem hj]; rfl
    · show (ns[j] == n) = true
      have := of_decide_eq_true h1
      simp [this]
    · rw [List.getElem?_map] at hz
      obtain ⟨y, hy, rfl⟩ := Option.map_eq_some_iff.mp hz
      obtain ⟨hl, rfl⟩ := List.getElem?_eq_some_iff.mp hy
      have := h2 m hm
      show (ns[m] == n) = false
      simpa using this
  · exact hg.elim
abbrev gInsert : Sl → List Sl → Mem → RK → Prop := fun r rs M R => match r, rs with
  | .v (.ref p), [.d (.int i), x] => ∃ ss, M p = some (.lst ss) ∧ ss.length < sizeLine ∧ 0 ≤ i ∧ i < 1073741824 ∧ R .n (upM M p (.lst (ss.take i.toNat ++ [x] ++ ss.drop i.toNat)))
  | _, _ => False
theorem pd_insert (ho : PD X o wo) {wa : WA} (ha : PDA X [e, f] wa) (hbase : attributeBase o "insert" X.env (eval o X.env) = eval o X.env := by rfl)
    (hfew : ((backTo cpos (starEach [e, f] X.env)).all (fun x => !x.1) && (backToKw cpos (keywordEach [] X.env)).all (fun x => x.1.isSome) && decide ([e, f].length + ([] : List Keyword).length + (if ([] : List Keyword).isEmpty then 0 else 1) < 30)) = true := by rfl)
    (hline : (apos.endLine == cpos.line) = true := by rfl) (hs : starEach [e, f] X.env = (false, eval e X.env) :: starEach [f] X.env := by rfl) (hp : (backTo cpos (starEach [f] X.env)).any (·.1) = false := by rfl) : PD X (.Call (.Attribute o "insert" apos) [e, f] [] cpos) (wLMeth gInsert wo wa) := by
  refine pe_imp (pe_bm PySem.F.plainAttrs_list PySem.F.slot_list_insert PySem.F.type_list_insert mt_insert ho ha hbase hfew hline hs hp) fun st H Q h => tBM_of (fun F H M v vs x rs R Q at0 i1 i2 hg po => ?_) h
  unfold gInsert at hg
  split at hg
  · rename_i p i y
    obtain ⟨ss, m, hz, h0, h1, hR⟩ := hg
    obtain ⟨u, w, rfl, i3, i4⟩ := isAll2 i2
    have i5 : v = .ref p := i1
    subst i5
    obtain ⟨f, us, q1, q2⟩ := at0.mem p _ m
    rw [dq_int i3]
    exact ⟨p, us, i, w, rfl, rfl, q1, by rw [← q2.length]; exact hz, h0, by omega, po _ F _ _ _ hR (Go.put at0 m ⟨_, upd_same, ((q2.take _).append (.cons i4 .nil)).append (q2.drop _)⟩) .non⟩
  · exact hg.elim
/-! ### *e in a display -/
abbrev wStar (wa : WE) (wr : WA) : WA := fun dl M R => wa dl M fun r M1 => ∃ ss ds, sqOf M1 r = some ss ∧ datOf ss = some ds ∧ wr dl M1 fun rs M2 => R (ds.map Sl.d ++ rs) M2
theorem pda_star {es : List Expr} {wr : WA} {p : Pos} (ha : PD X e we) (hr : PDA X es wr) (hs : starEach (.Starred e p :: es) X.env = (true, eval e X.env) :: starEach es X.env := by rfl) : PDA X (.Starred e p :: es) (wStar we wr) := by
  refine pa_imp (StX.pa_star ha hr hs) fun st H Q ⟨F, dl, M, R, so, at0, hw, po⟩ => ?_
  refine tD_to so at0 hw fun x F1 H1 r M1 h1 g1 so1 at1 i1 => ?_
  obtain ⟨ss, ds, e1, e2, h1⟩ := h1
  obtain ⟨a, vs, rfl, q1, q2⟩ := sqOf_at at1 i1 e1
  refine ⟨a, vs, rfl, q1.symm, ?_⟩
  refine tDA_to so1 at1 h1 fun us F2 H2 rs M2 h2 g2 so2 at2 i2 => ?_
  refine po _ F2 H2 _ M2 h2 (g1.trans g2) ?_
  rw [datOf_eq e2] at q2
  exact (isAll_mono g2.ex q2).append i2
/-! ### raise: not met -/
theorem pds_raise {ex ca : Option Expr} : PDS X (.Raise ex ca pos) (fun _ _ _ => False) := ⟨fun pins s σ H D I ⟨F, dl, M, P, so, at0, hw, po⟩ => hw.elim⟩
end
/-! ### x += n, x -= n, numbers -/
section
variable {X : Cx} {e : Expr} {we : WE} {pos pos' : Pos}
abbrev wAug (i : Nat) (f : Int → Int → Int) (we : WE) : WS := fun P dl M => ∃ r, dl[i]? = some (some r) ∧ match r with
  | .d (.int a) => we dl M fun q M1 => match q with
    | .d (.int b) => P.nx (dl.set i (some (.i (f a b)))) M1
    | _ => False
  | _ => False
theorem pds_augI (i : Nat) {x : Str} {op : Operator} {ti : TIp} {f : Int → Int → Int} (hN : X.N.Nodup) (he : PD X e we) (ho : PIp X op ti) (hti : ∀ a b H (Q : VK), Q (.int (f a b)) H → ti (.int a) (.int b) H Q) (hi : X.N[i]? = some x := by rfl) (hx : Loc X.env.scope x := by first | exact .inl rfl | exact .inr rfl)
    (hf : X.fn x = true ∨ X.env.scope.names.lookup x = some .local := by first | exact .inl rfl | exact .inr rfl | assumption) : PDS X (.AugAssign (.Name x pos') op e pos) (wAug i f we) :=
  ps_imp (ps_aug hN hi hx he ho hf) fun D st H ⟨F, dl, M, P, so, at0, hw, po⟩ => by
    obtain ⟨r, e1, hw⟩ := hw
    obtain ⟨u, e2, i2⟩ := sok_get so e1
    split at hw
    · rename_i a
      rw [dq_int i2] at e2
      refine ⟨_, e2, ?_⟩
      refine tD_to so at0 hw fun v F1 H1 q M1 h1 g1 so1 at1 i1 => ?_
      split at h1
      · rename_i b
        rw [dq_int i1]
        exact hti _ _ _ _ (po.nx _ F1 H1 _ M1 h1 g1 (sok_set so1 (.int _)))
      · exact h1.elim
    · exact hw.elim
end
/-! ### a, b, .. = a list -/
section
variable {X : Cx} {pos : Pos}
abbrev gLst' (n : Nat) (ws : WGs) : WG := fun r dl M R => ∃ ss, lsOf M r = some ss ∧ ss.length = n ∧ ws ss dl M R
theorem pdg_lst {es : List Expr} {k n : Nat} {ws : WGs} (hc : X.calm = true) (h : PDGs X es ws) (hn : (assignEach es X.env).length = n := by rfl) (hst : (assignEach es X.env).findIdx? (·.1) = none := by rfl) : PDG X (.Tuple es k pos) (gLst' n ws) :=
  pg_imp (pg_lst hc h hn hst) fun v st H Q ⟨F, dl, M, r, R, so, at0, i1, hw, po⟩ => by
    obtain ⟨ss, e, hl, hw⟩ := hw
    obtain ⟨a, vs, rfl, h1, h2⟩ := lsOf_at at0 i1 e
    exact ⟨a, vs, rfl, SqL.of h1, by rw [← h2.length]; exact hl, F, dl, M, ss, _, so, at0, h2, hw, po⟩
end
/-! ### over the items -/
section
variable {X : Cx} {e : Expr} {we : WE} {apos cpos tpos : Pos} {elts : List Expr} {kk : Nat}
def kDat : Key → PyData
  | .inl i => .int i
  | .inr s => .str s
theorem kDat_is {K : PySem.W.Frag} {F : Hp} : ∀ k : Key, Dq K F (kV k) (kDat k)
  | .inl i => .int i
  | .inr s => .str s
def itmS (ks : KS) (ds : List PyData) : List Sl := (ks.zip ds).map fun p => Sl.w [kDat p.1.1, p.2]
abbrev wiItems (we : WE) : WI := fun dl M T => we dl M fun r M1 => match r with
  | .v (.ref p) => ∃ od kvs ks ds, M1 p = some (.lok od kvs ks) ∧ datOf (ks.map (·.2)) = some ds ∧ T (itmS ks ds) (fun M => M p = some (.lok od kvs ks)) M1
  | _ => False
theorem wk_items {K : PySem.W.Frag} {F0 : Hp} {p : Addr} {od : Obj} {kvs : List (Key × V)} {ks : KS} {ds : List PyData} (hd : datOf (ks.map (·.2)) = some ds) : Wk K F0 (fun M => M p = some (.lok od kvs ks)) (Iti p od kvs) (itmS ks ds) := by
  have e0 := datOf_eq hd
  have hl : ds.length = ks.length := by have := congrArg List.length e0; simpa using this.symm
  have hn : (itmS ks ds).length = ks.length := by unfold itmS; rw [List.length_map, List.length_zip, hl, Nat.min_self]
  refine ⟨fun F M H i e at0 c hi => ?_, fun F M H i x H' r e at0 c y hr => ?_, fun F M H e at0 c => ?_⟩
  · obtain ⟨_, h1, h2⟩ := at0.mem p _ c
    rw [hn] at hi
    exact ⟨h1, by rw [← h2.length]; exact hi⟩
  · obtain ⟨_, h1, h2⟩ := at0.mem p _ c
    obtain ⟨Tp, k, v, hk, rfl, hT, rfl⟩ := y
    unfold itmS at hr
    rw [List.getElem?_map] at hr
    obtain ⟨q, hq, rfl⟩ := Option.map_eq_some_iff.mp hr
    rw [List.getElem?_zip_eq_some] at hq
    obtain ⟨kv, h3, h4⟩ := h2.get hq.1
    rw [hk] at h3
    cases h3
    have g := Go.laid at0 (o := .tup [kV k, v]) hT
    refine ⟨_, g, _, _, rfl, .inl (.inl upd_same), ?_⟩
    have e9 : q.1.1 = k := h4.1
    have h5 : q.1.2 = Sl.d q.2 := by
      have := congrArg (·[i]?) e0
      simp only [List.getElem?_map, hq.1, hq.2, Option.map_some] at this
      exact Option.some.inj this
    have h6 := h4.2
    rw [h5] at h6
    rw [e9]
    exact .cons (kDat_is _) (.cons (dq_mono g.ex h6) .nil)
  · obtain ⟨_, h1, h2⟩ := at0.mem p _ c
    exact ⟨h1, by rw [hn, h2.length]; exact Nat.le_refl _⟩
theorem pdi_items (he : PD X e we) (hbase : attributeBase e "items" X.env (eval e X.env) = eval e X.env := by rfl) (hline : (apos.endLine == cpos.line) = true := by rfl) : PDI X (.Tuple elts kk tpos) (.Call (.Attribute e "items" apos) [] [] cpos) (wiItems we) :=
  pi_imp (pi_items he hbase hline) fun st H Q ⟨F, dl, M, T, so, at0, hw, po⟩ => tD_to so at0 hw fun x F1 H1 r M1 h1 g1 so1 at1 i1 => by
    split at h1
    · rename_i p
      obtain ⟨od, kvs, ks, ds, m, hd, hT⟩ := h1
      have ex : x = .ref p := i1
      obtain ⟨_, h2, h3⟩ := at1.mem p _ m
      exact ⟨p, od, kvs, ex, h2, po F1 M1 H1 _ _ _ hT g1 (wk_items hd)⟩
    · exact h1.elim
end
end DL

set_option Elab.async false
set_option linter.all false
set_option maxRecDepth 100000
set_option maxHeartbeats 4000000
/-! EE: for a, b in zip(a text, a tuple). -/
namespace DL
open PySem PySem.Spec PyProof.Rows L2
/-- the text's signs and the tuple's items, in new pairs -/
def ItzS (K : PySem.W.Frag) (x : Str) (b : Addr) : It :=
  ⟨fun i H => i < x.cps.size ∧ ∃ (ys : List V) (y : V), SqT K H b ys ∧ ys[i]? = some y,
    fun i H v H' => ∃ T c y, v = .ref T ∧ H T = none ∧ x.cps[i]? = some c ∧ H' = upd H T (.tup [.str ⟨#[c]⟩, y]) ∧ ∀ ys, SqT K H b ys → ys[i]? = some y,
    fun i H => ∃ ys : List V, SqT K H b ys ∧ i = min x.cps.size ys.length⟩
theorem turn_zipS {P : Program} {w : World} {K : PySem.W.Frag} {elts : List Expr} {kk : Nat} {tpos : Pos} {x : Str} {t : Tok} {b z TI TO i1 i2 : Addr} (hne : b ≠ i2) (D : ZipSep2 z TI TO i1 i2 [i1] [i2, b]) :
    Turn P w K (.Tuple elts kk tpos) (ItzS K x b) [z, TI, TO, i1, i2] z (fun i h => IsZip h z TI TO .none ∧ IsTupOf2 h TI (.ref i1) (.ref i2) ∧ (∃ x y, IsTupOf2 h TO x y) ∧ h.IsStrIter i1 (strIterType x) x t i ∧ h.IsTupleIter i2 b i) where
  mem := by simp
  obj := fun i h st c hc => by
    obtain ⟨hz, hTI, ⟨x, y, hTO⟩, ⟨o1, e1, _, d1⟩, ⟨o2, e2, _, d2⟩⟩ := st
    have e' : c = z ∨ c = TI ∨ c = TO ∨ c = i1 ∨ c = i2 := by simpa using hc
    rcases e' with q | q | q | q | q
    · rw [q]; exact ⟨_, hz, fun v q => nomatch q⟩
    · rw [q]; exact ⟨_, hTI, fun v q => nomatch q⟩
    · rw [q]; exact ⟨_, hTO, fun v q => nomatch q⟩
    · rw [q]; exact ⟨o1, e1, fun v q => by rw [d1] at q; cases q⟩
    · rw [q]; exact ⟨o2, e2, fun v q => by rw [d2] at q; cases q⟩
  keep := fun i h h' st k => by
    obtain ⟨hz, hTI, ⟨x, y, hTO⟩, ⟨o1, e1, r1⟩, h2⟩ := st
    exact ⟨k z (by simp) _ hz, k TI (by simp) _ hTI, ⟨x, y, k TO (by simp) _ hTO⟩, ⟨o1, k i1 (by simp) _ e1, r1⟩, h2.at fun o q => k i2 (by simp) o q⟩
  item := by
    intro X hP hw hK hc i pins s σ H E I hf st hg
    subst hP hw hK
    obtain ⟨hz, hTI, ⟨x0, y0, hTO⟩, h1, h2⟩ := st
    obtain ⟨hi, ys, y, hqy, hy⟩ := hg
    obtain ⟨its2, rv2, p2, _⟩ := I.tuple hqy
    obtain ⟨u2, hu2, ru2⟩ := rv2.get hy
    have hzl : z < s.heap.objs.size := Heap.lt_size hz
    have hh : X.A.in1.handled = none := by have := I.ok.hd hc; simp [this]
    have D1 := Draws.text (prog := X.prog) (w := X.w) hh i1 x t
    have D2 := Draws.tuple (prog := X.prog) (w := X.w) hh i2 b hne its2.toArray
    have lt2 : i < its2.toArray.size := by
      rw [List.size_toArray]
      exact (List.getElem?_eq_some_iff.mp hu2).1
    refine wpAny_pyNext_zipD2_item D D1 D2 hz hTI hTO h1 ⟨h2, p2⟩ hi lt2 fun v1 v2 h' tk y1 y2 z' TO' j1 j2 hT hsz hk => ?_
    obtain ⟨c, u, hc1, rfl⟩ := y1
    have e2 : v2 = u2 := by
      have q : its2[i]? = some v2 := by simpa using y2
      rw [hu2] at q
      exact (Option.some.inj q).symm
    subst e2
    refine ⟨_, rfl, wpAny_letOwnedTupleGo_zip (s := { s with heap := h', toks := tk }) z' fun h'' z'' sb => ?_⟩
    have hT2 : h''.get? s.heap.objs.size = some { cls := .type "tuple", data := .seq #[.str ⟨#[c]⟩ u, v2] } := (sb.2 _ (Nat.ne_of_gt hzl)).trans hT
    have new : ObjOk X.prog X.w (upd H s.heap.objs.size (.tup [.str ⟨#[c]⟩, y])) h'' s.heap.objs.size (.tup [.str ⟨#[c]⟩, y]) :=
      ⟨by show 2 ≤ sizeLine; decide, [.str ⟨#[c]⟩ u, v2], .cons ⟨u, rfl⟩ (.cons ru2 .nil), ⟨_, hT2, rfl, _, rfl⟩⟩
    have I1 : Inv X pins σ (upd H s.heap.objs.size (.tup [.str ⟨#[c]⟩, y])) { s with heap := h'', toks := tk } :=
      I.turnedNew (t' := tk) (ch := [z, TI, TO, i1, i2]) (fun c o hb q => (sb.2 c (fun q' => hb (by simp [q']))).trans (hk c o (fun q' => hb (by simp [q'])) (fun q' => hb (by simp [q'])) (fun q' => hb (by simp [q'])) (fun q' => hb (by simp [q'])) q)) hf (Nat.le_refl _) new
    obtain ⟨o1, e1, r1⟩ := j1
    refine ⟨.ref s.heap.objs.size, _, I1, rfl, ⟨_, c, y, rfl, I.hok.fresh (Nat.le_refl _), hc1, rfl, fun l hl => by rw [I.tuple_inj hl hqy]; exact hy⟩, ⟨z'', ?_, ⟨.str ⟨#[c]⟩ u, v2, ?_⟩, ⟨o1, ?_, r1⟩, ?_⟩, fun c hcm => ?_⟩
    · exact (sb.2 _ D.TIz).trans (hk _ _ D.TIz D.TITO D.TIi1 D.TIi2 hTI)
    · exact (sb.2 _ D.TOz).trans TO'
    · exact (sb.2 _ D.zi1.symm).trans e1
    · exact j2.1.at fun o q => (sb.2 _ D.zi2.symm).trans q
    · have hlt : c < s.heap.objs.size := by
        have e' : c = z ∨ c = TI ∨ c = TO ∨ c = i1 ∨ c = i2 := by simpa using hcm
        rcases e' with q | q | q | q | q
        · rw [q]; exact hzl
        · rw [q]; exact Heap.lt_size hTI
        · rw [q]; exact Heap.lt_size hTO
        · rw [q]; obtain ⟨_, e1, _⟩ := h1; exact Heap.lt_size e1
        · rw [q]; obtain ⟨_, e2, _⟩ := h2; exact Heap.lt_size e2
      rw [upd_ne (Nat.ne_of_lt hlt)]
      exact (hf c hcm).1
  done := by
    intro X hP hw hK hc i pins s σ H E I hf st hg
    subst hP hw hK
    obtain ⟨hz, hTI, ⟨x0, y0, hTO⟩, h1, h2⟩ := st
    obtain ⟨ys, hqy, hend⟩ := hg
    obtain ⟨its2, rv2, p2, _⟩ := I.tuple hqy
    have l2 := rv2.length
    have hh : X.A.in1.handled = none := by have := I.ok.hd hc; simp [this]
    have D1 := Draws.text (prog := X.prog) (w := X.w) hh i1 x t
    have D2 := Draws.tuple (prog := X.prog) (w := X.w) hh i2 b hne its2.toArray
    have a1 : i ≤ x.cps.size := by omega
    have a0 : its2.toArray.size = its2.length := List.size_toArray ..
    have a2 : i ≤ its2.toArray.size := by omega
    have a3 : i = x.cps.size ∨ i = its2.toArray.size := by omega
    exact wpAny_pyNext_zipD2_end D D1 D2 hz hTI hTO h1 ⟨h2, p2⟩ a1 a2 a3 fun h' tk hk => ⟨rfl, I.turnedL (t' := tk) (ch := [z, TI, TO, i1, i2]) (fun c o hb q =>
      hk c o (fun q' => hb (by simp [q'])) (fun q' => hb (by simp [q'])) (fun q' => hb (by simp [q'])) (fun q' => hb (by simp [q'])) q) hf⟩
  self := fun A i s Q E st h => wpAny_pyIter_zip st.1 h
abbrev zS1 (h : Heap) (x : Str) (t : Tok) : Heap := h.push { cls := .type (strIterType x), data := .fields #[.str x t, .int 0 0] }
abbrev zS2 (h : Heap) (x : Str) (t : Tok) (l2 : Addr) : Heap := (zS1 h x t).push { cls := .type "tuple_iterator", data := .fields #[.ref l2, .int 0 0] }
abbrev zS3 (h : Heap) (x : Str) (t : Tok) (l2 : Addr) : Heap := (zS2 h x t l2).push { cls := .type "tuple", data := .seq #[.ref h.objs.size, .ref (zS1 h x t).objs.size] }
abbrev zS4 (h : Heap) (x : Str) (t : Tok) (l2 : Addr) : Heap := (zS3 h x t l2).push { cls := .type "tuple", data := .seq #[.none, .none] }
abbrev zS5 (h : Heap) (x : Str) (t : Tok) (l2 : Addr) : Heap := (zS4 h x t l2).push { cls := .type "zip", data := .fields #[.none, .bool false, .bool false, .ref (zS2 h x t l2).objs.size, .ref (zS3 h x t l2).objs.size] }
theorem meets_zipS (x : Str) (t : Tok) (l2 : Addr) (ys : Array Value) :
    Meets (Builtin.«zip.__new__» ⟨[.type "zip", .str x t, .ref l2], []⟩) (fun _ R s => s.heap.IsTuple l2 ys ∧
      R (.ok (.ret (.ref (zS4 s.heap x t l2).objs.size))) { s with heap := zS5 s.heap x t l2 }) :=
  .of_wp fun prog w A R s h => by
    obtain ⟨hp, g, d, tk, os⟩ := s; obtain ⟨hl2, h⟩ := h
    have hsub := sub_zip
    have hL2 : Heap.IsTuple (Shared.heap ⟨hp.push { cls := .type (strIterType x), data := .fields #[.str x t, .int 0 0] }, g, d, tk, os⟩) l2 ys := Heap.IsTuple.push hl2 _
    wp_walk using wpAny_pyIter_strU, wpAny_pyIter_tuple hL2
    exact ⟨_, rfl, h⟩
section
variable {prog : Program} {w : World} {A : Around} {E : Value → Shared → Prop} {s : Shared}
theorem call_zipS {x : Str} {t : Tok} {l2 : Addr} {ys : Array Value} {Q : Value → Shared → Prop} (hl2 : s.heap.IsTuple l2 ys)
    (h : ∀ h', IsZip h' (s.heap.objs.size + 4) (s.heap.objs.size + 2) (s.heap.objs.size + 3) .none → IsTupOf2 h' (s.heap.objs.size + 2) (.ref s.heap.objs.size) (.ref (s.heap.objs.size + 1)) →
      IsTupOf2 h' (s.heap.objs.size + 3) .none .none → h'.IsStrIter s.heap.objs.size (strIterType x) x t 0 → h'.IsTupleIter (s.heap.objs.size + 1) l2 0 → h'.objs.size = s.heap.objs.size + 5 →
      (∀ c o, s.heap.get? c = some o → h'.get? c = some o) → Q (.ref (s.heap.objs.size + 4)) { s with heap := h' }) :
    wpAny (model prog w) A (call (.type "zip") [.str x t, .ref l2]) Q E s := by
  refine callType_new F.called_zip (by decide) (F.typeCall_zip_2 _ _) (F.newCall_zip_2 _ _) (fun obj => F.args_object_init_3 obj _ _) F.entry_zip_new
    (meets_zipS x t l2 ys) ⟨hl2, ?_⟩
  have z1 : (zS1 s.heap x t).objs.size = s.heap.objs.size + 1 := Heap.size_push ..
  have z2 : (zS2 s.heap x t l2).objs.size = s.heap.objs.size + 2 := by rw [Heap.size_push, z1]
  have z3 : (zS3 s.heap x t l2).objs.size = s.heap.objs.size + 3 := by rw [Heap.size_push, z2]
  have z4 : (zS4 s.heap x t l2).objs.size = s.heap.objs.size + 4 := by rw [Heap.size_push, z3]
  have z5 : (zS5 s.heap x t l2).objs.size = s.heap.objs.size + 5 := by rw [Heap.size_push, z4]
  have g5 : (zS5 s.heap x t l2).get? (zS4 s.heap x t l2).objs.size = some _ := Heap.get?_push_size _ rfl
  have g4 : (zS5 s.heap x t l2).get? (zS3 s.heap x t l2).objs.size = some _ := Heap.get?_push_of_some _ (Heap.get?_push_size _ rfl)
  have g3 : (zS5 s.heap x t l2).get? (zS2 s.heap x t l2).objs.size = some _ := Heap.get?_push_of_some _ (Heap.get?_push_of_some _ (Heap.get?_push_size _ rfl))
  have g2 : (zS5 s.heap x t l2).get? (zS1 s.heap x t).objs.size = some _ := Heap.get?_push_of_some _ (Heap.get?_push_of_some _ (Heap.get?_push_of_some _ (Heap.get?_push_size _ rfl)))
  have g1 : (zS5 s.heap x t l2).get? s.heap.objs.size = some _ := Heap.get?_push_of_some _ (Heap.get?_push_of_some _ (Heap.get?_push_of_some _ (Heap.get?_push_of_some _ (Heap.get?_push_size _ rfl))))
  show _ ∧ _
  rw [z2, z3, z4] at g5
  rw [z1, z2] at g3
  rw [z3] at g4
  rw [z1] at g2
  rw [z4]
  exact ⟨⟨_, g5, rfl⟩, h _ g5 g3 g4 ⟨_, g1, rfl, rfl⟩ ⟨_, g2, rfl, rfl⟩ z5 fun c o x =>
    Heap.get?_push_of_some _ (Heap.get?_push_of_some _ (Heap.get?_push_of_some _ (Heap.get?_push_of_some _ (Heap.get?_push_of_some _ x))))⟩
end
theorem nl1 {n k b : Nat} (h : b < n) (e : n + k = b) : False := by omega
theorem nl2 {n k b : Nat} (h : b < n) (e : b = n + k) : False := by omega
section
variable {X : Cx} {e e2 : Expr} {wa : WA} {p pos tpos : Pos} {elts : List Expr} {kk : Nat}
/-- one sign -/
def sgn (x : Str) : List PyData := x.cps.toList.map fun c => .str ⟨#[c]⟩
theorem sgn_get {x : Str} {i : Nat} {d : PyData} (h : (sgn x)[i]? = some d) : ∃ c, x.cps[i]? = some c ∧ d = .str ⟨#[c]⟩ := by
  unfold sgn at h
  rw [List.getElem?_map] at h
  obtain ⟨c, h1, rfl⟩ := Option.map_eq_some_iff.mp h
  exact ⟨c, by rw [← Array.getElem?_toList]; exact h1, rfl⟩
theorem sgn_len (x : Str) : (sgn x).length = x.cps.size := by unfold sgn; rw [List.length_map, Array.length_toList]
abbrev wiZipS (wa : WA) : WI := fun dl M T => wa dl M fun rs M1 => match rs with
  | [.d (.str x), .d (.tuple ys)] => T (zipS (sgn x) ys) C0 M1
  | _ => False
theorem pdi_zipS (hg : Gl X "zip") (hm : X.mg "zip" = none) (ha : PDA X [e, e2] wa) (hs : starEach [e, e2] X.env = (false, eval e X.env) :: starEach [e2] X.env := by rfl) (hpl : (backTo pos (starEach [e2] X.env)).any (·.1) = false := by rfl) :
    PDI X (.Tuple elts kk tpos) (.Call (.Name "zip" p) [e, e2] [] pos) (wiZipS wa) := by
  refine ⟨fun pins s st H R I h => ?_⟩
  obtain ⟨F, dl, M, T, so, at0, hw, po⟩ := h
  refine Call_ (ld_blt I hg hm PyProof.Rows.boot_zip (PyProof.Rows.callWith_type1 (thn (PA.run ha pos pins s st H (fun vs H1 => ∃ x b ys, vs = [.str x, .ref b] ∧ SqT X.K H1 b ys ∧ R (ItzS X.K x b) H1) I (tDA_to so at0 hw fun vs F1 H1 rs M1 h1 g1 so1 at1 i1 => ?_)) fun us s1 ⟨vs, H1, I1, r1, q1⟩ => ?_) hs hpl))
  · split at h1
    · rename_i x ys
      obtain ⟨v, u, rfl, i2, i3⟩ := isAll2 i1
      cases dq_str i2
      obtain ⟨b, ws, rfl, q3, q4⟩ := sqT_at at1 i3
      have lb : ∀ F M H, Evl.Ex F1 F → At X.K F M H → ∃ us, SqT X.K H b us ∧ DqAll X.K F us ys := fun F M H e at' => by
        obtain ⟨c, zs, e2, z1, z2⟩ := sqT_at at' (dq_mono e i3)
        cases e2
        exact ⟨zs, z1, z2⟩
      refine ⟨x, b, ws, rfl, q3, po F1 M1 H1 _ _ _ h1 g1 ⟨fun F M H i e at0 c hi => ?_, fun F M H i v H' r e at0 c y hr => ?_, fun F M H e at0 c => ?_⟩⟩
      · rw [zipS_len, sgn_len] at hi
        obtain ⟨ws, s2, q4⟩ := lb F M H e at0
        obtain ⟨v2, z2, _⟩ := dqAll_get (i := i) q4 (List.getElem?_eq_getElem (by omega))
        exact ⟨by omega, ws, v2, s2, z2⟩
      · obtain ⟨ws, s2, q4⟩ := lb F M H e at0
        obtain ⟨Tp, c1, x2, rfl, hT, hc, rfl, hy⟩ := y
        obtain ⟨d1, d2, e1, e2, rfl⟩ := zipS_get hr
        obtain ⟨c2, hc2, rfl⟩ := sgn_get e1
        obtain ⟨v2, z2, w2⟩ := dqAll_get (i := i) q4 e2
        have hx2 := hy ws s2
        rw [z2] at hx2
        obtain rfl : v2 = x2 := Option.some.inj hx2
        rw [hc] at hc2
        obtain rfl : c1 = c2 := Option.some.inj hc2
        have g := Go.laid at0 (o := .tup [.str ⟨#[c1]⟩, v2]) hT
        exact ⟨_, g, _, _, rfl, .inl (.inl upd_same), .cons (.str _) (.cons (dq_mono g.ex w2) .nil)⟩
      · obtain ⟨ws, s2, q4⟩ := lb F M H e at0
        rw [zipS_len, sgn_len]
        exact ⟨ws, s2, by rw [dqAll_len q4]⟩
    · exact h1.elim
  · obtain ⟨x, b, ys, ex, hqy, q⟩ := q1
    subst ex
    cases r1 with
    | cons r rr =>
      cases rr with
      | cons r' rr =>
        cases rr
        obtain ⟨t, rfl⟩ := r
        cases r'
        have fresh5 : ∀ c, c ∈ [s1.heap.objs.size + 4, s1.heap.objs.size + 2, s1.heap.objs.size + 3, s1.heap.objs.size, s1.heap.objs.size + 1] → FpOk X pins H1 c := fun c hcm => by
          have e' : c = s1.heap.objs.size + 4 ∨ c = s1.heap.objs.size + 2 ∨ c = s1.heap.objs.size + 3 ∨ c = s1.heap.objs.size ∨ c = s1.heap.objs.size + 1 := by simpa using hcm
          have hle : s1.heap.objs.size ≤ c := by omega
          exact I1.fpOk hle (I1.hok.fresh hle)
        obtain ⟨its2, rv2, p2, _⟩ := I1.tuple hqy
        obtain ⟨o2, ho2, _⟩ := id p2
        have lb : (b : Nat) < s1.heap.objs.size := Heap.lt_size ho2
        refine call_zipS (show s1.heap.IsTuple b its2.toArray from p2) fun h' hz hTI hTO h1 h2 hsz hk => wpAny_pyIter_zip hz ?_
        have I2 : Inv X pins st H1 { s1 with heap := h' } := I1.kept (t' := s1.toks) hk
        refine ⟨s1.heap.objs.size + 4, [s1.heap.objs.size + 4, s1.heap.objs.size + 2, s1.heap.objs.size + 3, s1.heap.objs.size, s1.heap.objs.size + 1], _, _, H1, rfl, I2, turn_zipS (t := t) (fun ev => ?_) ⟨fun ev => ?_, fun ev => ?_, fun ev => ?_, fun ev => ?_, List.mem_cons_self, fun ev => ?_, fun ev => ?_, fun ev => ?_, List.mem_cons_self, fun ev => ?_, fun ev => ?_, fun ev => ?_, fun ev => ?_⟩, ⟨hz, hTI, ⟨_, _, hTO⟩, h1, h2⟩, fresh5, q⟩
        · exact nl2 (k := 1) lb ev
        all_goals try simp only [List.mem_cons, List.not_mem_nil, or_false] at ev
        all_goals first
          | (have e' : (_ : Nat) = _ := ev; omega)
          | (rcases ev with ev | ev <;> first
             | (have e' : (_ : Nat) = _ := ev; omega)
             | exact nl1 (k := 4) lb ev
             | exact nl1 (k := 3) lb ev
             | exact nl1 (k := 0) lb ev)
end
end DL

set_option Elab.async false
set_option linter.all false
set_option maxRecDepth 100000
set_option maxHeartbeats 4000000
/-! EF: texts: slices, upper, str(n), over a text; in a tuple of texts or of numbers; a written dict of texts; is True; f(); sorted(d) of texts. -/
namespace DL
open PySem PySem.Spec PyProof.Rows L2
open Evl (Ex)
section
variable {X : Cx} {a b e : Expr} {wa wb we : WE} {pos p p2 : Pos}
/-! ### x in (a, b, ..) -/
def strsD : List PyData → Option (List Str)
  | [] => some []
  | .str s :: r => (strsD r).map (s :: ·)
  | _ => none
def intsD : List PyData → Option (List Int)
  | [] => some []
  | .int s :: r => (intsD r).map (s :: ·)
  | _ => none
theorem strsD_at {K : PySem.W.Frag} {F : Hp} : ∀ {ds : List PyData} {ss : List Str} {vs : List V}, strsD ds = some ss → DqAll K F vs ds → vs = ss.map V.str
  | [], _, _, h, i => by cases h; cases i; rfl
  | .str b :: r, bs, vs, h, i => by
    simp only [strsD, Option.map_eq_some_iff] at h
    obtain ⟨rs, h1, rfl⟩ := h
    cases i with
    | cons i1 i2 => rw [dq_str i1, strsD_at h1 i2]; rfl
theorem intsD_at {K : PySem.W.Frag} {F : Hp} : ∀ {ds : List PyData} {ss : List Int} {vs : List V}, intsD ds = some ss → DqAll K F vs ds → vs = ss.map V.int
  | [], _, _, h, i => by cases h; cases i; rfl
  | .int b :: r, bs, vs, h, i => by
    simp only [intsD, Option.map_eq_some_iff] at h
    obtain ⟨rs, h1, rfl⟩ := h
    cases i with
    | cons i1 i2 => rw [dq_int i1, intsD_at h1 i2]; rfl
theorem flat_strs : ∀ ss : List Str, (ss.map V.str).all flatV = true
  | [] => rfl
  | _ :: r => by rw [List.map_cons, List.all_cons, flat_strs r]; rfl
theorem flat_ints : ∀ ss : List Int, (ss.map V.int).all flatV = true
  | [] => rfl
  | _ :: r => by rw [List.map_cons, List.all_cons, flat_ints r]; rfl
theorem inV_strs (x : Str) : ∀ ss : List Str, inV (.str x) (ss.map V.str) = decide (x ∈ ss)
  | [] => rfl
  | y :: r => by
    have ih := inV_strs x r
    unfold inV at ih ⊢
    rw [List.map_cons, List.any_cons, ih]
    have e : eqV (.str y) (.str x) = decide (x = y) := by
      show (y == x) = _
      by_cases h : x = y
      · subst h; simp
      · rw [decide_eq_false h]; exact beq_eq_false_iff_ne.mpr (Ne.symm h)
    rw [e, Bool.eq_iff_iff]; simp
theorem inV_ints (x : Int) : ∀ ss : List Int, inV (.int x) (ss.map V.int) = decide (x ∈ ss)
  | [] => rfl
  | y :: r => by
    have ih := inV_ints x r
    unfold inV at ih ⊢
    rw [List.map_cons, List.any_cons, ih]
    have e : eqV (.int y) (.int x) = decide (x = y) := by
      show (y == x) = _
      by_cases h : x = y
      · subst h; simp
      · rw [decide_eq_false h]; exact beq_eq_false_iff_ne.mpr (Ne.symm h)
    rw [e, Bool.eq_iff_iff]; simp
abbrev gIn : W2 := fun p q M R => match p, q with
  | .d (.str a), .d (.tuple ds) => ∃ ss, strsD ds = some ss ∧ R (.b (decide (a ∈ ss))) M
  | .d (.int a), .d (.tuple ds) => ∃ ss, intsD ds = some ss ∧ R (.b (decide (a ∈ ss))) M
  | _, _ => False
theorem o_in : OpD X (compareOp .In) gIn := opD_of fun F H M x y p q R Q at0 h1 h2 h3 po => by
  unfold gIn at h3
  split at h3
  · obtain ⟨ss, e, hR⟩ := h3
    cases dq_str h1
    obtain ⟨c, vs, rfl, q1, q2⟩ := sqT_at at0 h2
    have e2 := strsD_at e q2
    subst e2
    exact ⟨_, op_in_seq, c, _, rfl, .inr q1, rfl, flat_strs ss, by simp only [Bool.false_eq_true, if_false]; rw [inV_strs]; exact po _ F H _ M hR (Go.refl at0) (.bl _)⟩
  · obtain ⟨ss, e, hR⟩ := h3
    cases dq_int h1
    obtain ⟨c, vs, rfl, q1, q2⟩ := sqT_at at0 h2
    have e2 := intsD_at e q2
    subst e2
    exact ⟨_, op_in_seq, c, _, rfl, .inr q1, rfl, flat_ints ss, by simp only [Bool.false_eq_true, if_false]; rw [inV_ints]; exact po _ F H _ M hR (Go.refl at0) (.bl _)⟩
  · exact h3.elim
/-! ### is True -/
abbrev gIsB : W2 := fun p q M R => match p, q with
  | .d (.bool a), .d (.bool b) => R (.b (decide (a = b))) M
  | _, _ => False
theorem o_isB : OpD X (compareOp .Is) gIsB := opD_of fun F H M x y p q R Q at0 h1 h2 h3 po => by
  unfold gIsB at h3
  split at h3
  · exact ⟨_, op_isBl, _, _, dq_bl h1, dq_bl h2, po _ F H _ M h3 (Go.refl at0) (.bl _)⟩
  · exact h3.elim
/-! ### slices of texts, upper, str(n) -/
abbrev gSlS : Sl → Option Int → Option Int → Mem → RK → Prop := fun r lo hi M R => match r with
  | .d (.str z) => z.length ≤ sizeLine ∧ R (.s (cutS z lo hi)) M
  | _ => False
theorem pd_sliceS {lo hi : Option Expr} {wl wh : WO} (ha : PD X a wa) (hl : PDO X lo wl) (hh : PDO X hi wh) : PD X (.Subscript a (.Slice lo hi none p2) pos) (wSl gSlS wa wl wh) := by
  refine pe_imp (pe_slice sl_str ha hl hh) fun st H Q ⟨F, dl, M, R, so, at0, hw, po⟩ => ?_
  refine tD_to so at0 hw fun x F1 H1 r M1 h1 e1 so1 at1 i1 => ?_
  refine ⟨F1, dl, M1, _, so1, at1, h1, fun l F2 H2 M2 h2 e2 => ?_⟩
  refine ⟨F2, dl, M2, _, sok_mono e2.ex so1, e2.at', h2, fun h F3 H3 M3 h3 e3 => ?_⟩
  have i3 := is_mono (e2.trans e3).ex i1
  unfold gSlS at h3
  split at h3
  · exact ⟨_, dq_str i3, h3.1, po _ F3 H3 _ M3 h3.2 ((e1.trans e2).trans e3) (.str _)⟩
  · exact h3.elim
abbrev wUpper (wa : WE) : WE := fun dl M R => wa dl M fun r M1 => match r with
  | .d (.str z) => z.length ≤ 5592405 ∧ R (.s (Txt.upper z)) M1
  | _ => False
theorem pd_upper {apos : Pos} (ha : PD X a wa) (hbase : attributeBase a "upper" X.env (eval a X.env) = eval a X.env := by rfl) (hline : (apos.endLine == pos.line) = true := by rfl) : PD X (.Call (.Attribute a "upper" apos) [] [] pos) (wUpper wa) := by
  refine pe_imp (pe_upper ha hbase hline) fun st H Q ⟨F, dl, M, R, so, at0, hw, po⟩ => ?_
  refine tD_to so at0 hw fun x F1 H1 r M1 h1 e1 so1 at1 i1 => ?_
  split at h1
  · have e := dq_str i1
    exact ⟨⟨_, e⟩, _, e, rfl, h1.1, po _ F1 H1 _ M1 h1.2 e1 (.str _)⟩
  · exact h1.elim
abbrev gStr : Sl → Mem → RK → Prop := fun r M R => match r with
  | .d (.int i) => i.natAbs.log2 < 1920 ∧ R (.s (toString i)) M
  | _ => False
theorem c_str : CaD X (.type "str") (g1 gStr) := ca1 fun F H M v r R Q at0 i1 h1 po => by
  unfold gStr at h1
  split at h1
  · exact ⟨_, call_str_int, _, by rw [dq_int i1], h1.1, po _ F H _ M h1.2 (Go.refl at0) (.str _)⟩
  · exact h1.elim
/-! ### over a text -/
abbrev wiStr (we : WE) : WI := fun dl M T => we dl M fun r M1 => match r with
  | .d (.str x) => T ((sgn x).map Sl.d) C0 M1
  | _ => False
theorem pdi_str {tg : Expr} (he : PD X e we) : PDI X tg e (wiStr we) :=
  pi_imp (pi_str he) fun st H Q ⟨F, dl, M, T, so, at0, hw, po⟩ =>
    tD_to so at0 hw fun v F1 H1 r M1 h1 g1 so1 at1 i1 => by
      split at h1
      · rename_i x
        refine ⟨x, dq_str i1, po F1 M1 H1 _ _ _ h1 g1 ⟨fun F M H i e at0 c hi => ?_, fun F M H i v H' r e at0 c y hr => ?_, fun F M H e at0 c => ?_⟩⟩
        · rw [List.length_map, sgn_len] at hi; exact hi
        · obtain ⟨rfl, c, hc, rfl⟩ := y
          rw [List.getElem?_map] at hr
          obtain ⟨d, hd, rfl⟩ := Option.map_eq_some_iff.mp hr
          obtain ⟨c2, hc2, rfl⟩ := sgn_get hd
          rw [hc] at hc2
          obtain rfl : c = c2 := Option.some.inj hc2
          exact ⟨F, Go.refl at0, .str _⟩
        · show x.cps.size ≤ _
          rw [List.length_map, sgn_len]; exact Nat.le_refl _
      · exact h1.elim
/-! ### a written dict of texts -/
def GT (K : PySem.W.Frag) (w : World) (mg : Str → Option Value) (x : Str) (kvs : List (Str × Str)) : Prop := ∃ a es n, mg x = some (.ref a) ∧ KDict K w a es n ∧
  ∀ z, (kvs.lookup z = none ∧ PySem.W.nsIn K a z = some none) ∨ ∃ v t, kvs.lookup z = some v ∧ PySem.W.nsIn K a z = some (some (.str v t))
abbrev wNotInK (kvs : List (Str × Str)) (wa : WE) : WE := fun dl M R => wa dl M fun r M1 => match r with
  | .d (.str z) => R (.b (!(kvs.lookup z).isSome)) M1
  | _ => False
theorem pdt_notInK {x : Str} {kvs : List (Str × Str)} (h : GT X.K X.w X.mg x kvs) (hg : Gl X x) (ha : PD X a wa) (hm : behindInMarks .NotIn (.Name x p) = false := by rfl) (hd : (x == ("__debug__" : Str)) = false := by decide) : PDT X (.Compare a [.NotIn] [.Name x p] pos) (wBl (wNotInK kvs wa)) := by
  obtain ⟨d, es, n, hx, D, hz⟩ := h
  refine pt_imp (pt_cmpR (op_notIn_kd D) ha (pe_glob (v := .ref d) hg hx rfl hd) hm) fun st H Q ⟨F, dl, M, R, so, at0, hw, po⟩ => ?_
  refine tD_to so at0 hw fun v F1 H1 r M1 h1 g1 so1 at1 i1 => ?_
  split at h1
  · rename_i z
    rcases hz z with ⟨e1, e2⟩ | ⟨u, t, e1, e2⟩
    · rw [e1] at h1
      exact ⟨z, none, dq_str i1, rfl, e2, true, rfl, po _ F1 H1 M1 h1 g1⟩
    · rw [e1] at h1
      exact ⟨z, _, dq_str i1, rfl, e2, false, rfl, po _ F1 H1 M1 h1 g1⟩
  · exact h1.elim
abbrev wGetK (kvs : List (Str × Str)) (wb : WE) : WE := fun dl M R => wb dl M fun r M1 => match r with
  | .d (.str z) => ∃ v, kvs.lookup z = some v ∧ R (.s v) M1
  | _ => False
theorem pd_getK {x : Str} {kvs : List (Str × Str)} (h : GT X.K X.w X.mg x kvs) (hg : Gl X x) (hb : PD X b wb) (hs : PlainIx b := by exact fun _ _ => rfl) (hd : (x == ("__debug__" : Str)) = false := by decide) : PD X (.Subscript (.Name x p) b pos) (wGetK kvs wb) := by
  obtain ⟨d, es, n, hx, D, hz⟩ := h
  refine pe_imp (pe_ix ix_kdict (pe_glob (v := .ref d) hg hx rfl hd) hb hs) fun st H Q ⟨F, dl, M, R, so, at0, hw, po⟩ => ?_
  refine tD_to so at0 hw fun v F1 H1 r M1 h1 g1 so1 at1 i1 => ?_
  split at h1
  · rename_i z
    obtain ⟨u, e, hR⟩ := h1
    rcases hz z with ⟨e1, e2⟩ | ⟨u', t, e1, e2⟩
    · rw [e] at e1; cases e1
    · rw [e] at e1
      cases e1
      exact ⟨d, z, .str u, rfl, dq_str i1, ⟨es, n, _, D.at_, D.lit, e2, t, rfl⟩, po _ F1 H1 _ M1 hR g1 (.str _)⟩
  · exact h1.elim
theorem gt_of {K : PySem.W.Frag} {w : World} {mg : Str → Option Value} {x : Str} {kvs : List (Str × Str)} {a : Addr} {es : Array DictEntry} {n : Nat} (hx : mg x = some (.ref a)) (hl : K.lookup a = some ⟨.type "dict", none, .dict es n, #[]⟩) (hk : PySem.W.KeysLit w.params es.toList)
    (low : (a == sysModules) = false) (h : All2 (fun (e : DictEntry) (kv : Str × Str) => ∃ t u, e.key = .str kv.1 t ∧ e.val = .str kv.2 u) es.toList kvs) : GT K w mg x kvs := by
  refine ⟨a, es, n, hx, ⟨hl, hk, low⟩, fun z => ?_⟩
  unfold PySem.W.nsIn
  rw [hl]
  dsimp only
  have hf : ∀ {l : List DictEntry} {kvs : List (Str × Str)}, All2 (fun (e : DictEntry) (kv : Str × Str) => ∃ t u, e.key = .str kv.1 t ∧ e.val = .str kv.2 u) l kvs →
      (kvs.lookup z = none ∧ l.find? (·.key.isStr z) = none) ∨ ∃ v t e, kvs.lookup z = some v ∧ l.find? (·.key.isStr z) = some e ∧ e.val = .str v t := by
    intro l kvs h
    induction h with
    | nil => exact .inl ⟨rfl, rfl⟩
    | @cons e kv l kvs h1 _ ih =>
      obtain ⟨t, u, h1, h2⟩ := h1
      obtain ⟨k, v⟩ := kv
      have q : e.key.isStr z = (k == z) := by rw [h1]; rfl
      by_cases hz : z = k
      · subst hz
        exact .inr ⟨v, u, e, by simp [List.lookup], by rw [List.find?_cons, q]; simp, h2⟩
      · have q2 : (k == z) = false := by simp [Ne.symm hz]
        have q3 : (z == k) = false := by simp [hz]
        rw [List.find?_cons, q, q2]
        simp only [List.lookup, q3]
        exact ih
  have hr : ∀ {l : List DictEntry} {kvs : List (Str × Str)}, All2 (fun (e : DictEntry) (kv : Str × Str) => ∃ t u, e.key = .str kv.1 t ∧ e.val = .str kv.2 u) l kvs → l.any (·.refKey) = false := by
    intro l kvs h
    induction h with
    | nil => rfl
    | @cons e kv l kvs h1 _ ih =>
      obtain ⟨t, u, h1, h2⟩ := h1
      rw [List.any_cons, ih, Bool.or_false]
      unfold DictEntry.refKey
      rw [h1]
  rcases hf h with ⟨e1, e2⟩ | ⟨v, t, e, e1, e2, e3⟩
  · refine .inl ⟨e1, ?_⟩
    rw [e2, hr h]; rfl
  · refine .inr ⟨v, t, e1, ?_⟩
    rw [e2]
    show some (some e.val) = _
    rw [e3]
/-! ### k not in d -/
abbrev gDNotIn : W2 := fun q p M R => match p with
  | .v (.ref a) => ∃ ks k, M a = some (.dic ks) ∧ keyS q = some k ∧ R (.b (!(valS ks k).isSome)) M
  | _ => False
theorem pdt_dnotin (hu : X.A.units + 1 < cLine) (ha : PD X a wa) (hb : PD X b wb) (hm : behindInMarks .NotIn b = false := by rfl) : PDT X (.Compare a [.NotIn] [b] pos) (wBl (wOp gDNotIn wa wb)) := by
  refine pt_imp (pt_cmp (pc_dnotin hu ha hb) hm) fun st H Q ⟨F, dl, M, R, so, at0, hw, po⟩ => ?_
  refine tD_to so at0 hw fun x F1 H1 p M1 h1 e1 so1 at1 i1 => ?_
  refine tD_to so1 at1 h1 fun y F2 H2 q M2 h2 e2 so2 at2 i2 => ?_
  unfold gDNotIn at h2
  split at h2
  · rename_i ad
    obtain ⟨ks, k, m, hk, hR⟩ := h2
    have e : y = .ref ad := i2
    subst e
    obtain ⟨_, kvs, q1, q2⟩ := at2.mem ad _ m
    refine ⟨ad, _, rfl, by rw [keyS_at (is_mono e2.ex i1) hk]; exact DGet.k q1, _, rfl, ?_⟩
    rw [← valS_isSome q2]
    exact po _ F2 H2 M2 hR (e1.trans e2)
  · exact h2.elim
/-! ### sorted(d), texts -/
def keysT : KS → Option (List Str)
  | [] => some []
  | (.inr k, _) :: r => (keysT r).map (k :: ·)
  | _ => none
theorem keysT_at {K : PySem.W.Frag} {F : Hp} : ∀ {ks : KS} {kvs : List (Key × V)} {ns : List Str}, All2 (KIs K F) ks kvs → keysT ks = some ns → kvs.map (·.1) = ns.map Sum.inr
  | [], _, _, h, e => by cases h; cases e; rfl
  | (.inr k, s) :: r, _, ns, h, e => by
    simp only [keysT, Option.map_eq_some_iff] at e
    obtain ⟨rs, h1, rfl⟩ := e
    cases h with
    | cons h t => rw [List.map_cons, List.map_cons, keysT_at t h1, ← h.1]
  | (.inl _, _) :: _, _, _, _, e => by simp [keysT] at e
theorem dqAll_strs {K : PySem.W.Frag} {F : Hp} : ∀ ns : List Str, DqAll K F (ns.map V.str) (ns.map PyData.str)
  | [] => .nil
  | n :: r => .cons (.str n) (dqAll_strs r)
abbrev gSortedDS : Sl → Mem → RK → Prop := fun r M R => match r with
  | .v (.ref a) => ∃ ks ns, M a = some (.dic ks) ∧ keysT ks = some ns ∧ ns.length < 64 ∧ ∀ ys : List Str, ys.Perm ns → R (.d (.list (ys.map PyData.str))) M
  | _ => False
theorem c_sortedDS (hc : X.calm = true) : CaD X (.builtin "sorted") (g1 gSortedDS) := ca1 fun F H M v r R Q at0 i1 h1 po => by
  unfold gSortedDS at h1
  split at h1
  · rename_i ad
    obtain ⟨ks, ns, m, hk, hl, hR⟩ := h1
    have e : v = .ref ad := i1
    subst e
    obtain ⟨_, kvs, q1, q2⟩ := at0.mem ad _ m
    exact ⟨_, call_sortedD hc, ad, kvs, ns, rfl, .inl q1, keysT_at q2 hk, hl, fun ys p hp _ hn => po_dat at0 po hn (hR ys hp) fun F' e h => .lst h (dqAll_strs _)⟩
  · exact h1.elim
/-! ### + by shapes, texts too -/
abbrev gPlusE : W2 := fun p q M R => match p, q with
  | .d (.str a), .d (.str b) => a.length + b.length ≤ sizeLine ∧ R (.s (a ++ b)) M
  | p, q => gPlusD p q M R
theorem o_plusE : OpD X (binaryOp .Add) gPlusE := opD_of fun F H M x y p q R Q at0 h1 h2 h3 po => by
  unfold gPlusE at h3
  split at h3
  · exact ⟨_, op_add_str, _, _, dq_str h1, dq_str h2, h3.1, po _ F H _ M h3.2 (Go.refl at0) (.str _)⟩
  · obtain ⟨r, ho, hr⟩ := o_plusD (X := X)
    exact ⟨r, ho, hr F H M x y _ _ R Q at0 h1 h2 h3 po⟩
/-! ### f() -/
theorem pd_fn0 {k : Nat} {x : Str} {st : Stmt} {cn : Cn} (h : Has X.prog X.w X.K X.mg X.base k x st [] cn) (hgd : X.A.guards = some []) (hr : Room k X.A) (hg : Gl X x)
    (hdb : (x == ("__debug__" : Str)) = false := by decide) : PD X (.Call (.Name x p) [] [] pos) (wCall cn wNil) := by
  obtain ⟨f, fd, hm, Fu, hb, G⟩ := h.ex
  refine ⟨fun pins s st H Q I h => ?_⟩
  obtain ⟨F, dl, M, R, so, at0, hw, po⟩ := h
  refine wpAny_Call_Name_kw (ld_glob I hg hm ?_ hdb)
  refine PySem.W.callWith_K0 I.kIn Fu.kp ?_
  have q1 : spD X.K cn [] H Q := spD_of at0 .nil hw po
  have hb1 := hb s [] I.kIn rfl
  exact run_fnD G hgd hr hb1 I .nil q1
end
end DL

set_option Elab.async false
set_option linter.all false
set_option maxRecDepth 100000
set_option maxHeartbeats 4000000
/-! EG: a comprehension within another one. -/
namespace DL
open PySem PySem.Spec PyProof.Rows L2
theorem look_relabel {env : Env} {x : Str} : ∀ {names : List (Str × NameKind)}, (names.lookup x = some .cell ∨ names.lookup x = some .free) →
    ((names.map fun (n, k) => if (k == NameKind.free && env.scope.kind == .function && env.kindOf n == some .cell) then (n, NameKind.cell) else (n, k)).lookup x = some .cell ∨
     (names.map fun (n, k) => if (k == NameKind.free && env.scope.kind == .function && env.kindOf n == some .cell) then (n, NameKind.cell) else (n, k)).lookup x = some .free)
  | [], h => by rcases h with h | h <;> cases h
  | (n, k) :: r, h => by
    rw [List.map_cons]
    dsimp only
    cases hb : (x == n) with
    | true =>
      rw [List.lookup, hb] at h
      split
      · rw [List.lookup, hb]; exact .inl rfl
      · rw [List.lookup, hb]; exact h
    | false =>
      rw [List.lookup, hb] at h
      split
      · rw [List.lookup, hb]; exact look_relabel h
      · rw [List.lookup, hb]; exact look_relabel h
theorem blkOk_in {N : List Str} {outer scope : Scope} {own : List (Str × Nat)} {env : Env} (h : blkC N outer scope own = true) : BlkOk N (relabel outer env) scope own := by
  have q := blkOk_by h
  exact ⟨q.kind, q.uniq, q.ix, fun y hy e => look_relabel (q.free y hy e), q.own⟩
end DL

set_option Elab.async false
set_option linter.all false
set_option maxRecDepth 100000
set_option maxHeartbeats 4000000
/-! EH: a comprehension with two for; max, min of a list; list and len of a dict. -/
namespace DL
open PySem PySem.Spec L2
open Evl (Ex)
/-- [e for t in it if c for t1 in it1 if c1] -/
def lcGo2 (g : WG) (wt : WT) (wi1 : WI) (g1 : WG) (wt1 : WT) (we : WE) (vs1 : List Nat) (C : Mem → Prop) (dl : Env') (R : List Sl → Mem → Prop) : List Sl → List Sl → Mem → Prop
  | [], acc, M => C M ∧ R acc M
  | x :: xs, acc, M => C M ∧ g x dl M fun dl2 M2 => wt dl2 M2 fun k M3 => if k = true then wi1 dl2 M3 fun items C1 M4 => lcGo g1 wt1 we C1 (wipeD dl2 vs1) (lcGo2 g wt wi1 g1 wt1 we vs1 C dl R xs) items acc M4 else lcGo2 g wt wi1 g1 wt1 we vs1 C dl R xs acc M3
theorem lcGo2_C {g g1 : WG} {wt wt1 : WT} {wi1 : WI} {we : WE} {vs1 : List Nat} {C : Mem → Prop} {dl : Env'} {R : List Sl → Mem → Prop} : ∀ {xs acc : List Sl} {M : Mem}, lcGo2 g wt wi1 g1 wt1 we vs1 C dl R xs acc M → C M
  | [], _, _, h => h.1
  | _ :: _, _, _, h => h.1
abbrev wLc2 (wi : WI) (g : WG) (wt : WT) (wi1 : WI) (g1 : WG) (wt1 : WT) (we : WE) (vs vs1 : List Nat) : WE := fun dl M R => wi dl M fun items C M1 => lcGo2 g wt wi1 g1 wt1 we vs1 C (wipeD dl vs) (fun acc M2 => ∃ ds, datOf acc = some ds ∧ R (.d (.list ds)) M2) items [] M1
theorem tD_lc2 {K : PySem.W.Frag} {wi wi1 : WI} {g g1 : WG} {wt wt1 : WT} {we : WE} {vs vs1 : List Nat} {st : St} {H : Hp} {Q : VK} (h : tD K (wLc2 wi g wt wi1 g1 wt1 we vs vs1) st H Q) :
    tLc2 (tDI K wi) (tDGw K vs g) (tDT K wt) (tDI K wi1) (tDGw K vs1 g1) (tDT K wt1) (tD K we) vs vs1 st H Q := by
  obtain ⟨F0, dl, M0, R, so0, at00, hw0, po⟩ := h
  refine ⟨F0, dl, M0, _, so0, at00, hw0, fun F1 M1 H1 items C J h0 g0 wk p hp => ?_⟩
  have so := sok_mono g0.ex so0
  have at1 := g0.at'
  have f1 := at1.freeF hp
  have m1 := at1.freeM hp
  refine ⟨fun i m H => m = items.length - i ∧ i ≤ items.length ∧ ∃ F M acc, LcW K F1 M1 H1 p F M H acc ∧ lcGo2 g wt wi1 g1 wt1 we vs1 C (wipeD dl vs) (fun acc M2 => ∃ ds, datOf acc = some ds ∧ R (.d (.list ds)) M2) (items.drop i) acc M,
    ⟨_, rfl, Nat.zero_le _, F1, M1, [], ⟨⟨Ex.refl _, at1.hid f1 m1, fun a o h1 h2 h3 => ⟨by rw [upd_ne (ne_of_none h1 hp)]; exact h1, h2, h3⟩⟩, f1, m1, [], upd_same, .nil⟩, h0⟩, ?_⟩
  rintro i m H ⟨rfl, hi, F, M, acc, l, hw⟩
  have c := lcGo2_C hw
  have at0 := l.go.at'
  by_cases hlt : i < items.length
  · refine .inr ⟨wk.go F M H i l.go.ex at0 c hlt, fun H' => i + 1 ≤ items.length ∧ ∃ F M acc, LcW K F1 M1 H1 p F M H' acc ∧ lcGo2 g wt wi1 g1 wt1 we vs1 C (wipeD dl vs) (fun acc M2 => ∃ ds, datOf acc = some ds ∧ R (.d (.list ds)) M2) (items.drop (i + 1)) acc M, fun H' q => ⟨_, by omega, rfl, q⟩, fun x H' y => ?_⟩
    obtain ⟨F2, g2, i2⟩ := wk.yld F M H i x H' _ l.go.ex at0 c y (List.getElem?_eq_getElem hlt)
    rw [List.drop_eq_getElem_cons hlt] at hw
    obtain ⟨_, hw⟩ := hw
    have l2 := l.step g2
    refine ⟨F2, wipeD dl vs, M, _, _, sok_wipe (sok_mono l2.go.ex so) vs, g2.at', i2, hw, fun st3 F3 H3 dl3 M3 h3 g3 so3 w3 => ⟨?_, ?_⟩⟩
    · rw [w3]; exact wipe_wipe st vs
    · have l3 := l2.step g3
      refine tDT_to so3 g3.at' h3 fun k F4 H4 M4 h4 g4 so4 at4 => ?_
      have l4 := l3.step g4
      cases k with
      | false => exact ⟨hlt, F4, M4, acc, l4, h4⟩
      | true =>
        refine ⟨F4, dl3, M4, _, so4, at4, h4, fun F5 M5 H5 items1 C1 J1 h5 g5 wk1 => ?_⟩
        have l5 := l4.step g5
        have so5 := sok_mono g5.ex so4
        refine ⟨fun j k H => k = items1.length - j ∧ j ≤ items1.length ∧ ∃ F M acc, Ex F5 F ∧ LcW K F1 M1 H1 p F M H acc ∧ lcGo g1 wt1 we C1 (wipeD dl3 vs1) (lcGo2 g wt wi1 g1 wt1 we vs1 C (wipeD dl vs) (fun acc M2 => ∃ ds, datOf acc = some ds ∧ R (.d (.list ds)) M2) (items.drop (i + 1))) (items1.drop j) acc M,
          ⟨_, rfl, Nat.zero_le _, F5, M5, acc, Ex.refl _, l5, h5⟩, ?_⟩
        rintro j k H6 ⟨rfl, hj, F6, M6, acc6, e6, l6, hw6⟩
        have c6 := lcGo_C hw6
        have at6 := l6.go.at'
        by_cases hlj : j < items1.length
        · refine .inr ⟨wk1.go F6 M6 H6 j e6 at6 c6 hlj, fun H' => j + 1 ≤ items1.length ∧ ∃ F M acc, Ex F5 F ∧ LcW K F1 M1 H1 p F M H' acc ∧ lcGo g1 wt1 we C1 (wipeD dl3 vs1) (lcGo2 g wt wi1 g1 wt1 we vs1 C (wipeD dl vs) (fun acc M2 => ∃ ds, datOf acc = some ds ∧ R (.d (.list ds)) M2) (items.drop (i + 1))) (items1.drop (j + 1)) acc M, fun H' q => ⟨_, by omega, rfl, q⟩, fun x1 H7 y1 => ?_⟩
          obtain ⟨F7, g7, i7⟩ := wk1.yld F6 M6 H6 j x1 H7 _ e6 at6 c6 y1 (List.getElem?_eq_getElem hlj)
          rw [List.drop_eq_getElem_cons hlj] at hw6
          obtain ⟨_, hw6⟩ := hw6
          have l7 := l6.step g7
          have e7 := e6.trans g7.ex
          refine ⟨F7, wipeD dl3 vs1, M6, _, _, sok_wipe (sok_mono e7 so5) vs1, g7.at', i7, hw6, fun st8 F8 H8 dl8 M8 h8 g8 so8 w8 => ⟨?_, ?_⟩⟩
          · rw [w8]; exact wipe_wipe _ vs1
          · have l8 := l7.step g8
            have e8 := e7.trans g8.ex
            refine tDT_to so8 g8.at' h8 fun k9 F9 H9 M9 h9 g9 so9 at9 => ?_
            have l9 := l8.step g9
            have e9 := e8.trans g9.ex
            cases k9 with
            | false => exact ⟨hlj, F9, M9, acc6, e9, l9, h9⟩
            | true =>
              refine tD_to so9 at9 h9 fun y F5' H5' r M5' h5' g5' so5' at5' i5' => ?_
              have l10 := l9.step g5'
              obtain ⟨us, q1, q2⟩ := l10.h
              refine ⟨us, q1, by rw [← q2.length]; exact h5'.1, hlj, F5', M5', acc6 ++ [r], e9.trans g5'.ex, ⟨⟨l10.go.ex, l10.go.at'.hid l10.f l10.m, fun a o z1 z2 z3 => ?_⟩, l10.f, l10.m, us ++ [y], upd_same, q2.append (.cons i5' .nil)⟩, h5'.2⟩
              obtain ⟨w1, w2, w3⟩ := l10.go.fr a o z1 z2 z3
              exact ⟨by rw [upd_ne (ne_of_none z1 hp)]; exact w1, w2, w3⟩
        · have ej : j = items1.length := by omega
          subst ej
          rw [List.drop_length] at hw6
          exact .inl ⟨wk1.stop F6 M6 H6 e6 at6 c6, hlt, F6, M6, acc6, l6, hw6.2⟩
  · have ei : i = items.length := by omega
    subst ei
    rw [List.drop_length] at hw
    refine .inl ⟨wk.stop F M H l.go.ex at0 c, ?_⟩
    obtain ⟨ds, e, hR⟩ := hw.2
    obtain ⟨F3, g3, d3⟩ := l.dat hp e
    exact po _ F3 H _ M hR (g0.trans g3) d3
section
variable {X : Cx} {pos : Pos} {elt tg iter tg1 iter1 : Expr} {ifs ifs1 : List Expr} {scope : Scope} {own : List (Str × Nat)} {vs1 : List Nat} {wi wi1 : WI} {g g1 : WG} {wt wt1 : WT} {we : WE}
theorem pds_setLc2 (i : Nat) {y : Str} {py spos : Pos} (vs1 : List Nat) (hc : X.calm = true) (hN : X.N.Nodup) (hy : X.N[i]? = some y) (hyl : X.env.scope.names.lookup y = some .local)
    (hsw : swapsWith (.ListComp elt [⟨tg, iter, ifs, 0⟩, ⟨tg1, iter1, ifs1, 0⟩] scope pos) (some (.Name y py)) spos.line X.env = pure true) (hi : PDI X tg iter wi) (ok : BlkOk X.N X.env.scope scope own) (hv : ∀ i ∈ vs1, i ∈ own.map (·.2))
    (hg : ∀ (s : Shared) (H : Hp) (C : Addr) (cl : List (Str × Addr)) (fp : List Addr), PDGw (X.blk s H scope (compEnvC scope cl C X.env) fp) (own.map (·.2)) tg g) (ht : ∀ (s : Shared) (H : Hp) (C : Addr) (cl : List (Str × Addr)) (fp : List Addr), PDTs (X.blk s H scope (compEnvC scope cl C X.env) fp) ifs wt)
    (hi1 : ∀ (s : Shared) (H : Hp) (C : Addr) (cl : List (Str × Addr)) (fp : List Addr), PDI (X.blk s H scope (compEnvC scope cl C X.env) fp) tg1 iter1 wi1)
    (hg1 : ∀ (s : Shared) (H : Hp) (C : Addr) (cl : List (Str × Addr)) (fp : List Addr), PDGw (X.blk s H scope (compEnvC scope cl C X.env) fp) vs1 tg1 g1) (ht1 : ∀ (s : Shared) (H : Hp) (C : Addr) (cl : List (Str × Addr)) (fp : List Addr), PDTs (X.blk s H scope (compEnvC scope cl C X.env) fp) ifs1 wt1)
    (he : ∀ (s : Shared) (H : Hp) (C : Addr) (cl : List (Str × Addr)) (fp : List Addr), PD (X.blk s H scope (compEnvC scope cl C X.env) fp) elt we) (hs : ∀ x, foldedSetIterable iter X.env x = pure x := by intro _; rfl) (hs1 : ∀ env x, foldedSetIterable iter1 env x = pure x := by intro _ _; rfl) :
    PDS X (.Assign [.Name y py] (.ListComp elt [⟨tg, iter, ifs, 0⟩, ⟨tg1, iter1, ifs1, 0⟩] scope pos) spos) (wAsg (wLc2 wi g wt wi1 g1 wt1 we (own.map (·.2)) vs1) (gN i)) :=
  ps_imp (ps_setLc2 (g := tDGw X.K (own.map (fun z : Str × Nat => z.2)) g) (tt := tDT X.K wt) (wi1 := tDI X.K wi1) (g1 := tDGw X.K vs1 g1) (tt1 := tDT X.K wt1) (te := tD X.K we) hc hN hy hyl hsw hi ok hv hg ht hi1 hg1 ht1 he hs hs1) fun D st H ⟨F, dl, M, P, so, at0, hw, po⟩ =>
    tD_lc2 ⟨F, dl, M, _, so, at0, hw, fun v F1 H1 r M1 h1 g1 i1 => po.nx _ F1 H1 _ M1 h1 g1 (sok_set (sok_mono g1.ex so) i1)⟩
end
section
variable {g : WG} {wt : WT} {we : WE} {C : Mem → Prop} {dl : Env'} {R : List Sl → Mem → Prop} {M : Mem}
/-- typed lists, with something collected already -/
theorem lc_acc {A : Type} (l : List A) (φ f : A → Sl) (acc : List Sl) (hC : C M) (hz : acc.length + l.length ≤ sizeLine)
    (h : ∀ a ∈ l, ∀ (k1 : Sl → Mem → Prop) (k0 : Mem → Prop), k1 (f a) M → g (φ a) dl M fun dl2 M2 => wt dl2 M2 fun k M3 => if k = true then we dl2 M3 k1 else k0 M3)
    (hR : R (acc ++ l.map f) M) : lcGo g wt we C dl R (l.map φ) acc M := by
  induction l generalizing acc with
  | nil => exact ⟨hC, by simpa using hR⟩
  | cons a r ih =>
    rw [List.length_cons] at hz
    exact ⟨hC, h a List.mem_cons_self _ _ ⟨by omega, ih _ (by simp; omega) (fun b hb => h b (List.mem_cons_of_mem _ hb)) (by simpa using hR)⟩⟩
theorem lc2_m {A B : Type} {wi1 : WI} {g1 : WG} {wt1 : WT} {vs1 : List Nat} (l : List A) (φ : A → Sl) (k : A → List B) (f : B → Sl) (hC : C M) (hz : (l.flatMap k).length ≤ sizeLine)
    (h : ∀ a ∈ l, ∀ (nx : List Sl → Mem → Prop) (acc : List Sl) (kk : Mem → Prop), acc.length + (k a).length ≤ sizeLine → nx (acc ++ (k a).map f) M → g (φ a) dl M fun dl2 M2 => wt dl2 M2 fun b M3 => if b = true then wi1 dl2 M3 fun items C1 M4 => lcGo g1 wt1 we C1 (wipeD dl2 vs1) nx items acc M4 else kk M3)
    (hR : R ((l.flatMap k).map f) M) : lcGo2 g wt wi1 g1 wt1 we vs1 C dl R (l.map φ) [] M := by
  suffices hs : ∀ (l' : List A) (acc : List Sl), (∀ a ∈ l', a ∈ l) → acc.length + (l'.flatMap k).length ≤ sizeLine → R (acc ++ (l'.flatMap k).map f) M → lcGo2 g wt wi1 g1 wt1 we vs1 C dl R (l'.map φ) acc M from hs l [] (fun _ h => h) (by simpa using hz) (by simpa using hR)
  intro l'
  induction l' with
  | nil => intro acc _ _ h; exact ⟨hC, by simpa using h⟩
  | cons a r ih =>
    intro acc hm hl hr
    rw [List.flatMap_cons, List.length_append] at hl
    refine ⟨hC, h a (hm a List.mem_cons_self) _ acc _ (by omega) (ih _ (fun b hb => hm b (List.mem_cons_of_mem _ hb)) (by rw [List.length_append, List.length_map]; omega) ?_)⟩
    rw [List.flatMap_cons, List.map_append] at hr
    simpa using hr
end
section
variable {X : Cx}
/-! ### max, min of a list; list, len of a dict -/
abbrev gMax1 : Sl → Mem → RK → Prop := fun r M R => ∃ ss ns, lsOf M r = some ss ∧ intsOf ss = some ns ∧ 0 < ns.length ∧ ∀ m ∈ ns, (∀ y ∈ ns, y ≤ m) → R (.i m) M
abbrev gMin1 : Sl → Mem → RK → Prop := fun r M R => ∃ ss ns, lsOf M r = some ss ∧ intsOf ss = some ns ∧ 0 < ns.length ∧ ∀ m ∈ ns, (∀ y ∈ ns, m ≤ y) → R (.i m) M
theorem c_max1 (hc : X.calm = true) : CaD X (.builtin "max") (g1 gMax1) := ca1 fun F H M v r R Q at0 i1 h1 po => by
  obtain ⟨ss, ns, e1, e2, hz, hR⟩ := h1
  obtain ⟨a, vs, rfl, q1, q2⟩ := lsOf_at at0 i1 e1
  have e3 := intsOf_at e2 q2
  subst e3
  exact ⟨_, cr_max hc, a, ns, rfl, SqL.of q1, hz, fun m hm hle => po _ F H _ M (hR m hm hle) (Go.refl at0) (.int _)⟩
theorem c_min1 (hc : X.calm = true) : CaD X (.builtin "min") (g1 gMin1) := ca1 fun F H M v r R Q at0 i1 h1 po => by
  obtain ⟨ss, ns, e1, e2, hz, hR⟩ := h1
  obtain ⟨a, vs, rfl, q1, q2⟩ := lsOf_at at0 i1 e1
  have e3 := intsOf_at e2 q2
  subst e3
  exact ⟨_, cr_min hc, a, ns, rfl, SqL.of q1, hz, fun m hm hle => po _ F H _ M (hR m hm hle) (Go.refl at0) (.int _)⟩
abbrev gLenD : Sl → Mem → RK → Prop := fun r M R => ∃ p ks, r = .v (.ref p) ∧ M p = some (.dic ks) ∧ R (.i (ks.length : Int)) M
theorem c_lenD : CaD X (.builtin "len") (g1 gLenD) := ca1 fun F H M v r R Q at0 i1 h1 po => by
  obtain ⟨p, ks, rfl, m, hR⟩ := h1
  have e : v = .ref p := i1
  subst e
  obtain ⟨_, kvs, q1, q2⟩ := at0.mem p _ m
  exact ⟨_, call_lenD, p, kvs, rfl, q1, po _ F H _ M hR (Go.refl at0) (by rw [q2.length]; exact .int _)⟩
abbrev gListD : Sl → Mem → RK → Prop := fun r M R => ∃ p ks ns, r = .v (.ref p) ∧ M p = some (.dic ks) ∧ keysI ks = some ns ∧ R (.d (.list (ns.map PyData.int))) M
theorem keysI_kv {K : PySem.W.Frag} {F : Hp} : ∀ {ks : KS} {kvs : List (Key × V)} {ns : List Int}, keysI ks = some ns → All2 (KIs K F) ks kvs → (kvs.map fun kv => kV kv.1) = ns.map V.int
  | [], _, _, h, i => by cases h; cases i; rfl
  | (.inl n, s) :: r, _, ns, h, i => by
    cases i with
    | cons i1 i2 =>
      simp only [keysI, Option.map_eq_some_iff] at h
      obtain ⟨ms, h1, rfl⟩ := h
      have e : Sum.inl n = _ := i1.1
      rw [List.map_cons, List.map_cons, ← keysI_kv h1 i2, ← e]; rfl
theorem c_listD (hc : X.calm = true) : CaD X (.type "list") (g1 gListD) := ca1 fun F H M v r R Q at0 i1 h1 po => by
  obtain ⟨p, ks, ns, rfl, m, hk, hR⟩ := h1
  have e : v = .ref p := i1
  subst e
  obtain ⟨_, kvs, q1, q2⟩ := at0.mem p _ m
  refine ⟨_, call_list_dK hc, p, kvs, rfl, q1, fun l hl => ?_⟩
  rw [keysI_kv hk q2]
  exact po_dat at0 po hl hR fun F' e h => .lst h (dqAll_ints _)
end
end DL

set_option Elab.async false
set_option linter.all false
set_option maxRecDepth 100000
set_option maxHeartbeats 4000000
/-! EI: k in d, k not in d as values; a def's promise up to what a result may be seen as. -/
namespace DL
open PySem PySem.Spec L2
open Evl (Ex)
section
variable {X : Cx} {a b : Expr} {wa wb : WE} {pos : Pos}
theorem pd_dnotin (hu : X.A.units + 1 < cLine) (ha : PD X a wa) (hb : PD X b wb) (hm : behindInMarks .NotIn b = false := by rfl) : PD X (.Compare a [.NotIn] [b] pos) (wOp gDNotIn wa wb) := by
  refine pe_imp (pe_cmp (pc_dnotin hu ha hb) hm) fun st H Q ⟨F, dl, M, R, so, at0, hw, po⟩ => ?_
  refine tD_to so at0 hw fun x F1 H1 p M1 h1 e1 so1 at1 i1 => ?_
  refine tD_to so1 at1 h1 fun y F2 H2 q M2 h2 e2 so2 at2 i2 => ?_
  unfold gDNotIn at h2
  split at h2
  · rename_i ad
    obtain ⟨ks, k, m, hk, hR⟩ := h2
    have e : y = .ref ad := i2
    subst e
    obtain ⟨_, kvs, q1, q2⟩ := at2.mem ad _ m
    refine ⟨ad, _, rfl, by rw [keyS_at (is_mono e2.ex i1) hk]; exact DGet.k q1, ?_⟩
    rw [← valS_isSome q2]
    exact po _ F2 H2 _ M2 hR (e1.trans e2) (.bl _)
  · exact h2.elim
theorem pd_din (hu : X.A.units + 1 < cLine) (ha : PD X a wa) (hb : PD X b wb) (hm : behindInMarks .In b = false := by rfl) : PD X (.Compare a [.In] [b] pos) (wOp gDIn wa wb) := by
  refine pe_imp (pe_cmp (pc_din hu ha hb) hm) fun st H Q ⟨F, dl, M, R, so, at0, hw, po⟩ => ?_
  refine tD_to so at0 hw fun x F1 H1 p M1 h1 e1 so1 at1 i1 => ?_
  refine tD_to so1 at1 h1 fun y F2 H2 q M2 h2 e2 so2 at2 i2 => ?_
  unfold gDIn at h2
  split at h2
  · rename_i ad
    obtain ⟨ks, k, m, hk, hR⟩ := h2
    have e : y = .ref ad := i2
    subst e
    obtain ⟨_, kvs, q1, q2⟩ := at2.mem ad _ m
    refine ⟨ad, _, rfl, by rw [keyS_at (is_mono e2.ex i1) hk]; exact DGet.k q1, ?_⟩
    rw [← valS_isSome q2]
    exact po _ F2 H2 _ M2 hR (e1.trans e2) (.bl _)
  · exact h2.elim
end
section
variable {P : Program} {w : World} {K : PySem.W.Frag} {mg : Str → Option Value} {base : Heap}
theorem FnD.up {k : Nat} {f : Addr} {fd : FuncData} {ps : List Str} {cn : Cn} (G : FnD P w K mg base k f fd ps cn) : FnD P w K mg base k f fd ps (fun rs M R => cn rs M (upR R)) :=
  ⟨fun rs M R q => G.len rs M _ q, fun A outer s H args us vs Q hg hr he hb hv ⟨F, M, rs, R, a, b, c, d⟩ => G.run A outer s H args us vs Q hg hr he hb hv ⟨F, M, rs, upR R, a, b, c, d.up⟩⟩
end
end DL

set_option Elab.async false
set_option linter.all false
set_option maxRecDepth 100000
set_option maxHeartbeats 4000000
/-! EJ: objects: fields, methods, making. -/
namespace DL
open PySem PySem.Spec L2
open Evl (Ex)
abbrev FS := List (Str × Sl)
def lkF : FS → Str → Option Sl
  | [], _ => none
  | (g, x) :: r, f => if f == g then some x else lkF r f
def putFS (f : Str) (y : Sl) : FS → FS
  | [] => [(f, y)]
  | (g, x) :: r => if g = f then (f, y) :: r else (g, x) :: putFS f y r
def obOf (M : Mem) (C : Addr) : Sl → Option (Addr × FS)
  | .v (.ref p) => match M p with
    | some (.ob C' fs) => if C' = C then some (p, fs) else none
    | _ => none
  | _ => none
theorem obOf_m {M : Mem} {C p : Addr} {fs : FS} (h : M p = some (.ob C fs)) : obOf M C (.v (.ref p)) = some (p, fs) := by simp [obOf, h]
theorem obOf_at {M : Mem} {C p : Addr} {fs : FS} {r : Sl} (h : obOf M C r = some (p, fs)) : r = .v (.ref p) ∧ M p = some (.ob C fs) := by
  unfold obOf at h
  split at h
  · rename_i q
    split at h
    · rename_i C' fs' hm
      split at h
      · rename_i hc
        cases h
        subst hc
        exact ⟨rfl, hm⟩
      · cases h
    · cases h
  · cases h
theorem lkF_all {K : PySem.W.Frag} {F : Hp} : ∀ {fs : FS} {vs : List (Str × V)} {f : Str}, All2 (FIs K F) fs vs → (∀ x, lkF fs f = some x → ∃ v, vs.lookup f = some v ∧ Is K F x v) ∧ (lkF fs f = none → vs.lookup f = none)
  | [], _, f, .nil => ⟨fun x h => (nomatch h), fun _ => rfl⟩
  | (g, x) :: r, (g', v) :: vs, f, .cons h t => by
    obtain ⟨e, i⟩ := h
    have e : g = g' := e
    subst e
    obtain ⟨a, b⟩ := lkF_all (f := f) t
    cases hb : (f == g) with
    | true =>
      have e1 : lkF ((g, x) :: r) f = some x := by rw [lkF, hb]; rfl
      have e2 : List.lookup f ((g, v) :: vs) = some v := by rw [List.lookup, hb]
      exact ⟨fun y hy => by rw [e1] at hy; cases hy; exact ⟨v, e2, i⟩, fun z => by rw [e1] at z; cases z⟩
    | false =>
      have e1 : lkF ((g, x) :: r) f = lkF r f := by rw [lkF, hb]; rfl
      have e2 : List.lookup f ((g, v) :: vs) = List.lookup f vs := by rw [List.lookup, hb]
      rw [e1, e2]
      exact ⟨a, b⟩
theorem putF_all {K : PySem.W.Frag} {F : Hp} {f : Str} {y : Sl} {u : V} (hy : Is K F y u) : ∀ {fs : FS} {vs : List (Str × V)}, All2 (FIs K F) fs vs → All2 (FIs K F) (putFS f y fs) (L2.putF f u vs)
  | [], _, .nil => .cons ⟨rfl, hy⟩ .nil
  | (g, x) :: r, (g', v) :: vs, .cons h t => by
    obtain ⟨e, i⟩ := h
    have e : g = g' := e
    subst e
    by_cases hg : g = f
    · subst hg
      have e1 : putFS g y ((g, x) :: r) = (g, y) :: r := by rw [putFS, if_pos rfl]
      have e2 : L2.putF g u ((g, v) :: vs) = (g, u) :: vs := if_pos rfl
      rw [e1, e2]
      exact .cons ⟨rfl, hy⟩ t
    · have e1 : putFS f y ((g, x) :: r) = (g, x) :: putFS f y r := by rw [putFS, if_neg hg]
      have e2 : L2.putF f u ((g, v) :: vs) = (g, v) :: L2.putF f u vs := if_neg hg
      rw [e1, e2]
      exact .cons ⟨rfl, i⟩ (putF_all hy t)
section
variable {X : Cx} {o e : Expr} {we wo : WE} {pos pos' : Pos} {C : Addr} {f : Str}
abbrev wFld (C : Addr) (f : Str) (wo : WE) : WE := fun dl M R => wo dl M fun r M1 => ∃ pf x, obOf M1 C r = some pf ∧ lkF pf.2 f = some x ∧ R x M1
theorem pd_fld (cl : Cls X.K C) (na : NoAttr X.K C f) (ho : PD X o wo) (hbase : attributeBase o f X.env (eval o X.env) = eval o X.env := by rfl) : PD X (.Attribute o f pos) (wFld C f wo) := by
  refine pe_imp (pe_fld ho hbase) fun st H Q ⟨F, dl, M, R, so, at0, hw, po⟩ => ?_
  refine tD_to so at0 hw fun x F1 H1 r M1 h1 e1 so1 at1 i1 => ?_
  obtain ⟨⟨p, fs⟩, y, ho, hl, hR⟩ := h1
  obtain ⟨rfl, m⟩ := obOf_at ho
  have ex : x = .ref p := i1
  obtain ⟨_, dx, vs, q1, q2⟩ := at1.mem p _ m
  obtain ⟨v, lv, iv⟩ := (lkF_all q2).1 y hl
  exact ⟨p, C, dx, vs, v, ex, q1, cl, na, lv, po v F1 H1 y M1 hR e1 iv⟩
abbrev wFst (C : Addr) (f : Str) (we wo : WE) : WS := fun P dl M => we dl M fun y M1 => wo dl M1 fun r M2 => ∃ pf, obOf M2 C r = some pf ∧ pf.2.length < 1000 ∧ P.nx dl (upM M2 pf.1 (.ob C (putFS f y pf.2)))
theorem pds_fld (cl : Cls X.K C) (na : NoAttr X.K C f) (ho : PD X o wo) (he : PD X e we) (hs : swapsWith e (some (.Attribute o f pos')) pos.line X.env = pure false := by rfl) : PDS X (.Assign [.Attribute o f pos'] e pos) (wFst C f we wo) := by
  refine ps_imp (ps_fld ho he hs) fun D st H ⟨F, dl, M, P, so, at0, hw, po⟩ => ?_
  refine tD_to so at0 hw fun v F1 H1 y M1 h1 g1 so1 at1 i1 => ?_
  refine tD_to so1 at1 h1 fun x F2 H2 r M2 h2 g2 so2 at2 i2 => ?_
  obtain ⟨⟨p, fs⟩, ho, hl, hR⟩ := h2
  obtain ⟨rfl, m⟩ := obOf_at ho
  have ex : x = .ref p := i2
  obtain ⟨_, dx, vs, q1, q2⟩ := at2.mem p _ m
  have q3 := putF_all (f := f) (is_mono g2.ex i1) q2
  refine ⟨p, C, dx, vs, ex, q1, cl, na, by rw [← q2.length]; exact hl, po.nx _ F2 _ _ _ hR ((g1.trans g2).trans (Go.put at2 m ⟨dx, _, upd_same, q3⟩)) so2⟩
/-! ### o.m(e, ..) -/
abbrev wMeth (C : Addr) (m : Str) (cn : Cn) (wo : WE) (wa : WA) : WE := fun dl M R => wo dl M fun r M1 => ∃ pf, obOf M1 C r = some pf ∧ lkF pf.2 m = none ∧ wa dl M1 fun rs M2 => cn (r :: rs) M2 R
theorem pd_meth {k : Nat} {g : Addr} {fd : FuncData} {ps : List Str} {cn : Cn} {m : Str} {apos : Pos} {es : List Expr} {wa : WA} {pl : Sem Bool} (cl : Cls X.K C) (hm : Meth X.K C m g) (G : FnD X.prog X.w X.K X.mg X.base k g fd ps cn) (hgd : X.A.guards = some []) (hr : Room k X.A) (hb : Binds X.K fd ps []) (ho : PD X o wo) (ha : PDA X (e :: es) wa)
    (hst : starEach (e :: es) X.env = (false, eval e X.env) :: starEach es X.env := by rfl) (hpl : (backTo pos (starEach es X.env)).any (·.1) = false := by rfl)
    (ht : eval (.Call (.Attribute o m apos) (e :: es) [] pos) X.env = (do
      let ov ← eval o X.env
      standAt apos.atName
      let (f, first) ← holding [ov] (getMethod ov m pl)
      callWith pos f first (backTo pos (starEach (e :: es) X.env)) (backToKw pos (keywordEach [] X.env))) := by rfl) : PD X (.Call (.Attribute o m apos) (e :: es) [] pos) (wMeth C m cn wo wa) := by
  refine ⟨fun pins s st H Q I h => ?_⟩
  obtain ⟨F, dl, M, R, so, at0, hw, po⟩ := h
  refine PySem.W.methodCall_KW (thn (ho.run pins s st H _ I (tD_to (Q := fun x H1 => ∃ a dx fs, x = V.ref a ∧ H1 a = some (.ins C dx fs) ∧ fs.lookup m = none ∧ tDA X.K wa st H1 fun vs H2 => spD X.K cn (x :: vs) H2 Q) so at0 hw fun x F1 H1 r M1 h1 g1 so1 at1 i1 => ?_)) fun u s1 ⟨x, H1, I1, rx, a, dx, fs, ex, ea, l, q⟩ => ?_) ht
  · obtain ⟨⟨p, fs⟩, ho', hl, hR⟩ := h1
    obtain ⟨rfl, mm⟩ := obOf_at ho'
    have ex : x = .ref p := i1
    obtain ⟨_, dx, vs, q1, q2⟩ := at1.mem p _ mm
    refine ⟨p, dx, vs, ex, q1, (lkF_all q2).2 hl, F1, dl, M1, _, so1, at1, hR, fun us F2 H2 rs M2 h2 g2 i2 => spD_of g2.at' (.cons (is_mono g2.ex i1) i2) h2 (po.mono (g1.trans g2))⟩
  · subst ex
    cases rx
    refine getmeth_ok I1 ea cl hm l (PySem.W.callWith_K I.ok.mod.kin hm.kp (thn (ha.run pos pins s1 st H1 _ I1 q) fun us s2 ⟨vs, H2, I2, r, q2⟩ => ?_) hst hpl)
    have hl := G.lenV q2
    have hb1 := hb s2 (Value.ref a :: us) I2.kIn (by rw [List.append_nil, List.length_cons, ← r.length]; exact hl)
    rw [List.append_nil] at hb1
    have r2 : Vals (V.ref a :: vs) (Value.ref a :: us) := Paired.cons rfl r
    exact ⟨I2.kIn, run_fnD G hgd hr hb1 I2 r2 q2⟩
theorem pd_meth0 {k : Nat} {g : Addr} {fd : FuncData} {ps : List Str} {cn : Cn} {m : Str} {apos : Pos} {pl : Sem Bool} (cl : Cls X.K C) (hm : Meth X.K C m g) (G : FnD X.prog X.w X.K X.mg X.base k g fd ps cn) (hgd : X.A.guards = some []) (hr : Room k X.A) (hb : Binds X.K fd ps []) (ho : PD X o wo)
    (ht : eval (.Call (.Attribute o m apos) [] [] pos) X.env = (do
      let ov ← eval o X.env
      standAt apos.atName
      let (f, first) ← holding [ov] (getMethod ov m pl)
      callWith pos f first (backTo pos (starEach [] X.env)) (backToKw pos (keywordEach [] X.env))) := by rfl) : PD X (.Call (.Attribute o m apos) [] [] pos) (wMeth C m cn wo wNil) := by
  refine ⟨fun pins s st H Q I h => ?_⟩
  obtain ⟨F, dl, M, R, so, at0, hw, po⟩ := h
  refine PySem.W.methodCall_KW (thn (ho.run pins s st H _ I (tD_to (Q := fun x H1 => ∃ a dx fs, x = V.ref a ∧ H1 a = some (.ins C dx fs) ∧ fs.lookup m = none ∧ spD X.K cn [x] H1 Q) so at0 hw fun x F1 H1 r M1 h1 g1 so1 at1 i1 => ?_)) fun u s1 ⟨x, H1, I1, rx, a, dx, fs, ex, ea, l, q⟩ => ?_) ht
  · obtain ⟨⟨p, fs⟩, ho', hl, hR⟩ := h1
    obtain ⟨rfl, mm⟩ := obOf_at ho'
    have ex : x = .ref p := i1
    obtain ⟨_, dx, vs, q1, q2⟩ := at1.mem p _ mm
    exact ⟨p, dx, vs, ex, q1, (lkF_all q2).2 hl, spD_of at1 (.cons i1 .nil) hR (po.mono g1)⟩
  · subst ex
    cases rx
    have hl := G.lenV q
    have hb1 := hb s1 [Value.ref a] I1.kIn (by rw [List.append_nil]; exact hl)
    rw [List.append_nil] at hb1
    have r2 : Vals [V.ref a] [Value.ref a] := Paired.cons rfl Paired.nil
    exact getmeth_ok I1 ea cl hm l (PySem.W.callWith_K0 I1.kIn hm.kp (run_fnD G hgd hr hb1 I1 r2 q))
/-! ### C(e, ..) -/
theorem run_makeD {k : Nat} {g : Addr} {fd : FuncData} {ps : List Str} {cn : Cn} {pins : List (Addr × Obj)} {st : St} {H : Hp} {s : Shared} {Q : VK} {us : List Value} {vs : List V} (M : Mk X.K C g) (G : FnD X.prog X.w X.K X.mg X.base k g fd ps cn) (hgd : X.A.guards = some []) (hr : Room (k + 1) X.A) (hb : Binds X.K fd ps [])
    (I : Inv X pins st H s) (r : Vals vs us) (h : ∀ x dx : Addr, H x = none → H dx = none → dx ≠ x → spD X.K cn (.ref x :: vs) (upd (upd H dx (.own x)) x (.ins C dx [])) fun v H2 => v = V.non ∧ Q (.ref x) H2) : wpAny (model X.prog X.w) X.A (call (.ref C) us []) (EP X pins st Q) X.xe s := by
  have hq := h (s.heap.objs.size + 1) s.heap.objs.size (I.hok.fresh (Nat.le_succ _)) (I.hok.fresh (Nat.le_refl _)) (Nat.ne_of_lt (Nat.lt_succ_self _))
  have I2 := Inv.made (C := C) I
  have r2 : Vals (V.ref (s.heap.objs.size + 1) :: vs) (Value.ref (s.heap.objs.size + 1) :: us) := Paired.cons rfl r
  have hl := G.lenV hq
  have hb1 := hb _ (Value.ref (s.heap.objs.size + 1) :: us) I2.kIn (by rw [List.append_nil, ← r2.length]; exact hl)
  rw [List.append_nil] at hb1
  refine wpAny_call (make_map I.kIn M.makes M.init (beq_iff_eq.mp M.fn) (codeAny_mono (G.run (X.A.under (.builtin "type.__call__" ⟨.ref C :: us, []⟩)) X.stack _ _ ⟨.ref (s.heap.objs.size + 1) :: us, []⟩ (.ref (s.heap.objs.size + 1) :: us) _ _ (by exact hgd) (Room.make hr C us []) (Env0.make I2.env0 C us []) hb1 r2 hq) fun rr s' hq' => ?_))
  cases rr with
  | error er => exact False.elim hq'
  | ok fl => cases fl with
    | ret u =>
      obtain ⟨v, H', I3, rv, ev, q3⟩ := I2.after hq'
      subst ev
      exact ⟨rv, V.ref (s.heap.objs.size + 1), H', I3, rfl, q3⟩
    | next => exact False.elim hq'
    | brk => exact False.elim hq'
    | cont => exact False.elim hq'
abbrev wMake (C : Addr) (cn : Cn) (wa : WA) : WE := fun dl M R => wa dl M fun rs M1 => ∀ p, M1 p = none → cn (.v (.ref p) :: rs) (upM M1 p (.ob C [])) fun r M2 => r = .n ∧ R (.v (.ref p)) M2
theorem pd_make {k : Nat} {g : Addr} {fd : FuncData} {ps : List Str} {cn : Cn} {x : Str} {p : Pos} {es : List Expr} {wa : WA} (M : Mk X.K C g) (G : FnD X.prog X.w X.K X.mg X.base k g fd ps cn) (hgd : X.A.guards = some []) (hr : Room (k + 1) X.A) (hg : Gl X x) (hm : X.mg x = some (.ref C)) (hb : Binds X.K fd ps []) (ha : PDA X (e :: es) wa)
    (hdb : (x == ("__debug__" : Str)) = false := by decide) (he : starEach (e :: es) X.env = (false, eval e X.env) :: starEach es X.env := by rfl) (hpl : (backTo pos (starEach es X.env)).any (·.1) = false := by rfl) : PD X (.Call (.Name x p) (e :: es) [] pos) (wMake C cn wa) := by
  refine ⟨fun pins s st H Q I h => ?_⟩
  obtain ⟨F, dl, M0, R, so, at0, hw, po⟩ := h
  refine wpAny_Call_Name_kw (ld_glob I hg hm ?_ hdb)
  refine PySem.W.callWith_K (h₀ := X.base) I.ok.mod.kin M.kp (thn (PA.run ha pos pins s st H _ I (tDA_to (Q := fun vs H' => ∀ x dx : Addr, H' x = none → H' dx = none → dx ≠ x → spD X.K cn (.ref x :: vs) (upd (upd H' dx (.own x)) x (.ins C dx [])) fun v H2 => v = V.non ∧ Q (.ref x) H2) so at0 hw fun vs F1 H1 rs M1 h1 g1 so1 at1 i1 => ?_)) fun us s1 ⟨vs, H1, I1, r1, q1⟩ => ⟨I1.kIn, run_makeD M G hgd hr hb I1 r1 q1⟩) he hpl
  intro x dx hx hdx hne
  have f1 := at1.freeF hdx
  have m1 := at1.freeM hdx
  have a2 := at1.hid (o := .own x) f1 m1
  have hx2 : upd H1 dx (.own x) x = none := by rw [upd_ne (Ne.symm hne)]; exact hx
  have g2 : Go X.K F1 M1 H1 F1 M1 (upd H1 dx (.own x)) := ⟨Ex.refl _, a2, fun b u z1 z2 z3 => ⟨by rw [upd_ne (ne_of_none z1 hdx)]; exact z1, z2, z3⟩⟩
  have g3 := Go.new (o := .ob C []) (ho := .ins C dx []) a2 hx2 ⟨dx, [], upd_same, .nil⟩
  exact ⟨F1, upM M1 x (.ob C []), .v (.ref x) :: rs, _, .cons rfl (isAll_mono g3.ex i1), g3.at', h1 x (at1.freeM hx), fun v F' H' r M' ⟨er, hR⟩ g i => by
    subst er
    exact ⟨dq_non i, po _ F' H' _ M' hR (((g1.trans g2).trans g3).trans g) rfl⟩⟩
end
end DL

set_option Elab.async false
set_option linter.all false
set_option maxRecDepth 100000
set_option maxHeartbeats 4000000
/-! EK: defs with defaults, methods under their names, d.setdefault(k, x), a dict that is locked for good, C(). -/
namespace DL
open PySem PySem.Spec PyProof.Rows L2
open Evl (Ex)
section
variable {P : Program} {w : World} {K : PySem.W.Frag} {mg : Str → Option Value} {base : Heap}
/-- THE RULE for a def with defaults -/
theorem fnD_ofD {x qual : Str} {st : Stmt} {dvs : List V} {f : Addr} {fd : FuncData} {N ps : List Str} {k : Nat} {cn : Cn} (Fu : FunD K x qual (defArgs st) (defBody st) (defScope st) dvs [] f fd) (S : FnScope N ps (defScope st)) (len : ∀ rs M R, cn rs M R → rs.length = ps.length)
    (hbody : ∀ (cdv : Value) (A : Around) (outer : List Env) (s : Shared) (H : Hp), A.guards = some [] → Room k (A.deeper (envOfC qual (defScope st) s.heap.objs.size f cdv)) →
      ∃ wb : WS, PDB (cxOf CX0 P w K mg base N qual (defScope st) f cdv A outer s H E0).nox (defBody st) wb ∧ ∀ rs M R, cn rs M R → wb (bodyK R) (startD N rs) M) : FnD P w K mg base (k + 1) f fd ps cn := by
  obtain ⟨oc, od, dV, kV, doc, pm, an, cdv, ct, osl, rfl, lk, hcd, _, _⟩ := Fu.ex
  refine ⟨len, fun A outer s H args us vs Q hgd hr e0 hb r hsp => ?_⟩
  obtain ⟨F, M, rs, R, ia, at0, hcn, po⟩ := hsp
  have hl : vs.length = ps.length := ia.length.symm.trans (len rs M R hcn)
  have KX : K.In s.heap := e0.mod.kin.keeps fun b o e => (e0.bs b o e).1
  have lim : s.heap.NoLimit := e0.mod.nolimit.keeps fun b o e => (e0.bs b o e).1
  refine codeAny_call_function hr.depth (KX _ _ lk) rfl S.co S.gen rfl (PySem.W.codeRec_of KX hcd) (hb _ _ _ _ ?_)
  refine wpAny_newFunctionEnv_cells S.kind (fun y hy => ?_) fun env he s1 ic => ?_
  · rcases S.par y.1 (List.of_mem_zip hy).1 with q | q
    · exact Or.inl q
    · exact Or.inr ⟨q, PySem.W.cellsFrom_some _ _ _ (Or.inl q)⟩
  subst he
  refine ⟨lim.keeps ic.toInCall.keep, codeAny_func ?_⟩
  obtain ⟨wb, hB, hW⟩ := hbody cdv A outer s H hgd (hr.deeper _)
  have I := inv_start (CX := CX0) (E := E0) (qual := qual) (f := f) (cd := cdv) S hr.hd e0 hl r ic
  have rd : tDS K wb { nx := fun _ H' => Q .non H', rt := Q } (start N vs) H :=
    ⟨F, startD N rs, M, bodyK R, by unfold startD L2.start; rw [ia.length]; exact sok_start ia _, at0, hW rs M R hcn,
      ⟨fun st' F' H' dl' M' h g _ => po.up V.non F' H' _ M' h g .non, po.up, fun _ _ _ _ _ h => h.elim, fun _ _ _ _ _ h => h.elim⟩⟩
  refine wpAny_mono ((PSs.nox hB).run [] s1 (start N vs) H _ I rd) (fun fl s' hs => ?_) fun e s' hs => hs
  cases fl with
  | ret u =>
    obtain ⟨v, sg, H', Jn, rv, q⟩ := hs
    exact ⟨v, H', Jn.os, Jn.bare, Jn.base, Jn.hok, rv, q⟩
  | next =>
    obtain ⟨sg, H', Jn, q⟩ := hs
    exact ⟨V.non, H', Jn.os, Jn.bare, Jn.base, Jn.hok, rfl, q⟩
  | brk => obtain ⟨_, _, _, q⟩ := hs; exact q.elim
  | cont => obtain ⟨_, _, _, q⟩ := hs; exact q.elim
/-- a method of C under its name -/
structure HasM (P : Program) (w : World) (K : PySem.W.Frag) (mg : Str → Option Value) (base : Heap) (k : Nat) (C : Addr) (m : Str) (ps : List Str) (cn : Cn) : Prop where
  ex : ∃ f fd, Meth K C m f ∧ Binds K fd ps [] ∧ FnD P w K mg base k f fd ps cn
/-- a class that is made under its name -/
structure HasK (P : Program) (w : World) (K : PySem.W.Frag) (mg : Str → Option Value) (base : Heap) (k : Nat) (C : Addr) (x : Str) (ps : List Str) (cn : Cn) : Prop where
  ex : ∃ f fd, Mk K C f ∧ mg x = some (.ref C) ∧ Binds K fd ps [] ∧ FnD P w K mg base k f fd ps cn
theorem HasM.mono {j k : Nat} {C : Addr} {m : Str} {ps : List Str} {cn : Cn} (h : HasM P w K mg base j C m ps cn) (l : j ≤ k) : HasM P w K mg base k C m ps cn := let ⟨f, fd, a, b, c⟩ := h.ex; ⟨f, fd, a, b, c.mono l⟩
theorem HasM.imp {k : Nat} {C : Addr} {m : Str} {ps : List Str} {cn cn' : Cn} (h : HasM P w K mg base k C m ps cn) (l : ∀ rs M R, cn' rs M R → cn rs M R) : HasM P w K mg base k C m ps cn' := let ⟨f, fd, a, b, c⟩ := h.ex; ⟨f, fd, a, b, c.imp l⟩
end
section
variable {X : Cx} {o e f : Expr} {wo we wx : WE} {pos pos' apos cpos : Pos} {C : Addr} {es : List Expr} {wa : WA}
theorem pd_methH {k : Nat} {m : Str} {ps : List Str} {cn : Cn} {pl : Sem Bool} (cl : Cls X.K C) (G : HasM X.prog X.w X.K X.mg X.base k C m ps cn) (hgd : X.A.guards = some []) (hr : Room k X.A) (ho : PD X o wo) (ha : PDA X (e :: es) wa)
    (hst : starEach (e :: es) X.env = (false, eval e X.env) :: starEach es X.env := by rfl) (hpl : (backTo pos (starEach es X.env)).any (·.1) = false := by rfl)
    (ht : eval (.Call (.Attribute o m apos) (e :: es) [] pos) X.env = (do
      let ov ← eval o X.env
      standAt apos.atName
      let (f, first) ← holding [ov] (getMethod ov m pl)
      callWith pos f first (backTo pos (starEach (e :: es) X.env)) (backToKw pos (keywordEach [] X.env))) := by rfl) : PD X (.Call (.Attribute o m apos) (e :: es) [] pos) (wMeth C m cn wo wa) := by
  obtain ⟨g, fd, a, b, c⟩ := G.ex
  exact pd_meth cl a c hgd hr b ho ha hst hpl ht
theorem pd_methH0 {k : Nat} {m : Str} {ps : List Str} {cn : Cn} {pl : Sem Bool} (cl : Cls X.K C) (G : HasM X.prog X.w X.K X.mg X.base k C m ps cn) (hgd : X.A.guards = some []) (hr : Room k X.A) (ho : PD X o wo)
    (ht : eval (.Call (.Attribute o m apos) [] [] pos) X.env = (do
      let ov ← eval o X.env
      standAt apos.atName
      let (f, first) ← holding [ov] (getMethod ov m pl)
      callWith pos f first (backTo pos (starEach [] X.env)) (backToKw pos (keywordEach [] X.env))) := by rfl) : PD X (.Call (.Attribute o m apos) [] [] pos) (wMeth C m cn wo wNil) := by
  obtain ⟨g, fd, a, b, c⟩ := G.ex
  exact pd_meth0 cl a c hgd hr b ho ht
theorem pd_makeH {k : Nat} {x : Str} {ps : List Str} {cn : Cn} {p : Pos} (G : HasK X.prog X.w X.K X.mg X.base k C x ps cn) (hgd : X.A.guards = some []) (hr : Room (k + 1) X.A) (hg : Gl X x) (ha : PDA X (e :: es) wa)
    (hdb : (x == ("__debug__" : Str)) = false := by decide) (he : starEach (e :: es) X.env = (false, eval e X.env) :: starEach es X.env := by rfl) (hpl : (backTo pos (starEach es X.env)).any (·.1) = false := by rfl) : PD X (.Call (.Name x p) (e :: es) [] pos) (wMake C cn wa) := by
  obtain ⟨g, fd, a, m, b, c⟩ := G.ex
  exact pd_make a c hgd hr hg m b ha hdb he hpl
/-! ### d.setdefault(k, x) -/
abbrev wSetD (wo we wx : WE) : WE := fun dl M R => wo dl M fun p M1 => match p with
  | .v (.ref a) => (∃ ks, M1 a = some (.dic ks)) ∧ we dl M1 fun q M2 => wx dl M2 fun z M3 => ∃ ks k, M3 a = some (.dic ks) ∧ keyS q = some k ∧ ks.length < sizeLine ∧ (∀ r, valS ks k = some r → R r M3) ∧ (valS ks k = none → R z (upM M3 a (.dic (putS ks k z))))
  | _ => False
theorem pd_setD (ho : PD X o wo) (he : PD X e we) (hf : PD X f wx) (hbase : attributeBase o "setdefault" X.env (eval o X.env) = eval o X.env := by rfl)
    (few : ((backTo cpos (starEach [e, f] X.env)).all (fun x => !x.1) && (backToKw cpos (keywordEach [] X.env)).all (fun x => x.1.isSome) && decide (([e, f] : List Expr).length + ([] : List Keyword).length + (if ([] : List Keyword).isEmpty then 0 else 1) < 30)) = true := by rfl)
    (line : (apos.endLine == cpos.line) = true := by rfl) (trees : backTo cpos (starEach [e, f] X.env) = [(false, eval e X.env), (false, eval f X.env)] := by rfl) : PD X (.Call (.Attribute o "setdefault" apos) [e, f] [] cpos) (wSetD wo we wx) := by
  refine pe_imp (pe_dsetd ho he hf ⟨hbase, few, line, trees⟩) fun st H Q ⟨F, dl, M, R, so, at0, hw, po⟩ => ?_
  refine tD_to so at0 hw fun x F1 H1 p M1 h1 g1 so1 at1 i1 => ?_
  split at h1
  · rename_i ad
    obtain ⟨⟨ks, m⟩, h1⟩ := h1
    have ex : x = .ref ad := i1
    subst ex
    obtain ⟨_, kvs, q1, _⟩ := at1.mem ad _ m
    refine ⟨ad, rfl, .inl ⟨kvs, .inl q1⟩, ?_⟩
    refine tD_to so1 at1 h1 fun y F2 H2 q M2 h2 g2 so2 at2 i2 => ?_
    refine tD_to so2 at2 h2 fun z F3 H3 r M3 h3 g3 so3 at3 i3 => ?_
    obtain ⟨ks, k, m, hk, hz, hA, hB⟩ := h3
    obtain ⟨_, kvs, q1, q2⟩ := at3.mem ad _ m
    obtain ⟨z1, z2⟩ := valS_at (k := k) q2
    refine ⟨kvs, k, q1, keyS_at (is_mono g3.ex i2) hk, by rw [← q2.length]; exact hz, fun v hvv => ?_, fun hvn => ?_⟩
    · cases ev : valS ks k with
      | none => rw [z2 ev] at hvv; cases hvv
      | some r =>
        obtain ⟨v', e1, e2⟩ := z1 r ev
        rw [e1] at hvv
        cases hvv
        exact po _ F3 _ _ _ (hA r ev) ((g1.trans g2).trans g3) e2
    · cases ev : valS ks k with
      | none => exact po _ F3 _ _ _ (hB ev) (((g1.trans g2).trans g3).trans (Go.put at3 m ⟨_, upd_same, putS_at i3 q2⟩)) i3
      | some r => obtain ⟨v', e1, e2⟩ := z1 r ev; rw [e1] at hvn; cases hvn
  · exact h1.elim
/-! ### a dict that stays as it is from here on -/
theorem pe_lockF {t : TE} (h : PE X e t) : PE X e (fun σ H Q => t σ H fun v H1 => ∃ d u, v = .ref d ∧ H1 d = some u ∧ Mut (some u) ∧ ∀ od, Q v (upd H1 d (.frz od u))) := by
  refine ⟨fun pins s σ H Q I hq => thn (h.run pins s σ H _ I hq) fun u s1 ⟨v, H1, I1, rv, d, uu, ev, eu, mu, q⟩ => ?_⟩
  obtain ⟨od, I2⟩ := I1.lock eu mu
  exact ⟨v, _, I2, rv, q od⟩
abbrev wLockF (w : WE) : WE := fun dl M R => w dl M fun r M1 => match r with
  | .v (.ref p) => ∃ ks, M1 p = some (.dic ks) ∧ ∀ od kvs, R r (upM M1 p (.lok od kvs ks))
  | _ => False
theorem pd_lockF (h : PD X e we) : PD X e (wLockF we) := pe_imp (pe_lockF h) fun st H Q ⟨F, dl, M, R, so, at0, hw, po⟩ => by
  refine tD_to so at0 hw fun x F1 H1 r M1 h1 g1 so1 at1 i1 => ?_
  split at h1
  · rename_i p
    obtain ⟨ks, m, hR⟩ := h1
    have ex : x = .ref p := i1
    obtain ⟨hF, kvs, q1, q2⟩ := at1.mem p _ m
    exact ⟨p, .dK kvs, ex, q1, trivial, fun od => po _ F1 _ _ _ (hR od kvs) (g1.trans (Go.put at1 m ⟨upd_same, q2⟩)) i1⟩
  · exact h1.elim
end
end DL

set_option Elab.async false
set_option linter.all false
set_option maxRecDepth 100000
set_option maxHeartbeats 4000000
/-! EL: sorted(d.items()), the keys numbers. -/
namespace DL
open PySem PySem.Spec L2 PyProof.Rows
open Evl (Ex)
section
variable {X : Cx}
/-- tuples that were laid are tracked, as they are -/
theorem takeF {pins : List (Addr × Obj)} {σ : L2.St} {H0 : Hp} {s : Shared} {g : Heap} {tk : Nat} (I0 : Inv X pins σ H0 s) : ∀ (L : List (Addr × List V)) (H1 : Hp), Inv X pins σ H1 { s with heap := g, toks := tk } → (L.map (·.1)).Nodup →
    (∀ z ∈ L, s.heap.objs.size ≤ z.1 ∧ H1 z.1 = none ∧ z.2.length ≤ sizeLine ∧ ∃ its : List Value, Vals z.2 its ∧ g.get? z.1 = some { cls := .type "tuple", data := .seq its.toArray }) →
    ∃ H2, Inv X pins σ H2 { s with heap := g, toks := tk } ∧ (∀ b o, H1 b = some o → H2 b = some o) ∧ ∀ z ∈ L, ∃ ob : Obj, ob.dict = none ∧ H2 z.1 = some (.frz ob (.tup z.2))
  | [], H1, I1, _, _ => ⟨H1, I1, fun _ _ e => e, fun _ h => nomatch h⟩
  | z :: L, H1, I1, hn, h => by
    obtain ⟨hb, hnone, hz, its, rv, got⟩ := h z (List.mem_cons_self ..)
    have I2 : Inv X pins σ (upd H1 z.1 (.frz { cls := .type "tuple", data := .seq its.toArray } (.tup z.2))) { s with heap := g, toks := tk } :=
      I1.take (h' := g) (t' := tk) (fun b ob _ e => e) (I0.fpOk hb hnone) ⟨got, hz, its, rv, _, got, rfl, _, rfl⟩
    rw [List.map_cons, List.nodup_cons] at hn
    obtain ⟨H2, I3, kp, q⟩ := takeF I0 L _ I2 hn.2 fun c hc => by
      obtain ⟨c1, c2, c3⟩ := h c (List.mem_cons_of_mem _ hc)
      exact ⟨c1, by rw [upd_ne (fun e => hn.1 (by rw [← e]; exact List.mem_map.mpr ⟨c, hc, rfl⟩))]; exact c2, c3⟩
    refine ⟨H2, I3, fun b o e => kp b o (by rw [upd_ne (ne_of_none e hnone)]; exact e), fun c hc => ?_⟩
    rcases List.mem_cons.mp hc with rfl | hc
    · exact ⟨_, rfl, kp _ _ upd_same⟩
    · exact q c hc
abbrev Ent := Addr × (Key × V)
open Classical in
theorem sortIt_run (hc : X.calm = true) {pins : List (Addr × Obj)} {σ : L2.St} {H : Hp} {s : Shared} {Q : VK} {d r : Addr} {kvs : List (Key × V)} {ns : List Int} (I : Inv X pins σ H s) (view : s.heap.IsItemsView r d) (hd : H d = some (.dK kvs)) (hn : kvs.map (·.1) = ns.map Sum.inl) (nd : ns.Nodup)
    (q : ∀ (ord : List Ent) (H' : Hp) (p : Addr), (ord.map (·.2)).Perm kvs → ord.Pairwise (fun x y => ∀ i j, x.2.1 = .inl i → y.2.1 = .inl j → i ≤ j) → (∀ b o, H b = some o → H' b = some o) →
      (∀ z ∈ ord, H z.1 = none ∧ ∃ ob : Obj, ob.dict = none ∧ H' z.1 = some (.frz ob (.tup [kV z.2.1, z.2.2]))) → H p = none → H' p = some (.lst (ord.map fun z => V.ref z.1)) → Q (.ref p) H') :
    wpAny (model X.prog X.w) X.A (call (.builtin "sorted") [.ref r]) (EP X pins σ Q) X.xe s := by
  obtain ⟨hz, hs0, vs, kv, hdo⟩ := I.hok d _ hd
  obtain ⟨ep, hat⟩ := hdo.dictAt
  have lk : kvs.length = vs.length := Paired.length kv
  have lns : kvs.length = ns.length := by simpa using congrArg List.length hn
  refine Calls.call_function_entry PyProof.Rows.kind_sorted PyProof.Rows.plain_sorted PyProof.Rows.entry_sorted (PyProof.Rows.args_sorted1 _) ?_
  unfold Builtin.«sorted»
  refine wpAny_bind (m := checkCount "sorted" 1 1 _) (wpAny_pure ?_)
  refine wpAny_bind (PySem.W.kdx_collect (A := X.A.in1) (knd := mixKind X.prog X.w) (kvs := vs) (ep := ep) (I.ok.hd hc) view hat (by omega) fun g tk as hk hl hG => ?_)
  have lak : as.length = kvs.length := by omega
  have nda : as.Nodup := List.Pairwise.imp (fun {a b} (h : a < b) => Nat.ne_of_lt h) hG.rise
  have pr : ∀ (j : Nat) (b : Addr), as[j]? = some b → ∃ e n t y, kvs[j]? = some e ∧ ns[j]? = some n ∧ e.1 = Sum.inl n ∧ g.get? b = some { cls := .type "tuple", data := .seq #[Value.int n t, y] } ∧ RelV e.2 y := by
    intro j b hj
    obtain ⟨key, k, x, f1, f2, f3⟩ := hG.pairs j b hj
    cases ek : kvs[j]? with
    | none =>
      rw [List.getElem?_eq_none_iff] at ek
      have := (List.getElem?_eq_some_iff.mp hj).1
      omega
    | some e =>
      obtain ⟨qv, g1, g2, g3⟩ := LiI.paired_get kv ek
      rw [f1] at g1
      cases g1
      have em : (kvs.map (·.1))[j]? = some e.1 := by rw [List.getElem?_map, ek]; rfl
      rw [hn, List.getElem?_map] at em
      cases en : ns[j]? with
      | none => rw [en] at em; cases em
      | some n =>
        rw [en] at em
        have eq : Sum.inl n = e.1 := Option.some.inj em
        have eq2 : k = Sum.inl n := g2.symm.trans eq.symm
        subst eq2
        rcases keyIs_shape (show keyIs (Sum.inl n) key = true from f2) with ⟨i, t, ei, et⟩ | ⟨i, t, ei, et⟩
        · cases ei
          subst et
          exact ⟨e, n, t, x, rfl, rfl, eq.symm, f3, g3⟩
        · cases ei
  let k : Value → Int := fun v => if h : ∃ n, IsKey g v n then h.choose else 0
  have hkk : ∀ v n, IsKey g v n → k v = n := fun v n h => by
    have ex : ∃ n, IsKey g v n := ⟨n, h⟩
    show (if h : ∃ n, IsKey g v n then h.choose else 0) = n
    rw [dif_pos ex]
    obtain ⟨a, o, t, y, m, e1, e2, e3, e4⟩ := ex.choose_spec
    obtain ⟨a', o', t', y', m', e1', e2', e3', e4'⟩ := h
    rw [e1] at e1'
    cases e1'
    rw [e2] at e2'
    cases e2'
    rw [e4] at e4'
    cases e4'
    rfl
  have ky : ∀ (j : Nat) (b : Addr) (n : Int), as[j]? = some b → ns[j]? = some n → IsKey g (.ref b) n := by
    intro j b n hj hnj
    obtain ⟨e, n', t, y, _, h2, _, h4, _⟩ := pr j b hj
    rw [h2] at hnj
    cases hnj
    exact ⟨b, _, t, y, 0, rfl, h4, rfl, rfl⟩
  have at_ : ∀ v ∈ as.map Value.ref, ∃ (j : Nat) (b : Addr) (n : Int), v = .ref b ∧ as[j]? = some b ∧ ns[j]? = some n := by
    intro v hv
    obtain ⟨b, hb, rfl⟩ := List.mem_map.mp hv
    obtain ⟨j, hj⟩ := List.getElem?_of_mem hb
    obtain ⟨e, n, t, y, _, h2, _⟩ := pr j b hj
    exact ⟨j, b, n, rfl, hj, h2⟩
  have I1 : Inv X pins σ H { s with heap := g, toks := tk } := I.kept hk
  refine wpAny_bind (wpAny_newList ?_ (by rw [List.length_map, hl]; omega))
  have hat2 : (g.push (seqObj "list" (as.map Value.ref).toArray 0)).get? g.objs.size = some (seqObj "list" (as.map Value.ref).toArray 0) := Heap.get?_push_size _ rfl
  have kg : ∀ b o, g.get? b = some o → b ≠ g.objs.size ∧ (g.push (seqObj "list" (as.map Value.ref).toArray 0)).get? b = some o := fun b o e => ⟨Nat.ne_of_lt (Heap.lt_size e), Heap.get?_push_of_some _ e⟩
  show wpAny _ _ _ _ _ { s with heap := g.push (seqObj "list" (as.map Value.ref).toArray 0), toks := tk }
  refine wpAny_bind (wpAny_holding (wpAny_call_entry slot_list_sort ⟨_, hat2, rfl⟩ entry_list_sort
    (SrtO.list_sort_ord (s := { s with heap := g.push (seqObj "list" (as.map Value.ref).toArray 0), toks := tk }) (swoK k) hat2 (by rw [List.length_map]; omega) (fun two => ?_) fun out o1 o2 => ⟨_, rfl, ?_⟩) (args_list_sort _)))
  · intro g2 kp
    have hp : ∀ v ∈ as.map Value.ref, IsKey g v (k v) := fun v hv => by
      obtain ⟨j, b, n, rfl, h1, h2⟩ := at_ v hv
      have h3 := ky j b n h1 h2
      rw [hkk _ _ h3]
      exact h3
    have hp2 : ∀ v ∈ as.map Value.ref, IsKey g2 v (k v) := fun v hm => (hp v hm).keeps fun b o e c => kp b o (kg b o e).1 (kg b o e).2
    obtain ⟨fs, f1, f2, f3⟩ := keys_first fun v hm => ⟨_, hp2 v hm⟩
    refine ⟨tuples' true, fun R E2 hq => ?_, key_cmp hp2 fun v hv u hu e => ?_⟩
    · refine PySem.W.kat_kind (T := .type "int") f1 (by rw [List.length_map] at f2 two; omega) (fun f hm => ?_) (by rfl) ?_
      · obtain ⟨x, t, rfl⟩ := f3 f hm
        exact PySem.W.Looks.now
      · rw [show (Value.type "int" != Value.type "tuple") = true by decide +kernel]
        exact hq
    · obtain ⟨j, b, n, rfl, h1, h2⟩ := at_ v hv
      obtain ⟨j', b', n', rfl, h1', h2'⟩ := at_ u hu
      rw [hkk _ _ (ky _ _ _ h1 h2), hkk _ _ (ky _ _ _ h1' h2')] at e
      subst e
      obtain ⟨z1, z2⟩ := List.getElem?_eq_some_iff.mp h2
      obtain ⟨z3, z4⟩ := List.getElem?_eq_some_iff.mp h2'
      have np := List.pairwise_iff_getElem.mp nd
      have ej : j = j' := by
        rcases Nat.lt_trichotomy j j' with l | l | l
        · exact absurd (z2.trans z4.symm) (np j j' z1 z3 l)
        · exact l
        · exact absurd (z4.trans z2.symm) (np j' j z3 z1 l)
      subst ej
      rw [h1] at h1'
      cases h1'
      rfl
  · obtain ⟨ep2, hend⟩ := sortedHeap_at (vs := as.map Value.ref) (out := out.toArray) hat2
    have zf : (as.zip kvs).map (fun z => Value.ref z.1) = as.map Value.ref := by
      have e : (as.zip kvs).map (fun z => z.1) = as := List.map_fst_zip (by omega)
      conv => rhs; rw [← e]
      rw [List.map_map]
      rfl
    obtain ⟨ord, po, eo⟩ := perm_lift (fun z : Ent => Value.ref z.1) o2.perm (as.zip kvs) zf
    have kF : ∀ b o, g.get? b = some o → (sortedHeap (g.push (seqObj "list" (as.map Value.ref).toArray 0)) g.objs.size (as.map Value.ref) out.toArray).get? b = some o := fun b o e => by
      rw [sortedHeap_old (kg b o e).1 (by rw [size_push']; exact Nat.lt_succ_of_lt (Heap.lt_size e))]
      exact (kg b o e).2
    have idx : ∀ z ∈ ord, ∃ j : Nat, as[j]? = some z.1 ∧ kvs[j]? = some z.2 := by
      intro z hz
      obtain ⟨j, hj⟩ := List.getElem?_of_mem (po.mem_iff.mp hz)
      exact ⟨j, List.getElem?_zip_eq_some.mp hj⟩
    have lord : ord.length = kvs.length := by rw [po.length_eq, List.length_zip]; omega
    have eov : out = (ord.map fun z => V.ref z.1).map fun v => match v with | .ref a => Value.ref a | _ => .none := by
      rw [← eo, List.map_map]; rfl
    have rv : Vals (ord.map fun z => V.ref z.1) out := by
      rw [← eo]
      exact vals_maps (fun z : Ent => V.ref z.1) (fun z => Value.ref z.1) ord fun _ _ => rfl
    have hpn : H g.objs.size = none := I1.hok.fresh (Nat.le_refl _)
    have J : Inv X pins σ (upd H g.objs.size (.lst (ord.map fun z => V.ref z.1))) { s with heap := sortedHeap (g.push (seqObj "list" (as.map Value.ref).toArray 0)) g.objs.size (as.map Value.ref) out.toArray, toks := tk } :=
      I1.laid (t' := tk) (fun b u eb => kF b u eb) (Nat.le_refl _) ⟨by rw [List.length_map]; omega, out, ep2, rv, hend⟩
    have ndo : ((ord.map fun z => (z.1, [kV z.2.1, z.2.2])).map (·.1)).Nodup := by
      rw [List.map_map]
      have e : (as.zip kvs).map (fun z => z.1) = as := List.map_fst_zip (by omega)
      have : ((as.zip kvs).map (fun z => z.1)).Nodup := by rw [e]; exact nda
      exact (po.map (fun z => z.1)).nodup_iff.mpr this
    obtain ⟨H2, I3, kp, qt⟩ := takeF I (ord.map fun z => (z.1, [kV z.2.1, z.2.2])) _ J ndo fun z hz => by
      obtain ⟨y, hy, rfl⟩ := List.mem_map.mp hz
      obtain ⟨j, h1, h2⟩ := idx y hy
      obtain ⟨e, n, t, v, p1, p2, p3, p4, p5⟩ := pr j _ h1
      rw [h2] at p1
      cases p1
      have ab := hG.above _ (List.mem_of_getElem? h1)
      refine ⟨Nat.le_of_lt ab, ?_, by show 2 ≤ sizeLine; decide, [Value.int n t, v], .cons ?_ (.cons p5 .nil), kF _ _ p4⟩
      · rw [upd_ne (kg _ _ p4).1]
        exact I.hok.fresh (Nat.le_of_lt ab)
      · rw [p3]
        exact ⟨t, rfl⟩
    refine wpAny_pure ⟨_, rfl, .ref g.objs.size, H2, I3, rfl, q ord H2 _ ?_ ?_ (fun b o e => kp b o (by rw [upd_ne (ne_of_none e hpn)]; exact e)) (fun z hz => ⟨?_, qt _ (List.mem_map.mpr ⟨z, hz, rfl⟩)⟩) hpn (kp _ _ upd_same)⟩
    · have e : (as.zip kvs).map (·.2) = kvs := List.map_snd_zip (by omega)
      have := po.map (·.2)
      rw [e] at this
      exact this
    · have o3 : ord.Pairwise fun x y => SrtO.lt2 (ltK k) = SrtO.lt2 (ltK k) ∧ ltK k (.ref y.1) (.ref x.1) = false := by
        have o4 : out.Pairwise fun x y => ltK k y x = false := o1
        rw [← eo, List.pairwise_map] at o4
        exact o4.imp fun h => ⟨rfl, h⟩
      refine List.Pairwise.imp_of_mem (fun {x y} hx hy h i j ei ej => ?_) o3
      obtain ⟨jx, x1, x2⟩ := idx x hx
      obtain ⟨jy, y1, y2⟩ := idx y hy
      obtain ⟨e, n, t, v, p1, p2, p3, p4, p5⟩ := pr jx _ x1
      obtain ⟨e', n', t', v', p1', p2', p3', p4', p5'⟩ := pr jy _ y1
      rw [x2] at p1
      cases p1
      rw [y2] at p1'
      cases p1'
      rw [p3] at ei
      rw [p3'] at ej
      cases ei
      cases ej
      have h2 := h.2
      simp only [ltK, decide_eq_false_iff_not] at h2
      rw [hkk _ _ (ky _ _ _ x1 p2), hkk _ _ (ky _ _ _ y1 p2')] at h2
      omega
    · obtain ⟨j, h1, _⟩ := idx z hz
      exact I.hok.fresh (Nat.le_of_lt (hG.above _ (List.mem_of_getElem? h1)))
end
end DL
namespace DL
open PySem PySem.Spec L2 PyProof.Rows
open Evl (Ex)
section
variable {X : Cx} {o : Expr} {wo : WE} {p apos cpos pos : Pos}
abbrev tSortIt (te : TE) : TE := fun σ H Q => te σ H fun x H1 => ∃ (d : Addr) (kvs : List (Key × V)) (ns : List Int), x = .ref d ∧ H1 d = some (.dK kvs) ∧ kvs.map (·.1) = ns.map Sum.inl ∧ ns.Nodup ∧
  ∀ (ord : List Ent) (H' : Hp) (p : Addr), (ord.map (·.2)).Perm kvs → ord.Pairwise (fun x y => ∀ i j, x.2.1 = .inl i → y.2.1 = .inl j → i ≤ j) → (∀ b o, H1 b = some o → H' b = some o) →
      (∀ z ∈ ord, H1 z.1 = none ∧ ∃ ob : Obj, ob.dict = none ∧ H' z.1 = some (.frz ob (.tup [kV z.2.1, z.2.2]))) → H1 p = none → H' p = some (.lst (ord.map fun z => V.ref z.1)) → Q (.ref p) H'
theorem pe_sortIt {te : TE} (hc : X.calm = true) (he : PE X o te) (hg : Gl X "sorted") (hm : X.mg "sorted" = none) (hbase : attributeBase o "items" X.env (eval o X.env) = eval o X.env := by rfl) (hline : (apos.endLine == cpos.line) = true := by rfl)
    (hs : starEach [.Call (.Attribute o "items" apos) [] [] cpos] X.env = (false, eval (.Call (.Attribute o "items" apos) [] [] cpos) X.env) :: starEach [] X.env := by rfl) :
    PE X (.Call (.Name "sorted" p) [.Call (.Attribute o "items" apos) [] [] cpos] [] pos) (tSortIt te) := by
  refine ⟨fun pins s σ H Q I hq => ?_⟩
  refine PyProof.Rows.Call_ (ld_blt I hg hm (u := .builtin "sorted") (by decide +kernel) ?_)
  refine PyProof.Rows.callWith_builtin1 (PyProof.Rows.args_cons ?_ hs) hs rfl
  refine wpAny_Call_method (T := "dict") (id := "dict.items") hbase rfl hline F.plainAttrs_dict F.slot_dict_items F.type_dict_items (thn (he.run pins s σ H _ I hq) fun u s1 ⟨x, H1, I1, rx, d, kvs, ns, ex, hd, hn, nd, q⟩ => ?_)
  subst ex
  obtain rfl : u = Value.ref d := rx
  obtain ⟨hz, hs0, vs, kv, hdo⟩ := I1.hok d _ hd
  have I2 : Inv X pins σ H1 { s1 with heap := s1.heap.push { cls := .type "dict_items", data := .fields #[.ref d] } } := I1.kept (t' := s1.toks) fun b ob q => Heap.get?_push_of_some _ q
  refine ⟨hdo.typeIs, hdo.mapOf.noDict, ?_⟩
  show wpAny _ _ (callWith cpos (.builtin "dict.items") [.ref d] [] []) _ X.xe s1
  refine method_meetsIn F.slot_dict_items F.entry_dict_items rfl (PySem.evalArgs_none ⟨rfl, hdo.typeIs, F.args_dict_items_1 _, _, meets_dict_items (mixKind X.prog X.w) d hs0, ⟨vs, hdo⟩, ?_⟩)
  refine PyProof.Rows.args_nil ?_
  exact sortIt_run hc I2 ⟨_, Heap.get?_push_size _ rfl, rfl, rfl⟩ hd hn nd q
end
end DL
namespace DL
open PySem PySem.Spec L2 PyProof.Rows
open Evl (Ex)
/-- the pairs of a dict as data -/
def entD : KS → Option (List PyData)
  | [] => some []
  | (.inl i, .d x) :: r => (entD r).map (.tuple [.int i, x] :: ·)
  | _ => none
abbrev EntR (K : PySem.W.Frag) (F : Hp) (q : Key × V) (e : PyData) : Prop := ∃ i x, q.1 = .inl i ∧ e = .tuple [.int i, x] ∧ Dq K F q.2 x
theorem entD_at {K : PySem.W.Frag} {F : Hp} : ∀ {ks : KS} {kvs : List (Key × V)} {es : List PyData}, All2 (KIs K F) ks kvs → entD ks = some es → All2 (EntR K F) kvs es
  | [], _, _, .nil, e => by cases e; exact .nil
  | (.inl i, .d x) :: r, q :: _, _, .cons h t, e => by
    simp only [entD, Option.map_eq_some_iff] at e
    obtain ⟨rs, h1, rfl⟩ := e
    exact .cons ⟨i, x, h.1.symm, rfl, h.2⟩ (entD_at t h1)
  | (.inl i, .v x) :: r, _, _, _, e => by cases e
  | (.inl i, .r x) :: r, _, _, _, e => by cases e
  | (.inl i, .w x) :: r, _, _, _, e => by cases e
  | (.inr i, _) :: r, _, _, _, e => by cases e
theorem entR_keys {K : PySem.W.Frag} {F : Hp} : ∀ {kvs : List (Key × V)} {es : List PyData}, All2 (EntR K F) kvs es → kvs.map (·.1) = (es.map keyD).map Sum.inl
  | _, _, .nil => rfl
  | q :: _, e :: _, .cons h t => by
    obtain ⟨i, x, h1, h2, _⟩ := h
    rw [List.map_cons, List.map_cons, List.map_cons, entR_keys t, h1, h2]
    rfl
theorem entR_pair {K : PySem.W.Frag} {F : Hp} : ∀ {kvs : List (Key × V)} {es : List PyData}, All2 (EntR K F) kvs es → kvs.Pairwise (fun x y => ∀ i j, x.1 = .inl i → y.1 = .inl j → i ≤ j) → es.Pairwise fun a b => keyD a ≤ keyD b
  | _, _, .nil, _ => .nil
  | q :: _, e :: _, .cons h t, hp => by
    obtain ⟨i, x, h1, h2, _⟩ := h
    have hp := List.pairwise_cons.mp hp
    refine List.pairwise_cons.mpr ⟨fun z hz => ?_, entR_pair t hp.2⟩
    obtain ⟨n, hn⟩ := List.getElem?_of_mem hz
    obtain ⟨q2, g1, i2, x2, g2, g3, _⟩ := t.get' hn
    have := hp.1 q2 (List.mem_of_getElem? g1) i i2 h1 g2
    rw [h2, g3]
    exact this
theorem entR_dat {K : PySem.W.Frag} {F F' : Hp} (ex : Ex F F') : ∀ {ord : List Ent} {es : List PyData}, All2 (EntR K F) (ord.map (·.2)) es → (∀ z ∈ ord, ∃ ob : Obj, ob.dict = none ∧ F' z.1 = some (.frz ob (.tup [kV z.2.1, z.2.2]))) → DqAll K F' (ord.map fun z => V.ref z.1) es
  | [], _, .nil, _ => .nil
  | z :: ord, _, .cons h t, hh => by
    obtain ⟨i, x, h1, h2, h3⟩ := h
    obtain ⟨ob, o1, o2⟩ := hh z (List.mem_cons_self ..)
    have h1 : z.2.1 = .inl i := h1
    rw [h1] at o2
    rw [h2]
    exact .cons (.tup (.inl ⟨ob, o2, o1⟩) (.cons (.int i) (.cons (dq_mono ex h3) .nil))) (entR_dat ex t fun y hy => hh y (List.mem_cons_of_mem _ hy))
open Classical in
/-- all that is new lies in F -/
theorem Go.grown {K : PySem.W.Frag} {F H H' : Hp} {M : Mem} (at0 : At K F M H) (kp : ∀ b o, H b = some o → H' b = some o) : ∃ F', Go K F M H F' M H' ∧ ∀ b, H b = none → F' b = H' b := by
  let F' : Hp := fun b => if H b = none then H' b else F b
  have e0 : ∀ b, H b = none → F' b = H' b := fun b e => if_pos e
  have e1 : ∀ b o, H b = some o → F' b = F b := fun b o e => if_neg (by rw [e]; exact fun z => by cases z)
  have ex : Ex F F' := fun b o e => by rw [e1 b _ (at0.ex b o e)]; exact e
  refine ⟨F', ⟨ex, ⟨fun b o e => ?_, fun a o m => ?_⟩, fun a o h f m => ⟨kp a o h, by rw [e1 a o h]; exact f, m⟩⟩, e0⟩
  · cases q : H b with
    | none => rw [e0 b q] at e; exact e
    | some u => rw [e1 b u q] at e; exact kp b o (at0.ex b o e)
  · obtain ⟨f, mm⟩ := at0.mem a o m
    obtain ⟨u, hu⟩ := at0.at m
    exact ⟨by rw [e1 a u hu]; exact f, mis_mono ex (by rw [kp a u hu, hu]) mm⟩
section
variable {X : Cx} {o : Expr} {wo : WE} {p apos cpos pos : Pos}
abbrev wSortIt (wo : WE) : WE := fun dl M R => wo dl M fun r M1 => match r with
  | .v (.ref a) => ∃ ks es, M1 a = some (.dic ks) ∧ entD ks = some es ∧ (es.map keyD).Nodup ∧ R (.d (.list (srtD es))) M1
  | _ => False
theorem pd_sortIt (hc : X.calm = true) (hg : Gl X "sorted") (hm : X.mg "sorted" = none) (ho : PD X o wo) (hbase : attributeBase o "items" X.env (eval o X.env) = eval o X.env := by rfl) (hline : (apos.endLine == cpos.line) = true := by rfl)
    (hs : starEach [.Call (.Attribute o "items" apos) [] [] cpos] X.env = (false, eval (.Call (.Attribute o "items" apos) [] [] cpos) X.env) :: starEach [] X.env := by rfl) :
    PD X (.Call (.Name "sorted" p) [.Call (.Attribute o "items" apos) [] [] cpos] [] pos) (wSortIt wo) := by
  refine pe_imp (pe_sortIt hc ho hg hm hbase hline hs) fun st H Q ⟨F, dl, M, R, so, at0, hw, po⟩ => ?_
  refine tD_to so at0 hw fun x F1 H1 r M1 h1 g1 so1 at1 i1 => ?_
  split at h1
  · rename_i a
    obtain ⟨ks, es, m, he, nd, hR⟩ := h1
    have ex : x = .ref a := i1
    obtain ⟨_, kvs, q1, q2⟩ := at1.mem a _ m
    have al := entD_at q2 he
    refine ⟨a, kvs, es.map keyD, ex, q1, entR_keys al, nd, fun ord H' l hp hs kp hz hn hl => ?_⟩
    obtain ⟨es', a1, a2⟩ := perm_all2 hp al
    have e5 : es' = srtD es := srtD_one (a2.trans (srtD_perm es).symm) (entR_pair a1 (List.pairwise_map.mpr hs)) (srtD_sorted es) ((a2.map keyD).nodup_iff.mpr nd)
    subst e5
    obtain ⟨F', g, e0⟩ := Go.grown at1 kp
    refine po (.ref l) F' H' _ M1 hR (g1.trans g) (.lst (by rw [e0 l hn]; exact hl) (entR_dat g.ex a1 fun z hzz => ?_))
    obtain ⟨n1, ob, o1, o2⟩ := hz z hzz
    exact ⟨ob, o1, by rw [e0 _ n1]; exact o2⟩
  · exact h1.elim
end
end DL

set_option Elab.async false
set_option linter.all false
set_option maxRecDepth 100000
set_option maxHeartbeats 4000000
/-! EM: enumerate(a tuple). -/
namespace DL
open PySem PySem.Spec L2 PyProof.Rows
open Evl (Ex)
open Sem (wp)
set_option maxHeartbeats 1000000 in
theorem meets_enumT (l : Addr) (ys : Array Value) :
    Meets (Builtin.«enumerate.__new__» ⟨[.type "enumerate", .ref l], []⟩) (fun _ R s => s.heap.IsTuple l ys ∧
      R (.ok (.ret (.ref (s.heap.push { cls := .type "tuple_iterator", data := .fields #[.ref l, .int 0 0] }).objs.size)))
        { s with heap := (s.heap.push { cls := .type "tuple_iterator", data := .fields #[.ref l, .int 0 0] }).push { cls := .type "enumerate", data := .fields #[.none, .bool false, .ref s.heap.objs.size, rawInt 0, .none, .none] } }) :=
  .of_wp fun prog w A R s h => by
    obtain ⟨hp, g, d, tk, os⟩ := s; obtain ⟨hl, h⟩ := h
    have hsub := sub_enumerate
    have q1 : ∀ {A' : Around} {E : Value → Shared → Prop} {Q : Value → Shared → Prop}, Q (.ref hp.objs.size) ⟨hp.push { cls := .type "tuple_iterator", data := .fields #[.ref l, .int 0 0] }, g, d, tk, os⟩ → wpAny (model prog w) A' (pyIter (.ref l)) Q E ⟨hp, g, d, tk, os⟩ :=
      fun q => (begins_tuple l ys).iter prog w _ _ ⟨hp, g, d, tk, os⟩ _ hl q
    wp_walk using q1
    refine wpAny_stack_any fun st => wpAny_pure ?_
    split
    · rename_i c _ _ _ _ _
      cases (c == Value.type "enumerate")
      · wp_walk using q1
        exact ⟨_, rfl, h⟩
      · wp_walk using q1
        exact ⟨_, rfl, h⟩
    · wp_walk using q1
      exact ⟨_, rfl, h⟩
section
variable {prog : Program} {w : World} {A : Around} {E : Value → Shared → Prop} {s : Shared}
theorem call_enumT {l : Addr} {ys : Array Value} {Q : Value → Shared → Prop} (hL : s.heap.IsTuple l ys)
    (h : ∀ h', IsEnum h' (s.heap.objs.size + 1) s.heap.objs.size 0 .none → h'.IsTupleIter s.heap.objs.size l 0 → h'.objs.size = s.heap.objs.size + 2 →
      (∀ b o, s.heap.get? b = some o → h'.get? b = some o) → Q (.ref (s.heap.objs.size + 1)) { s with heap := h' }) :
    wpAny (model prog w) A (call (.type "enumerate") [.ref l]) Q E s := by
  refine callType_new F.called_enumerate (by decide) (F.typeCall_enumerate_1 _) (F.newCall_enumerate_1 _) (fun obj => F.args_object_init_2 obj _) F.entry_enumerate_new
    (meets_enumT l ys) ⟨hL, ?_⟩
  have hz : (s.heap.push { cls := .type "tuple_iterator", data := .fields #[.ref l, .int 0 0] }).objs.size = s.heap.objs.size + 1 := Heap.size_push ..
  show _ ∧ _
  rw [hz]
  have he : IsEnum ((s.heap.push { cls := .type "tuple_iterator", data := .fields #[.ref l, .int 0 0] }).push
      { cls := .type "enumerate", data := .fields #[.none, .bool false, .ref s.heap.objs.size, rawInt 0, .none, .none] }) (s.heap.objs.size + 1) s.heap.objs.size 0 .none := by
    have := Heap.get?_push_size (s.heap.push { cls := .type "tuple_iterator", data := .fields #[.ref l, .int 0 0] })
      (o := { cls := .type "enumerate", data := .fields #[.none, .bool false, .ref s.heap.objs.size, rawInt 0, .none, .none] }) rfl
    rw [hz] at this; exact this
  exact ⟨⟨_, he, rfl⟩, h _ he ⟨_, Heap.get?_push_of_some _ (Heap.get?_push_size _ rfl), rfl, rfl⟩ (by rw [Heap.size_push, hz]) fun b o x => Heap.get?_push_of_some _ (Heap.get?_push_of_some _ x)⟩
end
/-- the tuple at a, each item in a new pair -/
def IteT (K : PySem.W.Frag) (a : Addr) : It :=
  ⟨fun i H => ∃ (xs : List V) (x : V), SqT K H a xs ∧ xs[i]? = some x, fun i H v H' => ∃ T x, v = .ref T ∧ H T = none ∧ H' = upd H T (.tup [.int (i : Nat), x]) ∧ ∀ xs, SqT K H a xs → xs[i]? = some x, fun i H => ∃ xs : List V, SqT K H a xs ∧ xs.length = i⟩
theorem turn_enumT {P : Program} {w : World} {K : PySem.W.Frag} {elts : List Expr} {kk : Nat} {tpos : Pos} {a e it : Addr} (hne : a ≠ it) (hae : e ≠ a) :
    Turn P w K (.Tuple elts kk tpos) (IteT K a) [e, it] e (fun i h => (∃ old, IsEnum h e it ((i : Nat) : Int) old) ∧ h.IsTupleIter it a i ∧ e ≠ it) where
  mem := by simp
  obj := fun i h st b hb => by
    obtain ⟨⟨old, he⟩, ⟨o, ho, hc, hd⟩, _⟩ := st
    have e' : b = e ∨ b = it := by simpa using hb
    rcases e' with z | z
    · rw [z]; exact ⟨_, he, fun v q => nomatch q⟩
    · rw [z]; exact ⟨o, ho, fun v q => by rw [hd] at q; cases q⟩
  keep := fun i h h' st k => let ⟨⟨old, he⟩, hi, hne⟩ := st; ⟨⟨old, k e (by simp) _ he⟩, hi.at fun o q => k it (by simp) o q, hne⟩
  item := by
    intro X hP hw hK hc i pins s σ H E I hf st hg
    subst hP hw hK
    obtain ⟨⟨old, he⟩, hit, hei⟩ := st
    obtain ⟨xs, x, hq, hx⟩ := hg
    obtain ⟨its, rv, p, hz⟩ := I.tuple hq
    obtain ⟨u, hu, ru⟩ := rv.get hx
    have hel : e < s.heap.objs.size := Heap.lt_size he
    have hil : it < s.heap.objs.size := by obtain ⟨_, q, _⟩ := hit; exact Heap.lt_size q
    have hh : X.A.in1.handled = none := by have := I.ok.hd hc; simp [this]
    have D := Draws.tuple (prog := X.prog) (w := X.w) hh it a hne its.toArray
    have lt : i < its.toArray.size := by rw [List.size_toArray]; exact (List.getElem?_eq_some_iff.mp hu).1
    refine wpAny_pyNext_enum_itemD D he ⟨hit, p⟩ lt hei (by simp only [List.mem_cons, List.not_mem_nil, or_false, not_or]; exact ⟨hei, hae⟩) fun x' h' tk hP ho hit' hT hsz hk => ?_
    have e2 : x' = u := by
      have q : its[i]? = some x' := by simpa using hP
      rw [hu] at q
      exact (Option.some.inj q).symm
    subst e2
    refine ⟨_, rfl, wpAny_letOwnedTupleGo_enum (s := { s with heap := h', toks := tk + 1 }) ho fun h'' he' sb => ?_⟩
    have hT2 : h''.get? s.heap.objs.size = some { cls := .type "tuple", data := .seq #[.int i tk, x'] } := (sb.2 _ (Nat.ne_of_gt hel)).trans hT
    have new : ObjOk X.prog X.w (upd H s.heap.objs.size (.tup [.int (i : Nat), x])) h'' s.heap.objs.size (.tup [.int (i : Nat), x]) :=
      ⟨by show 2 ≤ sizeLine; decide, [.int i tk, x'], .cons ⟨_, rfl⟩ (.cons ru .nil), ⟨_, hT2, rfl, _, rfl⟩⟩
    have I1 : Inv X pins σ (upd H s.heap.objs.size (.tup [.int (i : Nat), x])) { s with heap := h'', toks := tk + 1 } :=
      I.turnedNew (ch := [e, it]) (fun b ob hb q => (sb.2 b (fun z => hb (by simp [z]))).trans (hk b ob (fun z => hb (by simp [z])) (fun z => hb (by simp [z])) q)) hf (Nat.le_refl _) new
    refine ⟨.ref s.heap.objs.size, _, I1, rfl, ⟨_, x, rfl, I.hok.fresh (Nat.le_refl _), rfl, fun ys hy => by rw [I.tuple_inj hy hq]; exact hx⟩, ⟨⟨x', ?_⟩, hit'.1.at fun o q => (sb.2 it (Ne.symm hei)).trans q, hei⟩, fun b hb => ?_⟩
    · have e1 : ((i + 1 : Nat) : Int) = (i : Int) + 1 := by omega
      rw [e1]; exact he'
    · have hb' : b < s.heap.objs.size := by
        have e' : b = e ∨ b = it := by simpa using hb
        rcases e' with z | z
        · rw [z]; exact hel
        · rw [z]; exact hil
      rw [upd_ne (Nat.ne_of_lt hb')]
      exact (hf b hb).1
  done := by
    intro X hP hw hK hc i pins s σ H E I hf st hg
    subst hP hw hK
    obtain ⟨⟨old, he⟩, hit, hei⟩ := st
    obtain ⟨xs, hq, hx⟩ := hg
    obtain ⟨its, rv, p, hz⟩ := I.tuple hq
    obtain ⟨f0, f1, f2, f3, f4, f5⟩ := hf it (by simp)
    have hl := rv.length
    have hh : X.A.in1.handled = none := by have := I.ok.hd hc; simp [this]
    have D := Draws.tuple (prog := X.prog) (w := X.w) hh it a hne its.toArray
    have ei : i = its.toArray.size := by rw [List.size_toArray, ← hl]; exact hx.symm
    subst ei
    exact wpAny_pyNext_enum_endD D he ⟨hit, p⟩ fun h' eb => ⟨rfl, I.turned (t' := s.toks) (fun b o hb q => eb b o hb q) f0 f1 f3 f4 f5⟩
  self := fun A i s Q E st h => let ⟨⟨_, he⟩, _⟩ := st; wpAny_pyIter_enum he h
section
variable {X : Cx} {e : Expr} {wa : WA} {p pos tpos : Pos} {elts : List Expr} {kk : Nat}
abbrev wiEnumT (wa : WA) : WI := fun dl M T => wa dl M fun rs M1 => match rs with
  | [.d (.tuple ds)] => T (enumS ds) C0 M1
  | _ => False
theorem pi_enumT {ta : TA} (hg : Gl X "enumerate") (hm : X.mg "enumerate" = none) (ha : PA X [e] ta) (hs : starEach [e] X.env = [(false, eval e X.env)] := by rfl) :
    PI X (.Tuple elts kk tpos) (.Call (.Name "enumerate" p) [e] [] pos) (fun σ H R => ta σ H fun vs H1 => ∃ a xs, vs = [.ref a] ∧ SqT X.K H1 a xs ∧ R (IteT X.K a) H1) := by
  refine ⟨fun pins s σ H R I h => ?_⟩
  refine Call_ (ld_blt I hg hm boot_enumerate (PyProof.Rows.callWith_type1 (thn (ha.run pos pins s σ H _ I h) fun us s1 ⟨vs, H1, I1, r1, q1⟩ => ?_) hs rfl))
  obtain ⟨a, xs, ex, hq, q⟩ := q1
  subst ex
  cases r1 with
  | cons r rr =>
    cases rr
    cases r
    obtain ⟨its, rv, p', hz⟩ := I1.tuple hq
    have la : (a : Nat) < s1.heap.objs.size := by obtain ⟨o2, ho2, _⟩ := id p'; exact Heap.lt_size ho2
    refine call_enumT (show s1.heap.IsTuple a its.toArray from p') fun h' he hit hsz hk => wpAny_pyIter_enum he ?_
    have I2 : Inv X pins σ H1 { s1 with heap := h' } := I1.kept (t' := s1.toks) hk
    refine ⟨s1.heap.objs.size + 1, [s1.heap.objs.size + 1, s1.heap.objs.size], _, _, H1, rfl, I2, turn_enumT (a := a) (e := s1.heap.objs.size + 1) (it := s1.heap.objs.size) (Nat.ne_of_lt la) (fun z => nl2 (k := 1) la z.symm), ⟨⟨.none, he⟩, hit, Nat.succ_ne_self _⟩, fun b hb => ?_, q⟩
    have e' : b = s1.heap.objs.size + 1 ∨ b = s1.heap.objs.size := by simpa using hb
    have hle : s1.heap.objs.size ≤ b := by
      rcases e' with z | z
      · rw [z]; exact Nat.le_add_right _ _
      · rw [z]; exact Nat.le_refl _
    exact I1.fpOk hle (I1.hok.fresh hle)
theorem pdi_enumT (hg : Gl X "enumerate") (hm : X.mg "enumerate" = none) (ha : PDA X [e] wa) (hs : starEach [e] X.env = [(false, eval e X.env)] := by rfl) : PDI X (.Tuple elts kk tpos) (.Call (.Name "enumerate" p) [e] [] pos) (wiEnumT wa) :=
  pi_imp (pi_enumT hg hm ha hs) fun st H Q ⟨F, dl, M, T, so, at0, hw, po⟩ =>
    tDA_to so at0 hw fun vs F1 H1 rs M1 h1 g1 so1 at1 i1 => by
      split at h1
      · rename_i ds
        obtain ⟨v, rfl, i2⟩ := isAll1 i1
        obtain ⟨a, us, rfl, q1, q2⟩ := sqT_at at1 i2
        have lb : ∀ F M H, Evl.Ex F1 F → At X.K F M H → ∃ us, SqT X.K H a us ∧ DqAll X.K F us ds := fun F M H e at' => by
          obtain ⟨c, zs, e2, z1, z2⟩ := sqT_at at' (dq_mono e i2)
          cases e2
          exact ⟨zs, z1, z2⟩
        refine ⟨a, us, rfl, q1, po F1 M1 H1 _ _ _ h1 g1 ⟨fun F M H i e at0 c hi => ?_, fun F M H i x H' r e at0 c y hr => ?_, fun F M H e at0 c => ?_⟩⟩
        · rw [enumS_len] at hi
          obtain ⟨us, s2, q4⟩ := lb F M H e at0
          obtain ⟨v, z1, z2⟩ := dqAll_get (i := i) q4 (List.getElem?_eq_getElem hi)
          exact ⟨us, v, s2, z1⟩
        · obtain ⟨us, s2, q4⟩ := lb F M H e at0
          obtain ⟨Tp, xv, rfl, hT, rfl, hx⟩ := y
          obtain ⟨d, hd, rfl⟩ := enumS_get hr
          obtain ⟨v, z1, z2⟩ := dqAll_get (i := i) q4 hd
          have hxv := hx us s2
          rw [z1] at hxv
          obtain rfl : v = xv := Option.some.inj hxv
          have g := Go.laid at0 (o := .tup [.int (i : Int), v]) hT
          exact ⟨_, g, _, _, rfl, .inl (.inl upd_same), .cons (.int _) (.cons (dq_mono g.ex z2) .nil)⟩
        · obtain ⟨us, s2, q4⟩ := lb F M H e at0
          rw [enumS_len]
          exact ⟨us, s2, by rw [dqAll_len q4]⟩
      · exact h1.elim
end
end DL

set_option Elab.async false
set_option linter.all false
set_option maxRecDepth 100000
set_option maxHeartbeats 4000000
/-! EN: ends: nested constants, classes, methods as the top has left them. -/
namespace DL
open PySem PySem.Spec L2
theorem dk_tup {K : PySem.W.Frag} {a : Addr} {n : Nat} {sl : Array (Option Value)} {its : Array Value} {vs : List V} {ds : List PyData} (hk : K.lookup a = some ⟨.type "tuple", none, .seq its n, sl⟩) (hv : Vals vs its.toList) (hz : its.size ≤ sizeLine)
    (h : ∀ F, DqAll K F vs ds) : ∀ F, Dq K F (.ref a) (.tuple ds) := fun F => .tup (.inr ⟨_, its, n, hk, rfl, rfl, hz, hv, rfl⟩) (h F)
section
variable {X : Cx}
abbrev gMin2 : WCl := fun rs M R => match rs with
  | [.d (.int i), .d (.int j)] => R (.i (if j < i then j else i)) M
  | _ => False
theorem c_min2 (hc : X.calm = true) : CaD X (.builtin "min") gMin2 := caD_of fun F H M vs rs R Q at0 i1 h1 po => by
  unfold gMin2 at h1
  split at h1
  · obtain ⟨v, u, rfl, i2, i3⟩ := isAll2 i1
    exact ⟨_, call_min2 hc, _, _, by rw [dq_int i2, dq_int i3], po _ F H _ M h1 (Go.refl at0) (.int _)⟩
  · exact h1.elim
end
/-- a method of the text -/
def MethAt (K : PySem.W.Frag) (C : Addr) (m qual : Str) (st : Stmt) : Prop := ∃ f fd, Meth K C m f ∧ Fun K m qual st f fd
theorem meth_mk {K : PySem.W.Frag} {C : Addr} {m qual : Str} {st : Stmt} {f : Addr} {od an : Option Addr} {sl : Array (Option Value)} {oc kV doc pm cd ct : Value} (a : PySem.W.findIn K (.ref C) m = some (some (.ref f))) (i : PySem.W.isFn K (.ref f) = true)
    (l : K.lookup f = some ⟨oc, od, .func (PySem.W.fnOf m qual (defArgs st) (defBody st) (defScope st) .none kV doc pm an cd ct), sl⟩) (c : PySem.W.codeIn K cd qual = true) (k : PySem.W.keepIn K (.ref f) = true) : MethAt K C m qual st := ⟨f, _, ⟨a, i, k⟩, fun_mk (st := st) l c k⟩
/-- __init__ with one default -/
def InitD (K : PySem.W.Frag) (C : Addr) (qual : Str) (st : Stmt) : Prop := ∃ f fd E, Mk K C f ∧ FunD K "__init__" qual (defArgs st) (defBody st) (defScope st) [V.ref E] [] f fd
theorem initD_mk {K : PySem.W.Frag} {C : Addr} {qual : Str} {st : Stmt} {f T E : Addr} {od an odT : Option Addr} {sl slT : Array (Option Value)} {oc kV doc pm cd ct ocT : Value} {nT : Nat} {ws : Array Value} (mk : PySem.W.makesIn K C = true) (kc : PySem.W.keepIn K (.ref C) = true)
    (a : PySem.W.findIn K (.ref C) "__init__" = some (some (.ref f))) (i : PySem.W.isFn K (.ref f) = true)
    (l : K.lookup f = some ⟨oc, od, .func (PySem.W.fnOf "__init__" qual (defArgs st) (defBody st) (defScope st) (.ref T) kV doc pm an cd ct), sl⟩) (c : PySem.W.codeIn K cd qual = true) (k : PySem.W.keepIn K (.ref f) = true)
    (lT : K.lookup T = some ⟨ocT, odT, .seq ws nT, slT⟩) (vT : Vals [V.ref E] ws.toList) : InitD K C qual st :=
  ⟨f, _, E, ⟨mk, a, i, kc⟩, ⟨⟨oc, od, .ref T, kV, doc, pm, an, cd, ct, sl, rfl, l, c, .inr ⟨by simp, T, _, ws.toList, nT, rfl, lT, by simp, vT⟩, .inl rfl⟩, k⟩⟩
/-- __init__ without defaults -/
def InitA (K : PySem.W.Frag) (C : Addr) (qual : Str) (st : Stmt) : Prop := ∃ f fd, Mk K C f ∧ Fun K "__init__" qual st f fd
theorem initA_mk {K : PySem.W.Frag} {C : Addr} {qual : Str} {st : Stmt} {f : Addr} {od an : Option Addr} {sl : Array (Option Value)} {oc kV doc pm cd ct : Value} (mk : PySem.W.makesIn K C = true) (kc : PySem.W.keepIn K (.ref C) = true)
    (a : PySem.W.findIn K (.ref C) "__init__" = some (some (.ref f))) (i : PySem.W.isFn K (.ref f) = true)
    (l : K.lookup f = some ⟨oc, od, .func (PySem.W.fnOf "__init__" qual (defArgs st) (defBody st) (defScope st) .none kV doc pm an cd ct), sl⟩) (c : PySem.W.codeIn K cd qual = true) (k : PySem.W.keepIn K (.ref f) = true) : InitA K C qual st := ⟨f, _, ⟨mk, a, i, kc⟩, fun_mk (st := st) l c k⟩
section
variable {P : Program} {w : World} {K : PySem.W.Frag} {mg : Str → Option Value} {base : Heap} {k : Nat} {C : Addr} {m qual x : Str} {st : Stmt} {ps : List Str} {cn : Cn}
theorem HasM.of {f : Addr} {fd : FuncData} (hm : Meth K C m f) (Fu : Fun K m qual st f fd)
    (hb : ∀ (kV doc pm : Value) (an : Option Addr) (cdv ct : Value) (us : List Value), us.length = ps.length → bindArgs (PySem.W.fnOf m qual (defArgs st) (defBody st) (defScope st) .none kV doc pm an cdv ct) ⟨us, []⟩ = pure (ps.zip us))
    (G : FnD P w K mg base k f fd ps cn) : HasM P w K mg base k C m ps cn := ⟨f, fd, hm, Fu.binds hb, G⟩
theorem HasK.of {f : Addr} {fd : FuncData} (hm : Mk K C f) (hx : mg x = some (.ref C)) (Fu : Fun K "__init__" qual st f fd)
    (hb : ∀ (kV doc pm : Value) (an : Option Addr) (cdv ct : Value) (us : List Value), us.length = ps.length → bindArgs (PySem.W.fnOf "__init__" qual (defArgs st) (defBody st) (defScope st) .none kV doc pm an cdv ct) ⟨us, []⟩ = pure (ps.zip us))
    (G : FnD P w K mg base k f fd ps cn) : HasK P w K mg base k C x ps cn := ⟨f, fd, hm, hx, Fu.binds hb, G⟩
theorem HasK.ofD {f E : Addr} {fd : FuncData} (n : Nat) (hm : Mk K C f) (hx : mg x = some (.ref C)) (Fu : FunD K "__init__" qual (defArgs st) (defBody st) (defScope st) [V.ref E] [] f fd)
    (hb : ∀ (T : Addr) (kV doc pm : Value) (an : Option Addr) (cdv ct : Value) (us its : List Value), us.length = n → its.length = 1 → ∃ k, bindArgs (PySem.W.fnOf "__init__" qual (defArgs st) (defBody st) (defScope st) (.ref T) kV doc pm an cdv ct) ⟨us, []⟩ = seqItems? (.ref T) >>= k ∧ k (some its.toArray) = pure (ps.zip (us ++ its.drop 1))) (hn : n = ps.length)
    (G : FnD P w K mg base k f fd ps cn) : HasK P w K mg base k C x ps cn := by
  obtain ⟨ds, v, b⟩ := Fu.binds1 (ps := ps) n 1 (by simp) (by simpa using hn) hb
  cases v
  exact ⟨f, fd, hm, hx, b, G⟩
end
end DL

set_option Elab.async false
set_option linter.all false
set_option maxRecDepth 100000
set_option maxHeartbeats 4000000
/-! HD: the small head: what the top has left, looked at by one Hook; the law's end over it. -/
namespace DL
open PySem PySem.Spec PyProof.Rows L2
open Evl (Ex)
/-- the items of a tuple of the top -/
def tupIn (K : PySem.W.Frag) (u : Value) : List Value × Bool := match u with
  | .ref a => (match K.lookup a with
    | some ⟨.type c, none, .seq its _, _⟩ => (its.toList, decide (c = "tuple") && decide (its.size ≤ sizeLine))
    | _ => ([], false))
  | _ => ([], false)
theorem tupIn_ok {K : PySem.W.Frag} {u : Value} (h : (tupIn K u).2 = true) : ∃ a its n sl, u = .ref a ∧ K.lookup a = some ⟨.type "tuple", none, .seq its n, sl⟩ ∧ its.size ≤ sizeLine ∧ (tupIn K u).1 = its.toList := by
  unfold tupIn at h ⊢
  split at h
  · rename_i a
    split at h
    · rename_i c its n sl q
      obtain ⟨h1, h2⟩ := He.ba (show (decide (c = "tuple") && decide (its.size ≤ sizeLine)) = true from h)
      have e := of_decide_eq_true h1
      subst e
      exact ⟨a, its, n, sl, rfl, q, of_decide_eq_true h2, by simp only [q]⟩
    · cases h
  · cases h
mutual
def datB (K : PySem.W.Frag) : PyData → Value → Bool
  | .none, u => He.relB .non u
  | .bool b, u => He.relB (.bl b) u
  | .int i, u => He.relB (.int i) u
  | .str x, u => He.relB (.str x) u
  | .tuple ds, u => (tupIn K u).2 && datBs K ds (tupIn K u).1
  | .list _, _ => false
  | .dict _, _ => false
def datBs (K : PySem.W.Frag) : List PyData → List Value → Bool
  | [], us => us.isEmpty
  | d :: ds, us => !us.isEmpty && (datB K d (us.headD .none) && datBs K ds (us.drop 1))
end
mutual
theorem datB_ok {K : PySem.W.Frag} : ∀ {d : PyData} {u : Value}, datB K d u = true → ∃ v, RelV v u ∧ ∀ F, Dq K F v d
  | .none, u, h => ⟨.non, He.relB_ok (by rw [datB] at h; exact h), fun F => .non⟩
  | .bool b, u, h => ⟨.bl b, He.relB_ok (by rw [datB] at h; exact h), fun F => .bl b⟩
  | .int i, u, h => ⟨.int i, He.relB_ok (by rw [datB] at h; exact h), fun F => .int i⟩
  | .str x, u, h => ⟨.str x, He.relB_ok (by rw [datB] at h; exact h), fun F => .str x⟩
  | .tuple ds, u, h => by
    rw [datB] at h
    obtain ⟨h1, h2⟩ := He.ba h
    obtain ⟨a, its, n, sl, rfl, q, hz, e⟩ := tupIn_ok h1
    rw [e] at h2
    obtain ⟨vs, r, q2⟩ := datBs_ok h2
    exact ⟨.ref a, rfl, dk_tup q r hz q2⟩
  | .list _, u, h => by rw [datB] at h; cases h
  | .dict _, u, h => by rw [datB] at h; cases h
theorem datBs_ok {K : PySem.W.Frag} : ∀ {ds : List PyData} {us : List Value}, datBs K ds us = true → ∃ vs, Vals vs us ∧ ∀ F, DqAll K F vs ds
  | [], us, h => by
    rw [datBs] at h
    cases us with
    | nil => exact ⟨[], .nil, fun F => .nil⟩
    | cons u us => cases h
  | d :: ds, us, h => by
    rw [datBs] at h
    obtain ⟨h0, h⟩ := He.ba h
    cases us with
    | nil => cases h0
    | cons u us =>
      obtain ⟨h1, h2⟩ := He.ba h
      obtain ⟨v, a, b⟩ := datB_ok (u := u) h1
      obtain ⟨vs, a2, b2⟩ := datBs_ok (us := us) h2
      exact ⟨v :: vs, .cons a a2, fun F => .cons (b F) (b2 F)⟩
end
/-- what is looked at -/
inductive Ft where
  | fa (f : He.Fa)
  | dat (x : Str) (d : PyData)
  | tst (t : PySem.W.Frag → Bool)
def Ft.ok (K : PySem.W.Frag) : Ft → Bool
  | .fa f => f.ok K
  | .dat x d => (match PySem.W.nsIn K mainGlobals x with
    | some (some (.ref a)) => datB K d (.ref a)
    | _ => false)
  | .tst t => t K
theorem dat_ok {K : PySem.W.Frag} {h : Heap} {mg : Str → Option Value} {x : Str} {d : PyData} (X : K.In h) (G : h.Ns mainGlobals mg) (c : (Ft.dat x d).ok K = true) : GD K mg x d := by
  have c2 : (match PySem.W.nsIn K mainGlobals x with
    | some (some (.ref a)) => datB K d (.ref a)
    | _ => false) = true := c
  split at c2
  · rename_i a e
    obtain ⟨v, r, q⟩ := datB_ok c2
    cases v with
    | ref b =>
      have e2 : (Value.ref a) = .ref b := r
      cases e2
      exact ⟨a, PySem.W.mg_of X G e, q⟩
    | non => cases (show (Value.ref a) = .none from r)
    | bl b => cases (show (Value.ref a) = .bool b from r)
    | int i => obtain ⟨t, e2⟩ := (show ∃ t, (Value.ref a) = .int i t from r); cases e2
    | str i => obtain ⟨t, e2⟩ := (show ∃ t, (Value.ref a) = .str i t from r); cases e2
    | ty n => cases (show (Value.ref a) = .type n from r)
    | byt b => obtain ⟨t, e2⟩ := (show ∃ t, (Value.ref a) = .bytes b t from r); cases e2
    | flt b => obtain ⟨t, e2⟩ := (show ∃ t, (Value.ref a) = .float b t from r); cases e2
  · cases c2
def obsX (fs : List Ft) (fn : List He.DefD) (K : PySem.W.Frag) : He.AlD := ((fs.all fun f => f.ok K) && fn.all fun d => d.ok K, fn.map fun d => He.fnW K d.at_)
def SaysX (fs : List Ft) (fn : List He.DefD) (K : PySem.W.Frag) : Prop := obsX fs fn K = He.valD fn
def obsXG (n : Nat) (fs : List Ft) (fn : List He.DefD) (g : Addr → Option Obj) : He.AlD := obsX fs fn (He.frG g (He.asD g n))
def hookX (n : Nat) (fs : List Ft) (fn : List He.DefD) : PySem.W.Hook where
  α := He.AlD
  obs := fun s => obsXG n fs fn s.heap.get?
  val := fun _ => He.valD fn
  says := fun _ h => ∃ K : PySem.W.Frag, K.In h ∧ SaysX fs fn K
  of := fun _ _ e => ⟨_, He.frG_in, e⟩
  keeps := fun _ _ _ ⟨K, hK, c⟩ k => ⟨K, PySem.W.Frag.In.keeps hK k, c⟩
theorem obsXG_eq {n : Nat} {fs : List Ft} {fn : List He.DefD} {g : Addr → Option Obj} {s : Shared} (h : ∀ a, g a = s.heap.get? a) : obsXG n fs fn g = (hookX n fs fn).obs s := by
  have e : g = s.heap.get? := funext h
  rw [e] <;> rfl
section
variable {fs : List Ft} {fn : List He.DefD} {K : PySem.W.Frag}
theorem SaysX.fact (c : SaysX fs fn K) (i : Nat) {f : Ft} (h : fs[i]? = some f := by rfl) : f.ok K = true := by
  have c1 := (He.ba (show ((fs.all fun f => f.ok K) && fn.all fun d => d.ok K) = true from congrArg (fun z : He.AlD => z.1) c)).1
  exact List.all_eq_true.mp c1 f (List.mem_of_getElem? h)
theorem SaysX.def_ (c : SaysX fs fn K) (i : Nat) {d : He.DefD} (h : fn[i]? = some d := by rfl) : ∃ fd, FunD K d.name d.qual d.params d.body d.scope (d.dvs K) (d.kws K) (He.fAd K d.at_) fd := by
  have c2 := (He.ba (show ((fs.all fun f => f.ok K) && fn.all fun d => d.ok K) = true from congrArg (fun z : He.AlD => z.1) c)).2
  have e : fn.map (fun d => He.fnW K d.at_) = fn.map He.DefD.val := congrArg (fun z : He.AlD => z.2) c
  have e2 : (fn.map fun d => He.fnW K d.at_)[i]? = (fn.map He.DefD.val)[i]? := by rw [e]
  rw [List.getElem?_map, List.getElem?_map, h] at e2
  exact He.DefD.funD (Option.some.inj e2) (List.all_eq_true.mp c2 d (List.mem_of_getElem? h))
end
theorem fun_ofD {K : PySem.W.Frag} {x qual : Str} {st : Stmt} {f : Addr} {fd : FuncData} (h : FunD K x qual (defArgs st) (defBody st) (defScope st) [] [] f fd) : Fun K x qual st f fd := by
  obtain ⟨oc, od, dV, kV, doc, pm, an, cdv, ct, osl, rfl, lk, hcd, hd, _⟩ := h.ex
  rcases hd with ⟨_, rfl⟩ | ⟨q, _⟩
  · exact ⟨⟨oc, od, kV, doc, pm, an, cdv, ct, osl, rfl, lk, hcd⟩, h.kp⟩
  · exact absurd rfl q
/-- a def of the top, one of its methods, as looked at -/
abbrev dF (x : Str) (st : Stmt) : He.DefD := ⟨(x, none), x, x, defArgs st, defBody st, defScope st, [], []⟩
abbrev dM (C m qual : Str) (st : Stmt) : He.DefD := ⟨(C, some m), m, qual, defArgs st, defBody st, defScope st, [], []⟩
abbrev dM1 (C m qual : Str) (st : Stmt) : He.DefD := ⟨(C, some m), m, qual, defArgs st, defBody st, defScope st, [.adr (He.dflAt (C, some m) 0)], []⟩
section
variable {fs : List Ft} {fn : List He.DefD} {K : PySem.W.Frag} {h : Heap} {mg : Str → Option Value} {x C m qual : Str} {st : Stmt}
theorem defAt_x (X : K.In h) (G : h.Ns mainGlobals mg) (c : SaysX fs fn K) (i j : Nat) (hi : fs[i]? = some (.fa (.glo x)) := by rfl) (hj : fn[j]? = some (dF x st) := by rfl) : DefAt K mg x st := by
  obtain ⟨fd, F⟩ := c.def_ j hj
  exact ⟨_, fd, He.glo_ok X G (c.fact i hi), fun_ofD F⟩
theorem methAt_x (c : SaysX fs fn K) (i j : Nat) (hi : fs[i]? = some (.fa (.meth C m)) := by rfl) (hj : fn[j]? = some (dM C m qual st) := by rfl) : MethAt K (He.ga K C) m qual st := by
  obtain ⟨fd, F⟩ := c.def_ j hj
  exact ⟨_, fd, He.meth_ok (c.fact i hi), fun_ofD F⟩
theorem initA_x (c : SaysX fs fn K) (i j : Nat) (hi : fs[i]? = some (.fa (.mkr C)) := by rfl) (hj : fn[j]? = some (dM C "__init__" qual st) := by rfl) : InitA K (He.ga K C) qual st := by
  obtain ⟨fd, F⟩ := c.def_ j hj
  exact ⟨_, fd, He.mkr_ok (c.fact i hi), fun_ofD F⟩
theorem initD_x (c : SaysX fs fn K) (i j : Nat) (hi : fs[i]? = some (.fa (.mkr C)) := by rfl) (hj : fn[j]? = some (dM1 C "__init__" qual st) := by rfl) : InitD K (He.ga K C) qual st := by
  obtain ⟨fd, F⟩ := c.def_ j hj
  exact ⟨_, fd, _, He.mkr_ok (c.fact i hi), F⟩
theorem free_x (X : K.In h) (G : h.Ns mainGlobals mg) (c : SaysX fs fn K) (i : Nat) (hi : fs[i]? = some (.fa (.free x)) := by rfl) : mg x = none := He.free_ok X G (c.fact i hi)
theorem int_x {z : Int} (X : K.In h) (G : h.Ns mainGlobals mg) (c : SaysX fs fn K) (i : Nat) (hi : fs[i]? = some (.fa (.int x z)) := by rfl) : ∃ t, mg x = some (.int z t) := He.int_ok X G (c.fact i hi)
theorem str_x {z : Str} (X : K.In h) (G : h.Ns mainGlobals mg) (c : SaysX fs fn K) (i : Nat) (hi : fs[i]? = some (.fa (.str x z)) := by rfl) : ∃ t, mg x = some (.str z t) := He.str_ok X G (c.fact i hi)
theorem dat_x {d : PyData} (X : K.In h) (G : h.Ns mainGlobals mg) (c : SaysX fs fn K) (i : Nat) (hi : fs[i]? = some (.dat x d) := by rfl) : GD K mg x d := dat_ok X G (c.fact i hi)
theorem cls_x (c : SaysX fs fn K) (i : Nat) (hi : fs[i]? = some (.fa (.cls C)) := by rfl) : Cls K (He.ga K C) := He.cls_ok (c.fact i hi)
theorem glo_x (X : K.In h) (G : h.Ns mainGlobals mg) (c : SaysX fs fn K) (i : Nat) (hi : fs[i]? = some (.fa (.glo C)) := by rfl) : mg C = some (.ref (He.ga K C)) := He.glo_ok X G (c.fact i hi)
theorem noat_x (c : SaysX fs fn K) (i : Nat) (hi : fs[i]? = some (.fa (.noat C m)) := by rfl) : NoAttr K (He.ga K C) m := He.noat_ok (c.fact i hi)
end
theorem law_endE {l : PySem.W.OpenLaw} {n lv : Nat} {q : Program} {loose : List Str} {XP : (Str → Option Value) → Heap → Prop} {YP : World → Heap → Prop} {d : DefRec} {cn : Cn} {x : Str}
    (most : l.most = some n) (few : n ≤ sizeLine) (nodef : d.params.defaults = []) (room : Room lv callerA)
    (F : ∀ (w : World) (mg : Str → Option Value) (fa : Addr) (h : Heap), YP w h → h.Ns mainGlobals mg → mg d.name = some (.ref fa) → ∃ K : PySem.W.Frag, K.In h ∧ ∃ fd : FuncData, (∀ (s : Shared) (u : Value), BindsTo s fd ⟨[u], []⟩ [(x, u)]) ∧ ∀ base : Heap, FnD l.prog w K mg base lv fa fd [x] cn)
    (prm : ∀ ns : List Int, ns.length ≤ n → cn [.r ns] (fun _ => none) fun r _ => r = .b true) : PySem.W.WalkO q loose XP YP l.row.toRowW d [] (fun f vs => PySem.call f vs) := by
  refine Att.attach_call most nodef fun w s0 s mg mb fa o pm cd doc ad us ns G Y ho hd hcd hmg scr inl len g5 => ?_
  obtain ⟨K, KX, fd, bnd, hF⟩ := F w mg fa _ Y G.T.g hmg
  have rv := vals_ints inl
  have lu := inl.length
  have core := fun H => law_core (P := l.prog) (w := w) (us := us) (ns := ns) H KX G.T.g G.T.b G.T.builtins G.T.nolimit g5 scr room hF bnd (prm ns len)
  cases e : K.lookup ad with
  | some ob =>
    have e2 := KX ad ob e
    rw [scr] at e2
    cases e2
    refine core (fun _ => none) (fun _ => .inl rfl) (.inr ⟨_, us.toArray, _, e, rfl, rfl, rfl, ?_, by simpa using rv⟩) (fun c u z => nomatch (show (none : Option HO) = some u from z)) (fun c z => absurd rfl z) fun z => absurd rfl z
    rw [List.size_toArray, lu]; omega
  | none =>
    let H : Hp := fun c => if c = ad then some (.frz { cls := .type "list", data := .seq us.toArray } (.lst (ns.map V.int))) else none
    have at1 : H ad = some (.frz { cls := .type "list", data := .seq us.toArray } (.lst (ns.map V.int))) := if_pos rfl
    have at2 : ∀ c, c ≠ ad → H c = none := fun c hc => if_neg hc
    refine core H (fun c => ?_) (.inl (.inr ⟨_, at1⟩)) (fun c u z => ?_) (fun c z => ?_) fun _ => e
    · by_cases hc : c = ad
      · subst hc; exact .inr ⟨_, _, at1⟩
      · exact .inl (at2 c hc)
    · by_cases hc : c = ad
      · subst hc
        rw [at1] at z
        cases z
        exact ⟨scr, by rw [List.length_map]; omega, us, _, rv, scr⟩
      · rw [at2 c hc] at z; cases z
    · by_cases hc : c = ad
      · exact hc
      · exact absurd (at2 c hc) z
end DL

set_option Elab.async false
set_option linter.all false
set_option maxRecDepth 100000
set_option maxHeartbeats 4000000
namespace LW
open PySem PySem.Spec L2 DL
abbrev PG : Program := PySem.Challenge.pw_splitstays_k09_known_logs
def top (i : Nat) : Stmt := PG.main.body.getD i (.Pass ⟨0, 0, 0, 0⟩)
abbrev s_tupled : Stmt := top 2
abbrev N_tupled : List Str := ["thing", "part"]
theorem sc_tupled : FnScope N_tupled ["thing"] (defScope s_tupled) := ⟨rfl, rfl, rfl, by decide +kernel, rfl, by decide +kernel, by decide +kernel⟩
abbrev s_first_image : Stmt := top 8
abbrev N_first_image : List Str := ["page"]
theorem sc_first_image : FnScope N_first_image ["page"] (defScope s_first_image) := ⟨rfl, rfl, rfl, by decide +kernel, rfl, by decide +kernel, by decide +kernel⟩
abbrev s_with_state : Stmt := top 9
abbrev N_with_state : List Str := ["content", "key", "state", "entries", "entry"]
theorem sc_with_state : FnScope N_with_state ["content", "key", "state"] (defScope s_with_state) := ⟨rfl, rfl, rfl, by decide +kernel, rfl, by decide +kernel, by decide +kernel⟩
abbrev s_laid : Stmt := top 10
abbrev N_laid : List Str := ["content", "record", "plain", "word", "fields"]
theorem sc_laid : FnScope N_laid ["content", "record"] (defScope s_laid) := ⟨rfl, rfl, rfl, by decide +kernel, rfl, by decide +kernel, by decide +kernel⟩
abbrev s_page_of : Stmt := top 17
abbrev N_page_of : List Str := ["record"]
theorem sc_page_of : FnScope N_page_of ["record"] (defScope s_page_of) := ⟨rfl, rfl, rfl, by decide +kernel, rfl, by decide +kernel, by decide +kernel⟩
abbrev s_owner_in : Stmt := top 18
abbrev N_owner_in : List Str := ["record", "lsn"]
theorem sc_owner_in : FnScope N_owner_in ["record", "lsn"] (defScope s_owner_in) := ⟨rfl, rfl, rfl, by decide +kernel, rfl, by decide +kernel, by decide +kernel⟩
abbrev s_todo_of_record : Stmt := top 19
abbrev N_todo_of_record : List Str := ["record", "lsn"]
theorem sc_todo_of_record : FnScope N_todo_of_record ["record", "lsn"] (defScope s_todo_of_record) := ⟨rfl, rfl, rfl, by decide +kernel, rfl, by decide +kernel, by decide +kernel⟩
abbrev s_Ledger___init__ : Stmt := inClass (top 20) 0
abbrev N_Ledger___init__ : List Str := ["self", "log", "record"]
theorem sc_Ledger___init__ : FnScope N_Ledger___init__ ["self", "log"] (defScope s_Ledger___init__) := ⟨rfl, rfl, rfl, by decide +kernel, rfl, by decide +kernel, by decide +kernel⟩
abbrev s_Ledger_add : Stmt := inClass (top 20) 2
abbrev N_Ledger_add : List Str := ["self", "record", "made", "lsn", "owner"]
theorem sc_Ledger_add : FnScope N_Ledger_add ["self", "record"] (defScope s_Ledger_add) := ⟨rfl, rfl, rfl, by decide +kernel, rfl, by decide +kernel, by decide +kernel⟩
abbrev s_Ledger_note : Stmt := inClass (top 20) 3
abbrev N_Ledger_note : List Str := ["self", "record", "owner", "lsn", "key"]
theorem sc_Ledger_note : FnScope N_Ledger_note ["self", "record", "owner", "lsn"] (defScope s_Ledger_note) := ⟨rfl, rfl, rfl, by decide +kernel, rfl, by decide +kernel, by decide +kernel⟩
abbrev s_Ledger_records : Stmt := inClass (top 20) 4
abbrev N_Ledger_records : List Str := ["self"]
theorem sc_Ledger_records : FnScope N_Ledger_records ["self"] (defScope s_Ledger_records) := ⟨rfl, rfl, rfl, by decide +kernel, rfl, by decide +kernel, by decide +kernel⟩
abbrev s_Ledger_record : Stmt := inClass (top 20) 6
abbrev N_Ledger_record : List Str := ["self", "lsn"]
theorem sc_Ledger_record : FnScope N_Ledger_record ["self", "lsn"] (defScope s_Ledger_record) := ⟨rfl, rfl, rfl, by decide +kernel, rfl, by decide +kernel, by decide +kernel⟩
abbrev s_Ledger_last : Stmt := inClass (top 20) 7
abbrev N_Ledger_last : List Str := ["self", "owner"]
theorem sc_Ledger_last : FnScope N_Ledger_last ["self", "owner"] (defScope s_Ledger_last) := ⟨rfl, rfl, rfl, by decide +kernel, rfl, by decide +kernel, by decide +kernel⟩
abbrev s_Ledger_todo : Stmt := inClass (top 20) 8
abbrev N_Ledger_todo : List Str := ["self", "owner"]
theorem sc_Ledger_todo : FnScope N_Ledger_todo ["self", "owner"] (defScope s_Ledger_todo) := ⟨rfl, rfl, rfl, by decide +kernel, rfl, by decide +kernel, by decide +kernel⟩
abbrev s_Ledger_todo_at : Stmt := inClass (top 20) 9
abbrev N_Ledger_todo_at : List Str := ["self", "lsn"]
theorem sc_Ledger_todo_at : FnScope N_Ledger_todo_at ["self", "lsn"] (defScope s_Ledger_todo_at) := ⟨rfl, rfl, rfl, by decide +kernel, rfl, by decide +kernel, by decide +kernel⟩
abbrev s_Ledger_is_open : Stmt := inClass (top 20) 11
abbrev N_Ledger_is_open : List Str := ["self", "owner"]
theorem sc_Ledger_is_open : FnScope N_Ledger_is_open ["self", "owner"] (defScope s_Ledger_is_open) := ⟨rfl, rfl, rfl, by decide +kernel, rfl, by decide +kernel, by decide +kernel⟩
abbrev s_Ledger_opens : Stmt := inClass (top 20) 12
abbrev N_Ledger_opens : List Str := ["self", "some", "owner"]
theorem sc_Ledger_opens : FnScope N_Ledger_opens ["self"] (defScope s_Ledger_opens) := ⟨rfl, rfl, rfl, by decide +kernel, rfl, by decide +kernel, by decide +kernel⟩
abbrev s_Ledger_holder : Stmt := inClass (top 20) 13
abbrev N_Ledger_holder : List Str := ["self", "key"]
theorem sc_Ledger_holder : FnScope N_Ledger_holder ["self", "key"] (defScope s_Ledger_holder) := ⟨rfl, rfl, rfl, by decide +kernel, rfl, by decide +kernel, by decide +kernel⟩
abbrev s_Ledger_holders : Stmt := inClass (top 20) 15
abbrev N_Ledger_holders : List Str := ["self"]
theorem sc_Ledger_holders : FnScope N_Ledger_holders ["self"] (defScope s_Ledger_holders) := ⟨rfl, rfl, rfl, by decide +kernel, rfl, by decide +kernel, by decide +kernel⟩
abbrev s_owner_of : Stmt := top 21
abbrev N_owner_of : List Str := ["log", "lsn"]
theorem sc_owner_of : FnScope N_owner_of ["log", "lsn"] (defScope s_owner_of) := ⟨rfl, rfl, rfl, by decide +kernel, rfl, by decide +kernel, by decide +kernel⟩
abbrev s_todo_of : Stmt := top 22
abbrev N_todo_of : List Str := ["log", "t"]
theorem sc_todo_of : FnScope N_todo_of ["log", "t"] (defScope s_todo_of) := ⟨rfl, rfl, rfl, by decide +kernel, rfl, by decide +kernel, by decide +kernel⟩
abbrev s_open_ones : Stmt := top 23
abbrev N_open_ones : List Str := ["log"]
theorem sc_open_ones : FnScope N_open_ones ["log"] (defScope s_open_ones) := ⟨rfl, rfl, rfl, by decide +kernel, rfl, by decide +kernel, by decide +kernel⟩
abbrev s_holders : Stmt := top 24
abbrev N_holders : List Str := ["log"]
theorem sc_holders : FnScope N_holders ["log"] (defScope s_holders) := ⟨rfl, rfl, rfl, by decide +kernel, rfl, by decide +kernel, by decide +kernel⟩
abbrev s_changes_of : Stmt := top 26
abbrev N_changes_of : List Str := ["log", "page", "at", "record"]
theorem sc_changes_of : FnScope N_changes_of ["log", "page"] (defScope s_changes_of) := ⟨rfl, rfl, rfl, by decide +kernel, rfl, by decide +kernel, by decide +kernel⟩
abbrev s_versions : Stmt := top 27
abbrev N_versions : List Str := ["log", "page", "found", "lsn", "record"]
theorem sc_versions : FnScope N_versions ["log", "page"] (defScope s_versions) := ⟨rfl, rfl, rfl, by decide +kernel, rfl, by decide +kernel, by decide +kernel⟩
abbrev s_replay : Stmt := top 28
abbrev N_replay : List Str := ["log", "page", "lsn", "image"]
theorem sc_replay : FnScope N_replay ["log", "page", "lsn"] (defScope s_replay) := ⟨rfl, rfl, rfl, by decide +kernel, rfl, by decide +kernel, by decide +kernel⟩
abbrev s_images_after : Stmt := top 29
abbrev N_images_after : List Str := ["log", "found", "at", "record", "page"]
theorem sc_images_after : FnScope N_images_after ["log"] (defScope s_images_after) := ⟨rfl, rfl, rfl, by decide +kernel, rfl, by decide +kernel, by decide +kernel⟩
abbrev s_tree_of : Stmt := top 30
abbrev N_tree_of : List Str := ["log", "found", "page", "lsn", "content"]
theorem sc_tree_of : FnScope N_tree_of ["log"] (defScope s_tree_of) := ⟨rfl, rfl, rfl, by decide +kernel, rfl, by decide +kernel, by decide +kernel⟩
abbrev s__law_box : Stmt := top 32
abbrev N__law_box : List Str := ["_law_script", "_law_k", "_law_cell"]
theorem sc__law_box : FnScope N__law_box ["_law_script", "_law_k"] (defScope s__law_box) := ⟨rfl, rfl, rfl, by decide +kernel, rfl, by decide +kernel, by decide +kernel⟩
abbrev s__law_take : Stmt := top 33
abbrev N__law_take : List Str := ["_law_box_here", "_law_below", "_law_once", "_law_far", "_law_twice", "_law_found"]
theorem sc__law_take : FnScope N__law_take ["_law_box_here", "_law_below"] (defScope s__law_take) := ⟨rfl, rfl, rfl, by decide +kernel, rfl, by decide +kernel, by decide +kernel⟩
abbrev s__law_same : Stmt := top 34
abbrev N__law_same : List Str := ["_law_found", "_law_due_so"]
theorem sc__law_same : FnScope N__law_same ["_law_found", "_law_due_so"] (defScope s__law_same) := ⟨rfl, rfl, rfl, by decide +kernel, rfl, by decide +kernel, by decide +kernel⟩
abbrev s__law_first : Stmt := top 35
abbrev N__law_first : List Str := ["_law_a", "_law_b", "_law_c", "_law_d", "_law_e", "_law_full", "_law_found", "_law_low", "_law_high"]
theorem sc__law_first : FnScope N__law_first ["_law_a", "_law_b", "_law_c", "_law_d", "_law_e"] (defScope s__law_first) := ⟨rfl, rfl, rfl, by decide +kernel, rfl, by decide +kernel, by decide +kernel⟩
abbrev s__law_whole_right : Stmt := top 36
abbrev N__law_whole_right : List Str := ["_law_a", "_law_b", "_law_c", "_law_d", "_law_e", "_law_rows_so", "_law_told", "_law_due_so", "_law_high", "_law_low", "_law_tree_so", "_law_many"]
theorem sc__law_whole_right : FnScope N__law_whole_right ["_law_a", "_law_b", "_law_c", "_law_d", "_law_e"] (defScope s__law_whole_right) := ⟨rfl, rfl, rfl, by decide +kernel, rfl, by decide +kernel, by decide +kernel⟩
abbrev s__law_cut_right : Stmt := top 37
abbrev N__law_cut_right : List Str := ["_law_a", "_law_b", "_law_c", "_law_d", "_law_e", "_law_rows_so", "_law_told", "_law_due_so", "_law_tree_so", "_law_many"]
theorem sc__law_cut_right : FnScope N__law_cut_right ["_law_a", "_law_b", "_law_c", "_law_d", "_law_e"] (defScope s__law_cut_right) := ⟨rfl, rfl, rfl, by decide +kernel, rfl, by decide +kernel, by decide +kernel⟩
abbrev s__law_freed_right : Stmt := top 38
abbrev N__law_freed_right : List Str := ["_law_a", "_law_b", "_law_c", "_law_d", "_law_e", "_law_rows_so", "_law_one", "_law_told", "_law_root", "_law_high", "_law_many", "_law_at", "_law_own"]
theorem sc__law_freed_right : FnScope N__law_freed_right ["_law_a", "_law_b", "_law_c", "_law_d", "_law_e"] (defScope s__law_freed_right) := ⟨rfl, rfl, rfl, by decide +kernel, rfl, by decide +kernel, by decide +kernel⟩
abbrev s__law_right : Stmt := top 39
abbrev N__law_right : List Str := ["_law_box_here", "_law_keys", "_law_a", "_law_b", "_law_c", "_law_d", "_law_e", "_law_k"]
theorem sc__law_right : FnScope N__law_right ["_law_box_here"] (defScope s__law_right) := ⟨rfl, rfl, rfl, by decide +kernel, rfl, by decide +kernel, by decide +kernel⟩
abbrev s_law : Stmt := top 40
abbrev N_law : List Str := ["_law_script", "_law_k"]
theorem sc_law : FnScope N_law ["_law_script"] (defScope s_law) := ⟨rfl, rfl, rfl, by decide +kernel, rfl, by decide +kernel, by decide +kernel⟩
theorem hb_tupled : ∀ (kV doc pm : Value) (an : Option Addr) (cdv ct : Value) (us : List Value), us.length = (["thing"] : List Str).length → bindArgs (PySem.W.fnOf "tupled" "tupled" (defArgs s_tupled) (defBody s_tupled) (defScope s_tupled) .none kV doc pm an cdv ct) ⟨us, []⟩ = pure ((["thing"] : List Str).zip us) := fun _ _ _ _ _ _ us hl => match us, hl with | [_], _ => rfl
theorem hb_first_image : ∀ (kV doc pm : Value) (an : Option Addr) (cdv ct : Value) (us : List Value), us.length = (["page"] : List Str).length → bindArgs (PySem.W.fnOf "first_image" "first_image" (defArgs s_first_image) (defBody s_first_image) (defScope s_first_image) .none kV doc pm an cdv ct) ⟨us, []⟩ = pure ((["page"] : List Str).zip us) := fun _ _ _ _ _ _ us hl => match us, hl with | [_], _ => rfl
theorem hb_with_state : ∀ (kV doc pm : Value) (an : Option Addr) (cdv ct : Value) (us : List Value), us.length = (["content", "key", "state"] : List Str).length → bindArgs (PySem.W.fnOf "with_state" "with_state" (defArgs s_with_state) (defBody s_with_state) (defScope s_with_state) .none kV doc pm an cdv ct) ⟨us, []⟩ = pure ((["content", "key", "state"] : List Str).zip us) := fun _ _ _ _ _ _ us hl => match us, hl with | [_, _, _], _ => rfl
theorem hb_laid : ∀ (kV doc pm : Value) (an : Option Addr) (cdv ct : Value) (us : List Value), us.length = (["content", "record"] : List Str).length → bindArgs (PySem.W.fnOf "laid" "laid" (defArgs s_laid) (defBody s_laid) (defScope s_laid) .none kV doc pm an cdv ct) ⟨us, []⟩ = pure ((["content", "record"] : List Str).zip us) := fun _ _ _ _ _ _ us hl => match us, hl with | [_, _], _ => rfl
theorem hb_page_of : ∀ (kV doc pm : Value) (an : Option Addr) (cdv ct : Value) (us : List Value), us.length = (["record"] : List Str).length → bindArgs (PySem.W.fnOf "page_of" "page_of" (defArgs s_page_of) (defBody s_page_of) (defScope s_page_of) .none kV doc pm an cdv ct) ⟨us, []⟩ = pure ((["record"] : List Str).zip us) := fun _ _ _ _ _ _ us hl => match us, hl with | [_], _ => rfl
theorem hb_owner_in : ∀ (kV doc pm : Value) (an : Option Addr) (cdv ct : Value) (us : List Value), us.length = (["record", "lsn"] : List Str).length → bindArgs (PySem.W.fnOf "owner_in" "owner_in" (defArgs s_owner_in) (defBody s_owner_in) (defScope s_owner_in) .none kV doc pm an cdv ct) ⟨us, []⟩ = pure ((["record", "lsn"] : List Str).zip us) := fun _ _ _ _ _ _ us hl => match us, hl with | [_, _], _ => rfl
theorem hb_todo_of_record : ∀ (kV doc pm : Value) (an : Option Addr) (cdv ct : Value) (us : List Value), us.length = (["record", "lsn"] : List Str).length → bindArgs (PySem.W.fnOf "todo_of_record" "todo_of_record" (defArgs s_todo_of_record) (defBody s_todo_of_record) (defScope s_todo_of_record) .none kV doc pm an cdv ct) ⟨us, []⟩ = pure ((["record", "lsn"] : List Str).zip us) := fun _ _ _ _ _ _ us hl => match us, hl with | [_, _], _ => rfl
theorem hd_Ledger___init__ : ∀ (T : Addr) (kV doc pm : Value) (an : Option Addr) (cdv ct : Value) (us its : List Value), us.length = 2 → its.length = 1 → ∃ k, bindArgs (PySem.W.fnOf "__init__" "Ledger.__init__" (defArgs s_Ledger___init__) (defBody s_Ledger___init__) (defScope s_Ledger___init__) (.ref T) kV doc pm an cdv ct) ⟨us, []⟩ = seqItems? (.ref T) >>= k ∧ k (some its.toArray) = pure ((["self", "log"] : List Str).zip (us ++ its.drop 1)) := fun _ _ _ _ _ _ _ us its hl h2 => match us, its, hl, h2 with | [_, _], [_], _, _ => ⟨_, rfl, rfl⟩
theorem hb_Ledger_add : ∀ (kV doc pm : Value) (an : Option Addr) (cdv ct : Value) (us : List Value), us.length = (["self", "record"] : List Str).length → bindArgs (PySem.W.fnOf "add" "Ledger.add" (defArgs s_Ledger_add) (defBody s_Ledger_add) (defScope s_Ledger_add) .none kV doc pm an cdv ct) ⟨us, []⟩ = pure ((["self", "record"] : List Str).zip us) := fun _ _ _ _ _ _ us hl => match us, hl with | [_, _], _ => rfl
theorem hb_Ledger_note : ∀ (kV doc pm : Value) (an : Option Addr) (cdv ct : Value) (us : List Value), us.length = (["self", "record", "owner", "lsn"] : List Str).length → bindArgs (PySem.W.fnOf "note" "Ledger.note" (defArgs s_Ledger_note) (defBody s_Ledger_note) (defScope s_Ledger_note) .none kV doc pm an cdv ct) ⟨us, []⟩ = pure ((["self", "record", "owner", "lsn"] : List Str).zip us) := fun _ _ _ _ _ _ us hl => match us, hl with | [_, _, _, _], _ => rfl
theorem hb_Ledger_records : ∀ (kV doc pm : Value) (an : Option Addr) (cdv ct : Value) (us : List Value), us.length = (["self"] : List Str).length → bindArgs (PySem.W.fnOf "records" "Ledger.records" (defArgs s_Ledger_records) (defBody s_Ledger_records) (defScope s_Ledger_records) .none kV doc pm an cdv ct) ⟨us, []⟩ = pure ((["self"] : List Str).zip us) := fun _ _ _ _ _ _ us hl => match us, hl with | [_], _ => rfl
theorem hb_Ledger_record : ∀ (kV doc pm : Value) (an : Option Addr) (cdv ct : Value) (us : List Value), us.length = (["self", "lsn"] : List Str).length → bindArgs (PySem.W.fnOf "record" "Ledger.record" (defArgs s_Ledger_record) (defBody s_Ledger_record) (defScope s_Ledger_record) .none kV doc pm an cdv ct) ⟨us, []⟩ = pure ((["self", "lsn"] : List Str).zip us) := fun _ _ _ _ _ _ us hl => match us, hl with | [_, _], _ => rfl
theorem hb_Ledger_last : ∀ (kV doc pm : Value) (an : Option Addr) (cdv ct : Value) (us : List Value), us.length = (["self", "owner"] : List Str).length → bindArgs (PySem.W.fnOf "last" "Ledger.last" (defArgs s_Ledger_last) (defBody s_Ledger_last) (defScope s_Ledger_last) .none kV doc pm an cdv ct) ⟨us, []⟩ = pure ((["self", "owner"] : List Str).zip us) := fun _ _ _ _ _ _ us hl => match us, hl with | [_, _], _ => rfl
theorem hb_Ledger_todo : ∀ (kV doc pm : Value) (an : Option Addr) (cdv ct : Value) (us : List Value), us.length = (["self", "owner"] : List Str).length → bindArgs (PySem.W.fnOf "todo" "Ledger.todo" (defArgs s_Ledger_todo) (defBody s_Ledger_todo) (defScope s_Ledger_todo) .none kV doc pm an cdv ct) ⟨us, []⟩ = pure ((["self", "owner"] : List Str).zip us) := fun _ _ _ _ _ _ us hl => match us, hl with | [_, _], _ => rfl
theorem hb_Ledger_todo_at : ∀ (kV doc pm : Value) (an : Option Addr) (cdv ct : Value) (us : List Value), us.length = (["self", "lsn"] : List Str).length → bindArgs (PySem.W.fnOf "todo_at" "Ledger.todo_at" (defArgs s_Ledger_todo_at) (defBody s_Ledger_todo_at) (defScope s_Ledger_todo_at) .none kV doc pm an cdv ct) ⟨us, []⟩ = pure ((["self", "lsn"] : List Str).zip us) := fun _ _ _ _ _ _ us hl => match us, hl with | [_, _], _ => rfl
theorem hb_Ledger_is_open : ∀ (kV doc pm : Value) (an : Option Addr) (cdv ct : Value) (us : List Value), us.length = (["self", "owner"] : List Str).length → bindArgs (PySem.W.fnOf "is_open" "Ledger.is_open" (defArgs s_Ledger_is_open) (defBody s_Ledger_is_open) (defScope s_Ledger_is_open) .none kV doc pm an cdv ct) ⟨us, []⟩ = pure ((["self", "owner"] : List Str).zip us) := fun _ _ _ _ _ _ us hl => match us, hl with | [_, _], _ => rfl
theorem hb_Ledger_opens : ∀ (kV doc pm : Value) (an : Option Addr) (cdv ct : Value) (us : List Value), us.length = (["self"] : List Str).length → bindArgs (PySem.W.fnOf "opens" "Ledger.opens" (defArgs s_Ledger_opens) (defBody s_Ledger_opens) (defScope s_Ledger_opens) .none kV doc pm an cdv ct) ⟨us, []⟩ = pure ((["self"] : List Str).zip us) := fun _ _ _ _ _ _ us hl => match us, hl with | [_], _ => rfl
theorem hb_Ledger_holder : ∀ (kV doc pm : Value) (an : Option Addr) (cdv ct : Value) (us : List Value), us.length = (["self", "key"] : List Str).length → bindArgs (PySem.W.fnOf "holder" "Ledger.holder" (defArgs s_Ledger_holder) (defBody s_Ledger_holder) (defScope s_Ledger_holder) .none kV doc pm an cdv ct) ⟨us, []⟩ = pure ((["self", "key"] : List Str).zip us) := fun _ _ _ _ _ _ us hl => match us, hl with | [_, _], _ => rfl
theorem hb_Ledger_holders : ∀ (kV doc pm : Value) (an : Option Addr) (cdv ct : Value) (us : List Value), us.length = (["self"] : List Str).length → bindArgs (PySem.W.fnOf "holders" "Ledger.holders" (defArgs s_Ledger_holders) (defBody s_Ledger_holders) (defScope s_Ledger_holders) .none kV doc pm an cdv ct) ⟨us, []⟩ = pure ((["self"] : List Str).zip us) := fun _ _ _ _ _ _ us hl => match us, hl with | [_], _ => rfl
theorem hb_owner_of : ∀ (kV doc pm : Value) (an : Option Addr) (cdv ct : Value) (us : List Value), us.length = (["log", "lsn"] : List Str).length → bindArgs (PySem.W.fnOf "owner_of" "owner_of" (defArgs s_owner_of) (defBody s_owner_of) (defScope s_owner_of) .none kV doc pm an cdv ct) ⟨us, []⟩ = pure ((["log", "lsn"] : List Str).zip us) := fun _ _ _ _ _ _ us hl => match us, hl with | [_, _], _ => rfl
theorem hb_todo_of : ∀ (kV doc pm : Value) (an : Option Addr) (cdv ct : Value) (us : List Value), us.length = (["log", "t"] : List Str).length → bindArgs (PySem.W.fnOf "todo_of" "todo_of" (defArgs s_todo_of) (defBody s_todo_of) (defScope s_todo_of) .none kV doc pm an cdv ct) ⟨us, []⟩ = pure ((["log", "t"] : List Str).zip us) := fun _ _ _ _ _ _ us hl => match us, hl with | [_, _], _ => rfl
theorem hb_open_ones : ∀ (kV doc pm : Value) (an : Option Addr) (cdv ct : Value) (us : List Value), us.length = (["log"] : List Str).length → bindArgs (PySem.W.fnOf "open_ones" "open_ones" (defArgs s_open_ones) (defBody s_open_ones) (defScope s_open_ones) .none kV doc pm an cdv ct) ⟨us, []⟩ = pure ((["log"] : List Str).zip us) := fun _ _ _ _ _ _ us hl => match us, hl with | [_], _ => rfl
theorem hb_holders : ∀ (kV doc pm : Value) (an : Option Addr) (cdv ct : Value) (us : List Value), us.length = (["log"] : List Str).length → bindArgs (PySem.W.fnOf "holders" "holders" (defArgs s_holders) (defBody s_holders) (defScope s_holders) .none kV doc pm an cdv ct) ⟨us, []⟩ = pure ((["log"] : List Str).zip us) := fun _ _ _ _ _ _ us hl => match us, hl with | [_], _ => rfl
theorem hb_changes_of : ∀ (kV doc pm : Value) (an : Option Addr) (cdv ct : Value) (us : List Value), us.length = (["log", "page"] : List Str).length → bindArgs (PySem.W.fnOf "changes_of" "changes_of" (defArgs s_changes_of) (defBody s_changes_of) (defScope s_changes_of) .none kV doc pm an cdv ct) ⟨us, []⟩ = pure ((["log", "page"] : List Str).zip us) := fun _ _ _ _ _ _ us hl => match us, hl with | [_, _], _ => rfl
theorem hb_versions : ∀ (kV doc pm : Value) (an : Option Addr) (cdv ct : Value) (us : List Value), us.length = (["log", "page"] : List Str).length → bindArgs (PySem.W.fnOf "versions" "versions" (defArgs s_versions) (defBody s_versions) (defScope s_versions) .none kV doc pm an cdv ct) ⟨us, []⟩ = pure ((["log", "page"] : List Str).zip us) := fun _ _ _ _ _ _ us hl => match us, hl with | [_, _], _ => rfl
theorem hb_replay : ∀ (kV doc pm : Value) (an : Option Addr) (cdv ct : Value) (us : List Value), us.length = (["log", "page", "lsn"] : List Str).length → bindArgs (PySem.W.fnOf "replay" "replay" (defArgs s_replay) (defBody s_replay) (defScope s_replay) .none kV doc pm an cdv ct) ⟨us, []⟩ = pure ((["log", "page", "lsn"] : List Str).zip us) := fun _ _ _ _ _ _ us hl => match us, hl with | [_, _, _], _ => rfl
theorem hb_images_after : ∀ (kV doc pm : Value) (an : Option Addr) (cdv ct : Value) (us : List Value), us.length = (["log"] : List Str).length → bindArgs (PySem.W.fnOf "images_after" "images_after" (defArgs s_images_after) (defBody s_images_after) (defScope s_images_after) .none kV doc pm an cdv ct) ⟨us, []⟩ = pure ((["log"] : List Str).zip us) := fun _ _ _ _ _ _ us hl => match us, hl with | [_], _ => rfl
theorem hb_tree_of : ∀ (kV doc pm : Value) (an : Option Addr) (cdv ct : Value) (us : List Value), us.length = (["log"] : List Str).length → bindArgs (PySem.W.fnOf "tree_of" "tree_of" (defArgs s_tree_of) (defBody s_tree_of) (defScope s_tree_of) .none kV doc pm an cdv ct) ⟨us, []⟩ = pure ((["log"] : List Str).zip us) := fun _ _ _ _ _ _ us hl => match us, hl with | [_], _ => rfl
theorem hb__law_box : ∀ (kV doc pm : Value) (an : Option Addr) (cdv ct : Value) (us : List Value), us.length = (["_law_script", "_law_k"] : List Str).length → bindArgs (PySem.W.fnOf "_law_box" "_law_box" (defArgs s__law_box) (defBody s__law_box) (defScope s__law_box) .none kV doc pm an cdv ct) ⟨us, []⟩ = pure ((["_law_script", "_law_k"] : List Str).zip us) := fun _ _ _ _ _ _ us hl => match us, hl with | [_, _], _ => rfl
theorem hb__law_take : ∀ (kV doc pm : Value) (an : Option Addr) (cdv ct : Value) (us : List Value), us.length = (["_law_box_here", "_law_below"] : List Str).length → bindArgs (PySem.W.fnOf "_law_take" "_law_take" (defArgs s__law_take) (defBody s__law_take) (defScope s__law_take) .none kV doc pm an cdv ct) ⟨us, []⟩ = pure ((["_law_box_here", "_law_below"] : List Str).zip us) := fun _ _ _ _ _ _ us hl => match us, hl with | [_, _], _ => rfl
theorem hb__law_same : ∀ (kV doc pm : Value) (an : Option Addr) (cdv ct : Value) (us : List Value), us.length = (["_law_found", "_law_due_so"] : List Str).length → bindArgs (PySem.W.fnOf "_law_same" "_law_same" (defArgs s__law_same) (defBody s__law_same) (defScope s__law_same) .none kV doc pm an cdv ct) ⟨us, []⟩ = pure ((["_law_found", "_law_due_so"] : List Str).zip us) := fun _ _ _ _ _ _ us hl => match us, hl with | [_, _], _ => rfl
theorem hb__law_first : ∀ (kV doc pm : Value) (an : Option Addr) (cdv ct : Value) (us : List Value), us.length = (["_law_a", "_law_b", "_law_c", "_law_d", "_law_e"] : List Str).length → bindArgs (PySem.W.fnOf "_law_first" "_law_first" (defArgs s__law_first) (defBody s__law_first) (defScope s__law_first) .none kV doc pm an cdv ct) ⟨us, []⟩ = pure ((["_law_a", "_law_b", "_law_c", "_law_d", "_law_e"] : List Str).zip us) := fun _ _ _ _ _ _ us hl => match us, hl with | [_, _, _, _, _], _ => rfl
theorem hb__law_whole_right : ∀ (kV doc pm : Value) (an : Option Addr) (cdv ct : Value) (us : List Value), us.length = (["_law_a", "_law_b", "_law_c", "_law_d", "_law_e"] : List Str).length → bindArgs (PySem.W.fnOf "_law_whole_right" "_law_whole_right" (defArgs s__law_whole_right) (defBody s__law_whole_right) (defScope s__law_whole_right) .none kV doc pm an cdv ct) ⟨us, []⟩ = pure ((["_law_a", "_law_b", "_law_c", "_law_d", "_law_e"] : List Str).zip us) := fun _ _ _ _ _ _ us hl => match us, hl with | [_, _, _, _, _], _ => rfl
theorem hb__law_cut_right : ∀ (kV doc pm : Value) (an : Option Addr) (cdv ct : Value) (us : List Value), us.length = (["_law_a", "_law_b", "_law_c", "_law_d", "_law_e"] : List Str).length → bindArgs (PySem.W.fnOf "_law_cut_right" "_law_cut_right" (defArgs s__law_cut_right) (defBody s__law_cut_right) (defScope s__law_cut_right) .none kV doc pm an cdv ct) ⟨us, []⟩ = pure ((["_law_a", "_law_b", "_law_c", "_law_d", "_law_e"] : List Str).zip us) := fun _ _ _ _ _ _ us hl => match us, hl with | [_, _, _, _, _], _ => rfl
theorem hb__law_freed_right : ∀ (kV doc pm : Value) (an : Option Addr) (cdv ct : Value) (us : List Value), us.length = (["_law_a", "_law_b", "_law_c", "_law_d", "_law_e"] : List Str).length → bindArgs (PySem.W.fnOf "_law_freed_right" "_law_freed_right" (defArgs s__law_freed_right) (defBody s__law_freed_right) (defScope s__law_freed_right) .none kV doc pm an cdv ct) ⟨us, []⟩ = pure ((["_law_a", "_law_b", "_law_c", "_law_d", "_law_e"] : List Str).zip us) := fun _ _ _ _ _ _ us hl => match us, hl with | [_, _, _, _, _], _ => rfl
theorem hb__law_right : ∀ (kV doc pm : Value) (an : Option Addr) (cdv ct : Value) (us : List Value), us.length = (["_law_box_here"] : List Str).length → bindArgs (PySem.W.fnOf "_law_right" "_law_right" (defArgs s__law_right) (defBody s__law_right) (defScope s__law_right) .none kV doc pm an cdv ct) ⟨us, []⟩ = pure ((["_law_box_here"] : List Str).zip us) := fun _ _ _ _ _ _ us hl => match us, hl with | [_], _ => rfl
theorem hb_law : ∀ (kV doc pm : Value) (an : Option Addr) (cdv ct : Value) (us : List Value), us.length = (["_law_script"] : List Str).length → bindArgs (PySem.W.fnOf "law" "law" (defArgs s_law) (defBody s_law) (defScope s_law) .none kV doc pm an cdv ct) ⟨us, []⟩ = pure ((["_law_script"] : List Str).zip us) := fun _ _ _ _ _ _ us hl => match us, hl with | [_], _ => rfl
/-- what the top has left: built-in names that nothing hides, constants -/
structure Tx (K : PySem.W.Frag) (mg : Str → Option Value) : Prop where
  z_abs : mg "abs" = none
  z_all : mg "all" = none
  z_enumerate : mg "enumerate" = none
  z_int : mg "int" = none
  z_isinstance : mg "isinstance" = none
  z_len : mg "len" = none
  z_list : mg "list" = none
  z_min : mg "min" = none
  z_range : mg "range" = none
  z_repr : mg "repr" = none
  z_sorted : mg "sorted" = none
  z_tuple : mg "tuple" = none
  c_BARE : GD K mg "BARE" (.tuple [(.str "leaf"), (.tuple [])])
  c_FREE : GD K mg "FREE" (.tuple [(.str "free")])
  c_LAST : GD K mg "LAST" (.tuple [(.str "commit"), (.str "end")])
  c_LEAF : ∃ t, mg "LEAF" = some (.str "leaf" t)
  c_PAGED : GD K mg "PAGED" (.tuple [(.str "put"), (.str "undo"), (.str "shape"), (.str "unshape")])
  c_ROOT : ∃ t, mg "ROOT" = some (.int 0 t)
  c_SKIPPING : GD K mg "SKIPPING" (.tuple [(.str "undo"), (.str "room"), (.str "unshape"), (.str "closed")])
  c_UNDOABLE : GD K mg "UNDOABLE" (.tuple [(.str "put"), (.str "shape")])
  c_UNOWNED : GD K mg "UNOWNED" (.tuple [(.str "clean"), (.str "check"), (.str "checked"), (.str "restart")])
structure CL_Ledger (K : PySem.W.Frag) (mg : Str → Option Value) (C : Addr) : Prop where
  cl : Cls K C
  gC : mg "Ledger" = some (.ref C)
  na_own_records : NoAttr K C "own_records"
  na_own_last : NoAttr K C "own_last"
  na_own_open : NoAttr K C "own_open"
  na_own_keys : NoAttr K C "own_keys"
  na_own_holders : NoAttr K C "own_holders"
  na_own_begun : NoAttr K C "own_begun"
end LW

set_option Elab.async false
set_option linter.all false
set_option maxRecDepth 100000
set_option maxHeartbeats 4000000
namespace LW
open PySem PySem.Spec L2 DL
local macro_rules | `(tactic| walk_at "mem") => `(tactic| ((repeat rw [upM_ne (by assumption)]); first | exact upM_same | assumption))
local macro_rules | `(tactic| walk_at "look") => `(tactic| first | rfl | assumption | exact atI_map0 | exact atI_map1 | walk_at "mem" | (with_reducible apply lsOf_m; walk_at "mem") | (with_reducible apply sqOf_m; walk_at "mem") | (with_reducible apply rlOf_m; walk_at "mem") | (with_reducible apply sqOf'_m; walk_at "mem") | (with_reducible apply tru_l; walk_at "mem") | (with_reducible apply tru_d; walk_at "mem") | ((simp (discharger := assumption) only [sqOf, sqOf', rlOf, lsOf, tru, upM_same, upM_ne]) <;> rfl))
local macro_rules | `(tactic| walk_at "set") => `(tactic| (simp only [wipeD, List.set_cons_zero, List.set_cons_succ, List.set_nil]; rfl))
local macro_rules | `(tactic| walk_at "side") => `(tactic| first | omega | (simp only [List.length_map, List.length_cons, List.length_nil]; omega) | assumption | rfl | decide | exact ⟨by omega, by omega⟩ | exact Nat.le_of_ble_eq_true rfl)
local macro_rules | `(tactic| walk_at "head") => `(tactic| with_reducible conv => whnf)
local macro_rules | `(tactic| walk_at "step") => `(tactic| (walk_at "head"; first
  | ((with_reducible apply gN_go); (focus walk_at "set"))
  | ((with_reducible apply e1s); (focus rfl))
  | ((with_reducible apply e1); (focus walk_at "look"))
  | ((with_reducible apply e2); (focus walk_at "look"); (focus walk_at "look"))
  | ((with_reducible apply l1); (focus walk_at "look"))
  | ((with_reducible apply l2); (focus walk_at "look"); (focus walk_at "look"))
  | ((with_reducible apply e3); (focus walk_at "look"); (focus walk_at "look"); (focus walk_at "look"))
  | ((with_reducible apply e0a); (focus walk_at "look"))
  | ((with_reducible apply And.intro); (focus walk_at "side"))
  | ((with_reducible apply d1); (focus walk_at "look"))
  | ((with_reducible apply d2); (focus walk_at "look"); (focus walk_at "look"))
  | ((with_reducible apply d3); (focus walk_at "look"); (focus walk_at "look"); (focus walk_at "look"))
  | ((with_reducible apply d0); (focus walk_at "look"))
  | ((with_reducible apply lk1); (focus walk_at "look"))
  | with_reducible apply gw2_go
  | with_reducible apply gw3_go
  | with_reducible apply gs_go
  | with_reducible apply gt2_go
  | with_reducible apply gt3_go
  | with_reducible apply gt1_go
  | with_reducible apply gt4_go
  | with_reducible apply gt5_go
  | with_reducible apply gt6_go
  | with_reducible apply gt7_go
  | with_reducible apply gt8_go
  | with_reducible apply ift_go
  | with_reducible apply iff_go
  | ((with_reducible apply ifT_go); (focus rfl))
  | ((with_reducible apply ifF_go); (focus rfl))))
local macro_rules | `(tactic| walk_at "run") => `(tactic| (repeat walk_at "step"); walk_at "head")
local macro_rules | `(tactic| walk_at "start") => `(tactic| simp only [startD, List.map_cons, List.map_nil, List.length_cons, List.length_nil, List.replicate, List.cons_append, List.nil_append, Nat.reduceAdd, Nat.reduceSub, bodyK])
/-! ### draws -/
structure Bx where
  x : Int
  y : Int
  z : Int
abbrev Bx.mo (B : Bx) : MO := .lst [.i B.x, .i B.y, .i B.z]
/-- so many draws are left -/
structure Bx.Ok (B : Bx) (m : Nat) : Prop where
  y0 : 0 ≤ B.y
  y1 : B.y < 2 ^ 62
  z0 : 0 ≤ B.z
  z1 : B.z + (m : Int) ≤ 2 ^ 50
theorem Bx.Ok.mono {B : Bx} {m n : Nat} (h : B.Ok m) (l : n ≤ m) : B.Ok n := ⟨h.y0, h.y1, h.z0, by have := h.z1; omega⟩
abbrev intD (ns : List Int) : PyData := .list (ns.map PyData.int)
def cn_take : Cn := fun rs M R => ∃ b B n m, rs = [.v (.ref b), .i n] ∧ M b = some B.mo ∧ Bx.Ok B (m + 1) ∧ 0 < n ∧ n < 2 ^ 30 ∧ ∀ v B', 0 ≤ v → v < n → Bx.Ok B' m → R (.i v) (upM M b B'.mo)
def cn_box : Cn := fun rs M R => ∃ cs k, rs = [.d (intD cs), .i k] ∧ 0 ≤ k ∧ k < 100 ∧ ∀ b B, M b = none → Bx.Ok B (2 ^ 49) → R (.v (.ref b)) (upM M b B.mo)
def cn_of : Cn := fun rs M R => ∃ b B ds m, rs = [.v (.ref b), .d (.list ds)] ∧ M b = some B.mo ∧ Bx.Ok B (m + 1) ∧ 0 < ds.length ∧ ds.length < 2 ^ 30 ∧ ∀ d B', d ∈ ds → Bx.Ok B' m → R (.d d) (upM M b B'.mo)
def cn_same : Cn := fun rs M R => ∃ d, rs = [.d d, .d d] ∧ Shw d ∧ R (.b true) M
section
variable {P : Program} {w : World} {K : PySem.W.Frag} {mg : Str → Option Value} {base : Heap}
theorem ok_take (T : Tx K mg) {f : Addr} {fd : FuncData} (Fu : Fun K "_law_take" "_law_take" s__law_take f fd) : FnD P w K mg base 1 f fd ["_law_box_here", "_law_below"] cn_take := by
  refine fnD_of Fu sc__law_take (fun rs M R h => ?_) fun cdv A outer s H hgd hr => ⟨_, (pdb_cons (pds_if (pdt_cmp o_gt (pd_ix (pd_var 0) pd_int) pd_int (nomark _)) (pdb_cons (pds_set 5 sc__law_take.nd (pd_op o_mod (pd_callT c_int (by rfl) T.z_int (by decide +kernel) (pda_cons (pd_ix (pd_var 0) pd_int) pda_nil)) (pd_var 1)))
      (pdb_cons (pds_asg (pd_op o_div (pd_ix (pd_var 0) pd_int) (pd_var 1)) (pdg_setL (pd_var 0) pd_int))
      (pdb_one (pds_ret (pd_var 5))))) pdb_nil)
      (pdb_cons (pds_asg (pd_op o_plus (pd_ix (pd_var 0) pd_int) pd_int) (pdg_setL (pd_var 0) pd_int))
      (pdb_cons (pds_set 2 sc__law_take.nd (pd_op o_mod (pd_op o_times (pd_op o_plus (pd_ix (pd_var 0) pd_int) (pd_op o_times pd_int (pd_ix (pd_var 0) pd_int))) (pd_op o_plus pd_int (pd_ix (pd_var 0) pd_int))) pd_int))
      (pdb_cons (pds_set 3 sc__law_take.nd (pd_op o_plus (pd_op o_mod (pd_callT c_int (by rfl) T.z_int (by decide +kernel) (pda_cons (pd_var 2) pda_nil)) pd_int) pd_int))
      (pdb_cons (pds_set 4 sc__law_take.nd (pd_op o_mod (pd_op o_times (pd_op o_plus (pd_op o_plus (pd_var 2) (pd_ix (pd_var 0) pd_int)) (pd_op o_div (pd_ix (pd_var 0) pd_int) pd_int)) (pd_var 3)) pd_int))
      (pdb_one (pds_ret (pd_op o_mod (pd_op o_div (pd_op o_mod (pd_op o_plus (pd_op o_times (pd_var 4) pd_int) (pd_var 2)) pd_int) pd_int) (pd_var 1))))))))), ?_⟩
  · obtain ⟨b, B, n, m, rfl, _⟩ := h
    rfl
  · rintro rs M R ⟨b, B, n, m, rfl, hb, ok, n0, n1, k⟩
    rw [← upM_self hb] at k ⊢
    have hz := ok.z0
    have hz1 := ok.z1
    have hy := ok.y0
    have hy1 := ok.y1
    walk_at "start"
    walk_at "run"
    with_reducible apply ifd_go <;> intro hx
    · walk_at "run"
      exact upR.of (k (B.x % n) ⟨B.x / n, B.y, B.z⟩ (Int.emod_nonneg _ (by omega)) (Int.emod_lt_of_pos _ n0) ⟨hy, hy1, hz, by show B.z + _ ≤ _; omega⟩)
    · walk_at "run"
      exact upR.of (k _ ⟨B.x, B.y, B.z + 1⟩ (Int.emod_nonneg _ (by omega)) (Int.emod_lt_of_pos _ n0) ⟨hy, hy1, by show 0 ≤ B.z + 1; omega, by show B.z + 1 + _ ≤ _; omega⟩)
theorem ok_box (T : Tx K mg) {f : Addr} {fd : FuncData} (Fu : Fun K "_law_box" "_law_box" s__law_box f fd) : FnD P w K mg base 1 f fd ["_law_script", "_law_k"] cn_box := by
  refine fnD_of Fu sc__law_box (fun rs M R h => ?_) fun cdv A outer s H hgd hr => ⟨_, (pdb_cons (pds_set 2 sc__law_box.nd (pd_if (pdt_cmp o_lt (pd_var 1) (pd_callB c_len (by rfl) T.z_len (by decide +kernel) (pda_cons (pd_var 0) pda_nil)) (nomark _)) (pd_ix (pd_var 0) (pd_var 1)) pd_int))
      (pdb_one (pds_ret (pd_lstM (pda_cons (pd_op o_times (pd_callB c_abs (by rfl) T.z_abs (by decide +kernel) (pda_cons (pd_var 2) pda_nil)) (pd_callT c_int (by rfl) T.z_int (by decide +kernel) (pda_cons (pd_cmp o_ge (pd_callB c_abs (by rfl) T.z_abs (by decide +kernel) (pda_cons (pd_var 2) pda_nil)) (pd_op o_pow pd_int pd_int) (nomark _)) pda_nil))) (pda_cons (pd_op o_plus (pd_op o_plus (pd_op o_mod (pd_callT c_int (by rfl) T.z_int (by decide +kernel) (pda_cons (pd_var 2) pda_nil)) pd_int) (pd_op o_times pd_int (pd_var 1))) pd_int) (pda_cons pd_int pda_nil))))))), ?_⟩
  · obtain ⟨b, B, rfl, _⟩ := h
    rfl
  · rintro rs M R ⟨cs, k, rfl, k0, k1, hk⟩
    walk_at "start"
    refine seq_cut (fun dl M' => M' = M ∧ ∃ c, dl = [some (.d (intD cs)), some (.i k), some (.i c)]) ?_ fun nx hnx => ?_
    · rintro _ _ ⟨rfl, c, rfl⟩
      walk_at "run"
      intro p hp
      have hm := Int.emod_nonneg c (show (2305843009213693951 : Int) ≠ 0 by decide)
      have hm2 := Int.emod_lt_of_pos c (show (0 : Int) < 2305843009213693951 by decide)
      refine upR.of (hk p ⟨_, _, 0⟩ hp ⟨?_, ?_, ?_, ?_⟩)
      · show 0 ≤ c % 2305843009213693951 + 39373 * k + 71; omega
      · show c % 2305843009213693951 + 39373 * k + 71 < 2 ^ 62; omega
      · show (0 : Int) ≤ 0; omega
      · show (0 : Int) + ((2 ^ 49 : Nat) : Int) ≤ 2 ^ 50; decide
    · walk_at "run"
      with_reducible apply ifd_go <;> intro hx
      · walk_at "run"
        simp only [List.length_map] at hx
        refine e2 rfl (atI_int k0 (i := k) (x := .i (cs[k.toNat]'(by omega))) ?_) ?_
        · rw [List.getElem?_map, List.getElem?_map, List.getElem?_eq_getElem (by omega)]; rfl
        · walk_at "run"
          exact hnx _ _ ⟨rfl, _, rfl⟩
      · walk_at "run"
        exact hnx _ _ ⟨rfl, _, rfl⟩
theorem ok_same (T : Tx K mg) {f : Addr} {fd : FuncData} (Fu : Fun K "_law_same" "_law_same" s__law_same f fd) : FnD P w K mg base 1 f fd ["_law_found", "_law_due_so"] cn_same := by
  refine fnD_of Fu sc__law_same (fun rs M R h => ?_) fun cdv A outer s H hgd hr => ⟨_, (pdb_one (pds_ret (pd_cmp (o_eq hr.units) (pd_callB (c_repr hgd hr.units) (by rfl) T.z_repr (by decide +kernel) (pda_cons (pd_var 0) pda_nil)) (pd_callB (c_repr hgd hr.units) (by rfl) T.z_repr (by decide +kernel) (pda_cons (pd_var 1) pda_nil)) (nomark _)))), ?_⟩
  · obtain ⟨b, rfl, _⟩ := h
    rfl
  · rintro rs M R ⟨d, rfl, hd, k⟩
    walk_at "start"
    walk_at "run"
    rw [decide_eq_true rfl]
    exact upR.of k
end
end LW

set_option Elab.async false
set_option linter.all false
set_option maxRecDepth 100000
set_option maxHeartbeats 4000000
namespace LW
open PySem PySem.Spec L2 DL
local macro_rules | `(tactic| walk_at "mem") => `(tactic| ((repeat rw [upM_ne (by assumption)]); first | exact upM_same | assumption))
local macro_rules | `(tactic| walk_at "look") => `(tactic| first | rfl | assumption | exact atI_map0 | exact atI_map1 | walk_at "mem" | (with_reducible apply lsOf_m; walk_at "mem") | (with_reducible apply sqOf_m; walk_at "mem") | (with_reducible apply rlOf_m; walk_at "mem") | (with_reducible apply sqOf'_m; walk_at "mem") | (with_reducible apply tru_l; walk_at "mem") | (with_reducible apply tru_d; walk_at "mem") | ((simp (discharger := assumption) only [sqOf, sqOf', rlOf, lsOf, tru, upM_same, upM_ne]) <;> rfl))
local macro_rules | `(tactic| walk_at "set") => `(tactic| (simp only [wipeD, List.set_cons_zero, List.set_cons_succ, List.set_nil]; rfl))
local macro_rules | `(tactic| walk_at "side") => `(tactic| first | omega | (simp only [List.length_map, List.length_cons, List.length_nil]; omega) | assumption | rfl | decide | exact ⟨by omega, by omega⟩ | exact Nat.le_of_ble_eq_true rfl)
local macro_rules | `(tactic| walk_at "head") => `(tactic| with_reducible conv => whnf)
local macro_rules | `(tactic| walk_at "step") => `(tactic| (walk_at "head"; first
  | ((with_reducible apply gN_go); (focus walk_at "set"))
  | ((with_reducible apply e1s); (focus rfl))
  | ((with_reducible apply e1); (focus walk_at "look"))
  | ((with_reducible apply e2); (focus walk_at "look"); (focus walk_at "look"))
  | ((with_reducible apply l1); (focus walk_at "look"))
  | ((with_reducible apply l2); (focus walk_at "look"); (focus walk_at "look"))
  | ((with_reducible apply e3); (focus walk_at "look"); (focus walk_at "look"); (focus walk_at "look"))
  | ((with_reducible apply e0a); (focus walk_at "look"))
  | ((with_reducible apply And.intro); (focus walk_at "side"))
  | ((with_reducible apply d1); (focus walk_at "look"))
  | ((with_reducible apply d2); (focus walk_at "look"); (focus walk_at "look"))
  | ((with_reducible apply d3); (focus walk_at "look"); (focus walk_at "look"); (focus walk_at "look"))
  | ((with_reducible apply d0); (focus walk_at "look"))
  | ((with_reducible apply lk1); (focus walk_at "look"))
  | with_reducible apply gw2_go
  | with_reducible apply gw3_go
  | with_reducible apply gs_go
  | with_reducible apply gt2_go
  | with_reducible apply gt3_go
  | with_reducible apply gt1_go
  | with_reducible apply gt4_go
  | with_reducible apply gt5_go
  | with_reducible apply gt6_go
  | with_reducible apply gt7_go
  | with_reducible apply gt8_go
  | with_reducible apply ift_go
  | with_reducible apply iff_go
  | ((with_reducible apply ifT_go); (focus rfl))
  | ((with_reducible apply ifF_go); (focus rfl))))
local macro_rules | `(tactic| walk_at "run") => `(tactic| (repeat walk_at "step"); walk_at "head")
local macro_rules | `(tactic| walk_at "start") => `(tactic| simp only [startD, List.map_cons, List.map_nil, List.length_cons, List.length_nil, List.replicate, List.cons_append, List.nil_append, Nat.reduceAdd, Nat.reduceSub, bodyK])
def cn_cells : Cn := fun rs M R => ∃ ns most, rs = [.r ns, .i most] ∧ 0 < most ∧ most < 63 ∧ ∀ cs, cs ≠ [] → (cs.length : Int) ≤ most → R (.d (intD cs)) M
section
variable {P : Program} {w : World} {K : PySem.W.Frag} {mg : Str → Option Value} {base : Heap}
end
end LW

set_option Elab.async false
set_option linter.all false
set_option maxRecDepth 100000
set_option maxHeartbeats 4000000
namespace LW
open PySem PySem.Spec L2 DL
local macro_rules | `(tactic| walk_at "mem") => `(tactic| ((repeat rw [upM_ne (by assumption)]); first | exact upM_same | assumption))
local macro_rules | `(tactic| walk_at "look") => `(tactic| first | rfl | assumption | exact atI_map0 | exact atI_map1 | walk_at "mem" | (with_reducible apply lsOf_m; walk_at "mem") | (with_reducible apply sqOf_m; walk_at "mem") | (with_reducible apply rlOf_m; walk_at "mem") | (with_reducible apply sqOf'_m; walk_at "mem") | (with_reducible apply tru_l; walk_at "mem") | (with_reducible apply tru_d; walk_at "mem") | ((simp (discharger := assumption) only [sqOf, sqOf', rlOf, lsOf, tru, upM_same, upM_ne]) <;> rfl))
local macro_rules | `(tactic| walk_at "set") => `(tactic| (simp only [wipeD, List.set_cons_zero, List.set_cons_succ, List.set_nil]; rfl))
local macro_rules | `(tactic| walk_at "side") => `(tactic| first | omega | (simp only [List.length_map, List.length_cons, List.length_nil]; omega) | assumption | rfl | decide | exact ⟨by omega, by omega⟩ | exact Nat.le_of_ble_eq_true rfl)
local macro_rules | `(tactic| walk_at "head") => `(tactic| with_reducible conv => whnf)
local macro_rules | `(tactic| walk_at "step") => `(tactic| (walk_at "head"; first
  | ((with_reducible apply gN_go); (focus walk_at "set"))
  | ((with_reducible apply e1s); (focus rfl))
  | ((with_reducible apply e1); (focus walk_at "look"))
  | ((with_reducible apply e2); (focus walk_at "look"); (focus walk_at "look"))
  | ((with_reducible apply l1); (focus walk_at "look"))
  | ((with_reducible apply l2); (focus walk_at "look"); (focus walk_at "look"))
  | ((with_reducible apply e3); (focus walk_at "look"); (focus walk_at "look"); (focus walk_at "look"))
  | ((with_reducible apply e0a); (focus walk_at "look"))
  | ((with_reducible apply And.intro); (focus walk_at "side"))
  | ((with_reducible apply d1); (focus walk_at "look"))
  | ((with_reducible apply d2); (focus walk_at "look"); (focus walk_at "look"))
  | ((with_reducible apply d3); (focus walk_at "look"); (focus walk_at "look"); (focus walk_at "look"))
  | ((with_reducible apply d0); (focus walk_at "look"))
  | ((with_reducible apply lk1); (focus walk_at "look"))
  | with_reducible apply gw2_go
  | with_reducible apply gw3_go
  | with_reducible apply gs_go
  | with_reducible apply gt2_go
  | with_reducible apply gt3_go
  | with_reducible apply gt1_go
  | with_reducible apply gt4_go
  | with_reducible apply gt5_go
  | with_reducible apply gt6_go
  | with_reducible apply gt7_go
  | with_reducible apply gt8_go
  | with_reducible apply ift_go
  | with_reducible apply iff_go
  | ((with_reducible apply ifT_go); (focus rfl))
  | ((with_reducible apply ifF_go); (focus rfl))))
local macro_rules | `(tactic| walk_at "run") => `(tactic| (repeat walk_at "step"); walk_at "head")
local macro_rules | `(tactic| walk_at "start") => `(tactic| simp only [startD, List.map_cons, List.map_nil, List.length_cons, List.length_nil, List.replicate, List.cons_append, List.nil_append, Nat.reduceAdd, Nat.reduceSub, bodyK])
/-- the words of this law's data -/
abbrev WD : List Str := ["leaf", "inner", "free", "ghost", "shape", "unshape", "put", "undo", "clean", "begin", "room", "closed", "commit", "end", "check", "checked", "restart"]
theorem wds : Wds WD := by unfold Wds; decide +kernel
mutual
def tpD : PyData → PyData
  | .list xs => .tuple (tpDs xs)
  | .tuple xs => .tuple (tpDs xs)
  | d => d
def tpDs : List PyData → List PyData
  | [] => []
  | x :: r => tpD x :: tpDs r
end
mutual
def lsD : PyData → PyData
  | .list xs => .list (lsDs xs)
  | .tuple xs => .list (lsDs xs)
  | d => d
def lsDs : List PyData → List PyData
  | [] => []
  | x :: r => lsD x :: lsDs r
end
theorem tpDs_map : ∀ xs : List PyData, tpDs xs = xs.map tpD
  | [] => rfl
  | x :: r => by rw [tpDs, tpDs_map r]; rfl
theorem lsDs_map : ∀ xs : List PyData, lsDs xs = xs.map lsD
  | [] => rfl
  | x :: r => by rw [lsDs, lsDs_map r]; rfl
theorem szs_len (W : List Str) : ∀ xs : List PyData, xs.length ≤ szs W xs
  | [] => Nat.zero_le _
  | x :: r => by have := szs_len W r; simp only [szs, List.length_cons]; omega
theorem szs_mem {W : List Str} {x : PyData} : ∀ {xs : List PyData}, x ∈ xs → sz W x ≤ szs W xs
  | y :: r, h => by
    simp only [szs]
    rcases List.mem_cons.mp h with rfl | h
    · omega
    · have := szs_mem (W := W) h; omega
theorem depthAll_mem {x : PyData} : ∀ {xs : List PyData}, x ∈ xs → x.depth ≤ PyData.depthAll xs
  | y :: r, h => by
    simp only [PyData.depthAll]
    rcases List.mem_cons.mp h with rfl | h
    · omega
    · have := depthAll_mem h; omega
def cn_deep (g : PyData → PyData) (n : Nat) : Cn := fun rs M R => ∃ d, rs = [.d d] ∧ d.depth ≤ n ∧ sz WD d ≤ 16777216 ∧ R (.d (g d)) M
section
variable {P : Program} {w : World} {K : PySem.W.Frag} {mg : Str → Option Value} {base : Heap}
theorem fn_none {f : Addr} {fd : FuncData} {ps : List Str} : FnD P w K mg base 0 f fd ps fun _ _ _ => False := ⟨fun _ _ _ h => h.elim, fun A outer s H args us vs Q _ _ _ _ _ ⟨_, _, _, _, _, _, h, _⟩ => h.elim⟩
theorem ok_tupled1 (T : Tx K mg) {n : Nat} {cn : Cn} (hc : ∀ d M R, n ≠ 0 → d.depth ≤ n - 1 → sz WD d ≤ 16777216 → R (.d (tpD d)) M → cn [.d d] M R) (H_tupled : Has P w K mg base n "tupled" s_tupled ["thing"] cn) {f : Addr} {fd : FuncData} (Fu : Fun K "tupled" "tupled" s_tupled f fd) : FnD P w K mg base (n + 1) f fd ["thing"] (cn_deep tpD n) := by
  refine fnD_of Fu sc_tupled (fun rs M R h => ?_) fun cdv A outer s H hgd hr => ⟨_, (pdb_one (pds_ret (pd_if (pdt_tru (pd_isi2 (S := "list") (T := "tuple") (by decide) (by decide) (pd_var 0) (by rfl) T.z_isinstance (by rfl) T.z_list (by decide +kernel) (by rfl) T.z_tuple (by decide +kernel))) (pd_callT c_tuple (by rfl) T.z_tuple (by decide +kernel) (pda_cons (pd_lc (own := [("part", 1)]) rfl sc_tupled.nd (pdi_seq (pd_var 0)) (blkOk_by (N := N_tupled) (sc := defScope s_tupled) (by decide +kernel)) (fun _ _ _ _ _ => (pdgw_name 1 sc_tupled.nd)) (fun _ _ _ _ _ => pdts_nil) (fun _ _ _ _ _ => (pd_fn H_tupled hgd (hr.mono (by first | decide | omega)) (by rfl) (pda_cons (pd_var 1) pda_nil)))) pda_nil)) (pd_var 0)))), ?_⟩
  · obtain ⟨b, rfl, _⟩ := h
    rfl
  · rintro rs M R ⟨d, rfl, hd, hz, k⟩
    walk_at "start"
    walk_at "run"
    cases d with
    | list ds =>
      walk_at "run"
      simp only [sz] at hz
      simp only [PyData.depth] at hd
      have hl := szs_len WD ds
      refine lc_mapD tpD trivial (by rw [sizeLine_eq]; omega) (fun e he k1 k0 h => ?_) ?_
      · walk_at "run"
        exact hc e M k1 (by omega) (by have := depthAll_mem he; omega) (by have := szs_mem (W := WD) he; omega) h
      · refine e1 (datOf_map _) ?_
        walk_at "head"
        refine e2 rfl (datOf_map _) ?_
        rw [tpD, tpDs_map] at k
        exact upR.of k
    | tuple ds =>
      walk_at "run"
      simp only [sz] at hz
      simp only [PyData.depth] at hd
      have hl := szs_len WD ds
      refine lc_mapD tpD trivial (by rw [sizeLine_eq]; omega) (fun e he k1 k0 h => ?_) ?_
      · walk_at "run"
        exact hc e M k1 (by omega) (by have := depthAll_mem he; omega) (by have := szs_mem (W := WD) he; omega) h
      · refine e1 (datOf_map _) ?_
        walk_at "head"
        refine e2 rfl (datOf_map _) ?_
        rw [tpD, tpDs_map] at k
        exact upR.of k
    | dict _ => simp only [sz] at hz; omega
    | _ => walk_at "run"; exact upR.of k
theorem ok_tupled (T : Tx K mg) {f : Addr} {fd : FuncData} (hm : mg "tupled" = some (.ref f)) (Fu : Fun K "tupled" "tupled" s_tupled f fd) : ∀ n, FnD P w K mg base (n + 1) f fd ["thing"] (cn_deep tpD n)
  | 0 => ok_tupled1 T (cn := fun _ _ _ => False) (fun _ _ _ h => absurd rfl h) (Has.of hm Fu hb_tupled fn_none) Fu
  | n + 1 => ok_tupled1 T (fun d _ _ _ h1 h2 h3 => ⟨d, rfl, h1, h2, h3⟩) (Has.of hm Fu hb_tupled (ok_tupled T hm Fu n)) Fu
end
end LW

set_option Elab.async false
set_option linter.all false
set_option maxRecDepth 100000
set_option maxHeartbeats 4000000
namespace LW
open PySem PySem.Spec L2 DL
local macro_rules | `(tactic| walk_at "mem") => `(tactic| ((repeat rw [upM_ne (by assumption)]); first | exact upM_same | assumption))
local macro_rules | `(tactic| walk_at "look") => `(tactic| first | rfl | assumption | exact atI_map0 | exact atI_map1 | walk_at "mem" | (with_reducible apply lsOf_m; walk_at "mem") | (with_reducible apply sqOf_m; walk_at "mem") | (with_reducible apply rlOf_m; walk_at "mem") | (with_reducible apply sqOf'_m; walk_at "mem") | (with_reducible apply tru_l; walk_at "mem") | (with_reducible apply tru_d; walk_at "mem") | ((simp (discharger := assumption) only [sqOf, sqOf', rlOf, lsOf, tru, upM_same, upM_ne]) <;> rfl))
local macro_rules | `(tactic| walk_at "set") => `(tactic| (simp only [wipeD, List.set_cons_zero, List.set_cons_succ, List.set_nil]; rfl))
local macro_rules | `(tactic| walk_at "side") => `(tactic| first | omega | (simp only [List.length_map, List.length_cons, List.length_nil]; omega) | assumption | rfl | decide | exact ⟨by omega, by omega⟩ | exact Nat.le_of_ble_eq_true rfl)
local macro_rules | `(tactic| walk_at "head") => `(tactic| with_reducible conv => whnf)
local macro_rules | `(tactic| walk_at "step") => `(tactic| (walk_at "head"; first
  | ((with_reducible apply gN_go); (focus walk_at "set"))
  | ((with_reducible apply e1s); (focus rfl))
  | ((with_reducible apply e1); (focus walk_at "look"))
  | ((with_reducible apply e2); (focus walk_at "look"); (focus walk_at "look"))
  | ((with_reducible apply l1); (focus walk_at "look"))
  | ((with_reducible apply l2); (focus walk_at "look"); (focus walk_at "look"))
  | ((with_reducible apply e3); (focus walk_at "look"); (focus walk_at "look"); (focus walk_at "look"))
  | ((with_reducible apply e0a); (focus walk_at "look"))
  | ((with_reducible apply And.intro); (focus walk_at "side"))
  | ((with_reducible apply d1); (focus walk_at "look"))
  | ((with_reducible apply d2); (focus walk_at "look"); (focus walk_at "look"))
  | ((with_reducible apply d3); (focus walk_at "look"); (focus walk_at "look"); (focus walk_at "look"))
  | ((with_reducible apply d0); (focus walk_at "look"))
  | ((with_reducible apply lk1); (focus walk_at "look"))
  | with_reducible apply gw2_go
  | with_reducible apply gw3_go
  | with_reducible apply gs_go
  | with_reducible apply gt2_go
  | with_reducible apply gt3_go
  | with_reducible apply gt1_go
  | with_reducible apply gt4_go
  | with_reducible apply gt5_go
  | with_reducible apply gt6_go
  | with_reducible apply gt7_go
  | with_reducible apply gt8_go
  | with_reducible apply ift_go
  | with_reducible apply iff_go
  | ((with_reducible apply ifT_go); (focus rfl))
  | ((with_reducible apply ifF_go); (focus rfl))))
local macro_rules | `(tactic| walk_at "run") => `(tactic| (repeat walk_at "step"); walk_at "head")
local macro_rules | `(tactic| walk_at "start") => `(tactic| simp only [startD, List.map_cons, List.map_nil, List.length_cons, List.length_nil, List.replicate, List.cons_append, List.nil_append, Nat.reduceAdd, Nat.reduceSub, bodyK])
/-! ### what a content is -/
def numD : PyData → Bool
  | .int i => decide (0 ≤ i)
  | _ => false
def stateD : PyData → Bool
  | .int i => decide (0 ≤ i)
  | .str s => decide (s = "ghost")
  | _ => false
def pairD : PyData → Bool
  | .tuple [_, _] => true
  | _ => false
def asc : List Int → Bool
  | [] => true
  | [_] => true
  | a :: b :: r => decide (a < b) && asc (b :: r)
theorem asc_zip : ∀ ns : List Int, ((ns.zip (ns.drop 1)).map fun p => decide (p.1 < p.2)).all id = asc ns
  | [] => rfl
  | [_] => rfl
  | a :: b :: r => by
    have ih := asc_zip (b :: r)
    simp only [List.drop_succ_cons, List.drop_zero] at ih ⊢
    rw [List.zip_cons_cons, List.map_cons, List.all_cons, ih, asc]
    rfl
theorem pairD_eq {d : PyData} (h : pairD d = true) : ∃ x y, d = .tuple [x, y] := by
  unfold pairD at h
  split at h
  · exact ⟨_, _, rfl⟩
  · cases h
theorem numD_eq {d : PyData} (h : numD d = true) : ∃ i, d = .int i ∧ 0 ≤ i := by
  unfold numD at h
  split at h
  · exact ⟨_, rfl, of_decide_eq_true h⟩
  · cases h
/-- an entry, a pair with a number as its first -/
abbrev enE (e : Int × PyData) : PyData := .tuple [.int e.1, e.2]
/-- a leaf of these entries -/
abbrev leafE (es : List (Int × PyData)) : PyData := .tuple [.str "leaf", .tuple (es.map enE)]
def entD : PyData → Bool
  | .tuple [x, y] => numD x && stateD y
  | _ => false
theorem entD_eq {d : PyData} (h : entD d = true) : ∃ i y, d = enE (i, y) ∧ 0 ≤ i ∧ stateD y = true := by
  unfold entD at h
  split at h
  · rw [Bool.and_eq_true] at h
    obtain ⟨i, rfl, hi⟩ := numD_eq h.1
    exact ⟨i, _, rfl, hi, h.2⟩
  · cases h
theorem ents_eq : ∀ {xs : List PyData}, xs.all entD = true → ∃ es : List (Int × PyData), xs = es.map enE
  | [], _ => ⟨[], rfl⟩
  | x :: xs, h => by
    rw [List.all_cons, Bool.and_eq_true] at h
    obtain ⟨i, y, rfl, _⟩ := entD_eq h.1
    obtain ⟨es, rfl⟩ := ents_eq h.2
    exact ⟨(i, y) :: es, rfl⟩
def entriesD : PyData → Bool
  | .tuple xs => decide (xs.length ≤ 4) && (xs.all entD && asc (xs.map keyD))
  | _ => false
abbrev enC (c : PyData × Int) : PyData := .tuple [c.1, .int c.2]
def chD : PyData → Bool
  | .tuple [_, y] => numD y
  | _ => false
theorem chD_eq {d : PyData} (h : chD d = true) : ∃ x i, d = enC (x, i) ∧ 0 ≤ i := by
  unfold chD at h
  split at h
  · obtain ⟨i, rfl, hi⟩ := numD_eq h
    exact ⟨_, i, rfl, hi⟩
  · cases h
theorem chs_eq : ∀ {xs : List PyData}, xs.all chD = true → ∃ cs : List (PyData × Int), xs = cs.map enC
  | [], _ => ⟨[], rfl⟩
  | x :: xs, h => by
    rw [List.all_cons, Bool.and_eq_true] at h
    obtain ⟨i, y, rfl, _⟩ := chD_eq h.1
    obtain ⟨es, rfl⟩ := chs_eq h.2
    exact ⟨(i, y) :: es, rfl⟩
def intOf : PyData → Int
  | .int i => i
  | _ => 0
theorem nums_eq : ∀ {xs : List PyData}, xs.all numD = true → ∃ ns : List Int, xs = ns.map PyData.int ∧ xs.map intOf = ns
  | [], _ => ⟨[], rfl, rfl⟩
  | x :: xs, h => by
    rw [List.all_cons, Bool.and_eq_true] at h
    obtain ⟨i, rfl, _⟩ := numD_eq h.1
    obtain ⟨ns, h1, h2⟩ := nums_eq h.2
    exact ⟨i :: ns, by rw [h1]; rfl, by rw [List.map_cons, h2]; rfl⟩
def fstD : PyData → PyData
  | .tuple (x :: _) => x
  | _ => .none
def sndI : PyData → Int
  | .tuple [_, .int i] => i
  | _ => 0
def childrenD : PyData → Bool
  | .tuple [] => false
  | .tuple (x :: xs) => decide (xs.length < 4) && ((x :: xs).all chD && (isN (fstD x) && ((xs.map fstD).all numD && (asc ((xs.map fstD).map intOf) && decide ((srtS ((x :: xs).map sndI)).length = (x :: xs).length)))))
  | _ => false
def contD : PyData → Bool
  | .tuple [.str w] => decide (w = "free")
  | .tuple [.str w, x] => (decide (w = "leaf") && entriesD x) || (decide (w = "inner") && childrenD x)
  | _ => false
def cn_b (g : PyData → Bool) : Cn := fun rs M R => ∃ d, rs = [.d d] ∧ R (.b (g d)) M
def cn_asc : Cn := fun rs M R => ∃ ns : List Int, rs = [.d (intD ns)] ∧ ns.length ≤ 1000 ∧ R (.b (asc ns)) M
section
variable {P : Program} {w : World} {K : PySem.W.Frag} {mg : Str → Option Value} {base : Heap}
end
end LW

set_option Elab.async false
set_option linter.all false
set_option maxRecDepth 100000
set_option maxHeartbeats 4000000
namespace LW
open PySem PySem.Spec L2 DL
local macro_rules | `(tactic| walk_at "mem") => `(tactic| ((repeat rw [upM_ne (by assumption)]); first | exact upM_same | assumption))
local macro_rules | `(tactic| walk_at "look") => `(tactic| first | rfl | assumption | exact atI_map0 | exact atI_map1 | walk_at "mem" | (with_reducible apply lsOf_m; walk_at "mem") | (with_reducible apply sqOf_m; walk_at "mem") | (with_reducible apply rlOf_m; walk_at "mem") | (with_reducible apply sqOf'_m; walk_at "mem") | (with_reducible apply tru_l; walk_at "mem") | (with_reducible apply tru_d; walk_at "mem") | ((simp (discharger := assumption) only [sqOf, sqOf', rlOf, lsOf, tru, upM_same, upM_ne]) <;> rfl))
local macro_rules | `(tactic| walk_at "set") => `(tactic| (simp only [wipeD, List.set_cons_zero, List.set_cons_succ, List.set_nil]; rfl))
local macro_rules | `(tactic| walk_at "side") => `(tactic| first | omega | (simp only [List.length_map, List.length_cons, List.length_nil]; omega) | assumption | rfl | decide | exact ⟨by omega, by omega⟩ | exact Nat.le_of_ble_eq_true rfl)
local macro_rules | `(tactic| walk_at "head") => `(tactic| with_reducible conv => whnf)
local macro_rules | `(tactic| walk_at "step") => `(tactic| (walk_at "head"; first
  | ((with_reducible apply gN_go); (focus walk_at "set"))
  | ((with_reducible apply e1s); (focus rfl))
  | ((with_reducible apply e1); (focus walk_at "look"))
  | ((with_reducible apply e2); (focus walk_at "look"); (focus walk_at "look"))
  | ((with_reducible apply l1); (focus walk_at "look"))
  | ((with_reducible apply l2); (focus walk_at "look"); (focus walk_at "look"))
  | ((with_reducible apply e3); (focus walk_at "look"); (focus walk_at "look"); (focus walk_at "look"))
  | ((with_reducible apply e0a); (focus walk_at "look"))
  | ((with_reducible apply And.intro); (focus walk_at "side"))
  | ((with_reducible apply d1); (focus walk_at "look"))
  | ((with_reducible apply d2); (focus walk_at "look"); (focus walk_at "look"))
  | ((with_reducible apply d3); (focus walk_at "look"); (focus walk_at "look"); (focus walk_at "look"))
  | ((with_reducible apply d0); (focus walk_at "look"))
  | ((with_reducible apply lk1); (focus walk_at "look"))
  | with_reducible apply gw2_go
  | with_reducible apply gw3_go
  | with_reducible apply gs_go
  | with_reducible apply gt2_go
  | with_reducible apply gt3_go
  | with_reducible apply gt1_go
  | with_reducible apply gt4_go
  | with_reducible apply gt5_go
  | with_reducible apply gt6_go
  | with_reducible apply gt7_go
  | with_reducible apply gt8_go
  | with_reducible apply ift_go
  | with_reducible apply iff_go
  | ((with_reducible apply ifT_go); (focus rfl))
  | ((with_reducible apply ifF_go); (focus rfl))))
local macro_rules | `(tactic| walk_at "run") => `(tactic| (repeat walk_at "step"); walk_at "head")
local macro_rules | `(tactic| walk_at "start") => `(tactic| simp only [startD, List.map_cons, List.map_nil, List.length_cons, List.length_nil, List.replicate, List.cons_append, List.nil_append, Nat.reduceAdd, Nat.reduceSub, bodyK])
theorem not_tt {b : Bool} (h : (!b) = true) : b = false := by cases b <;> simp_all
theorem not_ff {b : Bool} (h : (!b) = false) : b = true := by cases b <;> simp_all
def cn_c (g : PyData → Bool) : Cn := fun rs M R => ∃ d, rs = [.d d] ∧ SeqAt.shaped d = true ∧ R (.b (g d)) M
theorem shaped_free : SeqAt.shaped (.tuple [.str "free"]) = true := by decide +kernel
section
variable {P : Program} {w : World} {K : PySem.W.Frag} {mg : Str → Option Value} {base : Heap}
end
end LW

set_option Elab.async false
set_option linter.all false
set_option maxRecDepth 100000
set_option maxHeartbeats 4000000
namespace LW
open PySem PySem.Spec L2 DL
local macro_rules | `(tactic| walk_at "mem") => `(tactic| ((repeat rw [upM_ne (by assumption)]); first | exact upM_same | assumption))
local macro_rules | `(tactic| walk_at "look") => `(tactic| first | rfl | assumption | exact atI_map0 | exact atI_map1 | walk_at "mem" | (with_reducible apply lsOf_m; walk_at "mem") | (with_reducible apply sqOf_m; walk_at "mem") | (with_reducible apply rlOf_m; walk_at "mem") | (with_reducible apply sqOf'_m; walk_at "mem") | (with_reducible apply tru_l; walk_at "mem") | (with_reducible apply tru_d; walk_at "mem") | ((simp (discharger := assumption) only [sqOf, sqOf', rlOf, lsOf, tru, upM_same, upM_ne]) <;> rfl))
local macro_rules | `(tactic| walk_at "set") => `(tactic| (simp only [wipeD, List.set_cons_zero, List.set_cons_succ, List.set_nil]; rfl))
local macro_rules | `(tactic| walk_at "side") => `(tactic| first | omega | (simp only [List.length_map, List.length_cons, List.length_nil]; omega) | assumption | rfl | decide | exact ⟨by omega, by omega⟩ | exact Nat.le_of_ble_eq_true rfl)
local macro_rules | `(tactic| walk_at "head") => `(tactic| with_reducible conv => whnf)
local macro_rules | `(tactic| walk_at "step") => `(tactic| (walk_at "head"; first
  | ((with_reducible apply gN_go); (focus walk_at "set"))
  | ((with_reducible apply e1s); (focus rfl))
  | ((with_reducible apply e1); (focus walk_at "look"))
  | ((with_reducible apply e2); (focus walk_at "look"); (focus walk_at "look"))
  | ((with_reducible apply l1); (focus walk_at "look"))
  | ((with_reducible apply l2); (focus walk_at "look"); (focus walk_at "look"))
  | ((with_reducible apply e3); (focus walk_at "look"); (focus walk_at "look"); (focus walk_at "look"))
  | ((with_reducible apply e0a); (focus walk_at "look"))
  | ((with_reducible apply And.intro); (focus walk_at "side"))
  | ((with_reducible apply d1); (focus walk_at "look"))
  | ((with_reducible apply d2); (focus walk_at "look"); (focus walk_at "look"))
  | ((with_reducible apply d3); (focus walk_at "look"); (focus walk_at "look"); (focus walk_at "look"))
  | ((with_reducible apply d0); (focus walk_at "look"))
  | ((with_reducible apply lk1); (focus walk_at "look"))
  | with_reducible apply gw2_go
  | with_reducible apply gw3_go
  | with_reducible apply gs_go
  | with_reducible apply gt2_go
  | with_reducible apply gt3_go
  | with_reducible apply gt1_go
  | with_reducible apply gt4_go
  | with_reducible apply gt5_go
  | with_reducible apply gt6_go
  | with_reducible apply gt7_go
  | with_reducible apply gt8_go
  | with_reducible apply ift_go
  | with_reducible apply iff_go
  | ((with_reducible apply ifT_go); (focus rfl))
  | ((with_reducible apply ifF_go); (focus rfl))))
local macro_rules | `(tactic| walk_at "run") => `(tactic| (repeat walk_at "step"); walk_at "head")
local macro_rules | `(tactic| walk_at "start") => `(tactic| simp only [startD, List.map_cons, List.map_nil, List.length_cons, List.length_nil, List.replicate, List.cons_append, List.nil_append, Nat.reduceAdd, Nat.reduceSub, bodyK])
/-! ### one entry changed -/
def insE (x : Int × PyData) : List (Int × PyData) → List (Int × PyData)
  | [] => [x]
  | y :: r => if x.1 ≤ y.1 then x :: y :: r else y :: insE x r
def srtE : List (Int × PyData) → List (Int × PyData)
  | [] => []
  | x :: r => insE x (srtE r)
theorem insD_en (x : Int × PyData) : ∀ l : List (Int × PyData), insD (enE x) (l.map enE) = (insE x l).map enE
  | [] => rfl
  | y :: r => by
    rw [List.map_cons, insD, insE, insD_en x r]
    show (if x.1 ≤ y.1 then _ else _) = _
    split <;> rfl
theorem srtD_en : ∀ l : List (Int × PyData), srtD (l.map enE) = (srtE l).map enE
  | [] => rfl
  | x :: r => by rw [List.map_cons, srtD, srtE, srtD_en r, insD_en]
/-- the entries with this state of this key -/
def wsE (es : List (Int × PyData)) (k : Int) (s : PyData) : List (Int × PyData) := srtE (es.filter (fun e => !decide (e.1 = k)) ++ if isN s = true then [] else [(k, s)])
def cn_ws : Cn := fun rs M R => ∃ x es k s, rs = [.d (.tuple [x, .tuple (es.map enE)]), .i k, .d s] ∧ es.length ≤ 1000 ∧ (es.map (·.1)).Nodup ∧ R (.d (leafE (wsE es k s))) M
/-- what a record makes of a content -/
inductive Lays : PyData → PyData → PyData → Prop
  | shape {c a b p x y : PyData} : Lays c (.tuple [.str "shape", a, b, p, x, y]) y
  | unshape {c a b p x n : PyData} : Lays c (.tuple [.str "unshape", a, b, p, x, n]) x
  | clean {x p : PyData} {es : List (Int × PyData)} {k : Int} : es.length ≤ 1000 → (es.map (·.1)).Nodup → Lays (.tuple [x, .tuple (es.map enE)]) (.tuple [.str "clean", p, .int k]) (leafE (wsE es k .none))
  | put {x a b p o n : PyData} {es : List (Int × PyData)} {k : Int} : es.length ≤ 1000 → (es.map (·.1)).Nodup → Lays (.tuple [x, .tuple (es.map enE)]) (.tuple [.str "put", a, b, p, .int k, o, n]) (leafE (wsE es k n))
  | undo {x a b p s n : PyData} {es : List (Int × PyData)} {k : Int} : es.length ≤ 1000 → (es.map (·.1)).Nodup → Lays (.tuple [x, .tuple (es.map enE)]) (.tuple [.str "undo", a, b, p, .int k, s, n]) (leafE (wsE es k s))
def cn_laid : Cn := fun rs M R => ∃ c r x, rs = [.d c, .d r] ∧ c.depth ≤ 8 ∧ r.depth ≤ 8 ∧ sz WD c ≤ 16777216 ∧ sz WD r ≤ 16777216 ∧ Lays (tpD c) (tpD r) x ∧ R (.d x) M
section
variable {P : Program} {w : World} {K : PySem.W.Frag} {mg : Str → Option Value} {base : Heap}
theorem ok_ws (T : Tx K mg) {f : Addr} {fd : FuncData} (Fu : Fun K "with_state" "with_state" s_with_state f fd) : FnD P w K mg base 1 f fd ["content", "key", "state"] cn_ws := by
  refine fnD_of Fu sc_with_state (fun rs M R h => ?_) fun cdv A outer s H hgd hr => ⟨_, (pdb_cons (pds_setLcM 3 (own := [("entry", 4)]) rfl sc_with_state.nd rfl rfl (sw_true rfl rfl rfl (by decide +kernel)) (pdi_seq (pd_ix (pd_var 0) pd_int)) (blkOk_by (N := N_with_state) (sc := defScope s_with_state) (by decide +kernel)) (fun _ _ _ _ _ => (pdgw_name 4 sc_with_state.nd)) (fun _ _ _ _ _ => (pdts_one (pdt_cmp (o_ne hr.units) (pd_ix (pd_var 4) pd_int) (pd_var 1) (nomark _)))) (fun _ _ _ _ _ => (pd_var 4)))
      (pdb_cons (pds_if (pdt_cmp o_notN (pd_var 2) pd_non (nomark _)) (pdb_one (pds_expr (pd_append (pd_var 3) (pda_cons (pd_tup (pda_cons (pd_var 1) (pda_cons (pd_var 2) pda_nil))) pda_nil)))) pdb_nil)
      (pdb_one (pds_ret (pd_tup (pda_cons (pd_gS (by rfl) T.c_LEAF) (pda_cons (pd_callT c_tuple (by rfl) T.z_tuple (by decide +kernel) (pda_cons (pd_callB c_sortedK (by rfl) T.z_sorted (by decide +kernel) (pda_cons (pd_var 3) pda_nil)) pda_nil)) pda_nil))))))), ?_⟩
  · obtain ⟨x, es, k, s, rfl, _⟩ := h
    rfl
  · rintro rs M R ⟨x, es, k, s, rfl, hl, nd, hk⟩
    walk_at "start"
    walk_at "run"
    rw [← mapD_d]
    refine lc_fm es _ (fun e => if decide (e.1 = k) = true then none else some (.d (enE e))) trivial (by rw [sizeLine_eq]; omega) (fun e he k1 k0 h1 h0 => ?_) ?_
    · walk_at "run"
      apply ifnd_go
      · intro hn
        walk_at "run"
        exact h1 _ (by rw [decide_eq_false hn]; rfl)
      · intro hn
        exact h0 (by rw [decide_eq_true hn]; rfl)
    have ef : (es.filterMap fun e => if decide (e.1 = k) = true then none else some (Sl.d (enE e))) = ((es.filter fun e => !decide (e.1 = k)).map enE).map Sl.d := by
      clear hk nd hl
      induction es with
      | nil => rfl
      | cons e r ih =>
        by_cases hn : e.1 = k
        · rw [List.filterMap_cons_none (by rw [decide_eq_true hn]; rfl), List.filter_cons_of_neg (by simp [hn]), ih]
        · rw [List.filterMap_cons_some (b := Sl.d (enE e)) (by rw [decide_eq_false hn]; rfl), List.filter_cons_of_pos (by simp [hn]), ih]; rfl
    rw [ef]
    intro p hp
    have nf : ((es.filter fun e => !decide (e.1 = k)).map (·.1)).Nodup := (List.filter_sublist.map _).nodup nd
    have kn : k ∉ (es.filter fun e => !decide (e.1 = k)).map (·.1) := fun z => by
      obtain ⟨e, he, e1⟩ := List.mem_map.mp z
      have := (List.mem_filter.mp he).2
      simp [e1] at this
    have lf : (es.filter fun e => !decide (e.1 = k)).length ≤ es.length := List.length_filter_le _ _
    unfold wsE at hk
    generalize (es.filter fun e => !decide (e.1 = k)) = fs at *
    walk_at "run"
    apply if_go
    · intro hn
      rw [not_tt hn, if_neg (by decide)] at hk
      walk_at "run"
      refine ⟨by rw [List.length_map, List.length_map, sizeLine_eq]; omega, ?_⟩
      rw [upM_upM, show (List.map Sl.d (List.map enE fs) ++ [Sl.d (enE (k, s))]) = ((fs ++ [(k, s)]).map enE).map Sl.d by rw [List.map_append, List.map_append]; rfl]
      walk_at "run"
      refine ⟨_, (fs ++ [(k, s)]).map enE, by walk_at "look", datOf_map _, ?_, ?_, ?_⟩
      · rw [List.all_map]; exact List.all_eq_true.mpr fun _ _ => rfl
      · rw [List.map_map]
        show ((fs ++ [(k, s)]).map (·.1)).Nodup
        rw [List.map_append]
        refine List.nodup_append.mpr ⟨nf, by simp, fun a ha b hb => ?_⟩
        intro e
        subst e
        simp at hb
        subst hb
        exact kn ha
      · rw [srtD_en]
        walk_at "head"
        refine e2 rfl (datOf_map _) ?_
        walk_at "run"
        exact upR.le hk (Le.up (Le.refl M) hp)
    · intro hn
      rw [not_ff hn, if_pos rfl, List.append_nil] at hk
      walk_at "run"
      refine ⟨_, fs.map enE, by walk_at "look", datOf_map _, ?_, ?_, ?_⟩
      · rw [List.all_map]; exact List.all_eq_true.mpr fun _ _ => rfl
      · rw [List.map_map]; exact nf
      · rw [srtD_en]
        walk_at "head"
        refine e2 rfl (datOf_map _) ?_
        walk_at "run"
        exact upR.le hk (Le.up (Le.refl M) hp)
theorem ok_laid (T : Tx K mg) (H_tupled : Has P w K mg base 9 "tupled" s_tupled ["thing"] (cn_deep tpD 8)) (H_with_state : Has P w K mg base 1 "with_state" s_with_state ["content", "key", "state"] cn_ws) {f : Addr} {fd : FuncData} (Fu : Fun K "laid" "laid" s_laid f fd) : FnD P w K mg base 10 f fd ["content", "record"] cn_laid := by
  refine fnD_of Fu sc_laid (fun rs M R h => ?_) fun cdv A outer s H hgd hr => ⟨_, (pdb_cons (pds_set 2 sc_laid.nd (pd_fn H_tupled hgd (hr.mono (by first | decide | omega)) (by rfl) (pda_cons (pd_var 0) pda_nil)))
      (pdb_cons (pds_asg (pd_fn H_tupled hgd (hr.mono (by first | decide | omega)) (by rfl) (pda_cons (pd_var 1) pda_nil)) (pdg_star rfl (pdgs_cons (pdg_name 3 sc_laid.nd) (pdgs_cons (pdg_name 4 sc_laid.nd) pdgs_nil))))
      (pdb_cons (pds_if (pdt_cmp (o_eq hr.units) (pd_var 3) pd_str (nomark _)) (pdb_one (pds_ret (pd_ix (pd_var 4) pd_int))) pdb_nil)
      (pdb_cons (pds_if (pdt_cmp (o_eq hr.units) (pd_var 3) pd_str (nomark _)) (pdb_one (pds_ret (pd_ix (pd_var 4) pd_int))) pdb_nil)
      (pdb_cons (pds_if (pdt_cmp (o_eq hr.units) (pd_var 3) pd_str (nomark _)) (pdb_one (pds_ret (pd_fn H_with_state hgd (hr.mono (by first | decide | omega)) (by rfl) (pda_cons (pd_var 2) (pda_cons (pd_ix (pd_var 4) pd_int) (pda_cons pd_non pda_nil)))))) pdb_nil)
      (pdb_one (pds_ret (pd_fn H_with_state hgd (hr.mono (by first | decide | omega)) (by rfl) (pda_cons (pd_var 2) (pda_cons (pd_ix (pd_var 4) pd_int) (pda_cons (pd_if (pdt_cmp (o_eq hr.units) (pd_var 3) pd_str (nomark _)) (pd_ix (pd_var 4) pd_int) (pd_ix (pd_var 4) pd_int)) pda_nil))))))))))), ?_⟩
  · obtain ⟨c, r, x, rfl, _⟩ := h
    rfl
  · rintro rs M R ⟨c, r, x, rfl, d1, d2, z1, z2, hx, hk⟩
    walk_at "start"
    walk_at "run"
    refine ⟨c, rfl, d1, z1, ?_⟩
    walk_at "run"
    refine ⟨r, rfl, d2, z2, ?_⟩
    generalize tpD r = r' at hx ⊢
    generalize tpD c = c' at hx ⊢
    cases hx with
    | shape => walk_at "run"; exact upR.of hk
    | unshape => walk_at "run"; exact upR.of hk
    | clean hl nd =>
      walk_at "run"
      exact ⟨_, _, _, _, rfl, hl, nd, upR.of hk⟩
    | put hl nd =>
      walk_at "run"
      exact ⟨_, _, _, _, rfl, hl, nd, upR.of hk⟩
    | undo hl nd =>
      walk_at "run"
      exact ⟨_, _, _, _, rfl, hl, nd, upR.of hk⟩
end
end LW

set_option Elab.async false
set_option linter.all false
set_option maxRecDepth 100000
set_option maxHeartbeats 4000000
namespace LW
open PySem PySem.Spec L2 DL
/-! ### records -/
inductive Rc where
  | beg
  | put (t l p k : Int) (o n : PyData)
  | undo (t l p k : Int) (o : PyData) (u : Int)
  | room (t l k u : Int)
  | shape (t l p : Int) (b a : PyData)
  | unshape (t l p : Int) (b : PyData) (u : Int)
  | closed (t l u : Int)
  | commit (t l : Int)
  | fin (t l : Int)
  | free (p : Int)
  | clean (p k : Int)
  | check
  | checked (l : Int) (o d : PyData)
  | restart
def Rc.d : Rc → PyData
  | .beg => .tuple [.str "begin"]
  | .put t l p k o n => .tuple [.str "put", .int t, .int l, .int p, .int k, o, n]
  | .undo t l p k o u => .tuple [.str "undo", .int t, .int l, .int p, .int k, o, .int u]
  | .room t l k u => .tuple [.str "room", .int t, .int l, .int k, .int u]
  | .shape t l p b a => .tuple [.str "shape", .int t, .int l, .int p, b, a]
  | .unshape t l p b u => .tuple [.str "unshape", .int t, .int l, .int p, b, .int u]
  | .closed t l u => .tuple [.str "closed", .int t, .int l, .int u]
  | .commit t l => .tuple [.str "commit", .int t, .int l]
  | .fin t l => .tuple [.str "end", .int t, .int l]
  | .free p => .tuple [.str "free", .int p]
  | .clean p k => .tuple [.str "clean", .int p, .int k]
  | .check => .tuple [.str "check"]
  | .checked l o d => .tuple [.str "checked", .int l, o, d]
  | .restart => .tuple [.str "restart"]
/-- the page that it changes -/
def Rc.page : Rc → Option Int
  | .put _ _ p _ _ _ => some p
  | .undo _ _ p _ _ _ => some p
  | .shape _ _ p _ _ => some p
  | .unshape _ _ p _ _ => some p
  | .clean p _ => some p
  | _ => none
def Rc.owner (n : Int) : Rc → Option Int
  | .beg => some n
  | .put t _ _ _ _ _ => some t
  | .undo t _ _ _ _ _ => some t
  | .room t _ _ _ => some t
  | .shape t _ _ _ _ => some t
  | .unshape t _ _ _ _ => some t
  | .closed t _ _ => some t
  | .commit t _ => some t
  | .fin t _ => some t
  | .free _ => some 0
  | _ => none
def Rc.todo (n : Int) : Rc → Int
  | .put _ _ _ _ _ _ => n
  | .shape _ _ _ _ _ => n
  | .undo _ _ _ _ _ u => u
  | .room _ _ _ u => u
  | .unshape _ _ _ _ u => u
  | .closed _ _ u => u
  | _ => 0
def oD : Option Int → PyData
  | none => .none
  | some n => .int n
/-! ### tables -/
def putA {A : Type} (k : Int) (a : A) : List (Int × A) → List (Int × A)
  | [] => [(k, a)]
  | (j, b) :: r => if j = k then (j, a) :: r else (j, b) :: putA k a r
def getA {A : Type} (k : Int) : List (Int × A) → Option A
  | [] => none
  | (j, b) :: r => if j = k then some b else getA k r
def dropA {A : Type} (k : Int) : List (Int × A) → List (Int × A)
  | [] => []
  | (j, b) :: r => if j = k then dropA k r else (j, b) :: dropA k r
def kS {A : Type} (f : A → Sl) (l : List (Int × A)) : KS := l.map fun p => (.inl p.1, f p.2)
theorem inl_ne {a b : Int} (h : a ≠ b) : (Sum.inl a : Key) ≠ Sum.inl b := fun e => h (by cases e; rfl)
section
variable {A : Type} {f : A → Sl} {k j : Int} {a : A}
theorem valS_k : ∀ l : List (Int × A), valS (kS f l) (.inl k) = (getA k l).map f
  | [] => rfl
  | (i, b) :: r => by
    have ih := valS_k r
    unfold kS at ih ⊢
    rw [List.map_cons, valS_cons, getA]
    by_cases h : i = k
    · subst h; rw [if_pos rfl, if_pos rfl]; rfl
    · rw [if_neg (inl_ne h), if_neg h]; exact ih
theorem any_k (k : Int) : ∀ l : List (Int × A), ((kS f l).any fun kv => decide (kv.1 = Sum.inl k)) = (getA k l).isSome
  | [] => rfl
  | (i, b) :: r => by
    have ih := any_k k r
    unfold kS at ih ⊢
    rw [List.map_cons, List.any_cons, getA, ih]
    by_cases h : i = k
    · subst h; rw [if_pos rfl]; simp
    · rw [if_neg h]; simp [inl_ne h]
/-- a table's keys are different -/
def NdA (l : List (Int × A)) : Prop := (l.map (·.1)).Nodup
theorem getA_none : ∀ {l : List (Int × A)}, k ∉ l.map (·.1) → getA k l = none
  | [], _ => rfl
  | (i, b) :: r, h => by
    rw [List.map_cons, List.mem_cons, not_or] at h
    rw [getA, if_neg (fun e => h.1 e.symm)]
    exact getA_none h.2
theorem getA_some : ∀ {l : List (Int × A)} {a : A}, getA k l = some a → (k, a) ∈ l
  | (i, b) :: r, a, h => by
    rw [getA] at h
    split at h
    · rename_i e; cases h; subst e; exact List.mem_cons_self ..
    · exact List.mem_cons_of_mem _ (getA_some h)
theorem getA_of : ∀ {l : List (Int × A)} {a : A}, NdA l → (k, a) ∈ l → getA k l = some a
  | (i, b) :: r, a, nd, h => by
    unfold NdA at nd
    rw [List.map_cons, List.nodup_cons] at nd
    rcases List.mem_cons.mp h with e | h
    · cases e; rw [getA, if_pos rfl]
    · rw [getA, if_neg (fun e => nd.1 (by have e : i = k := e; rw [e]; exact List.mem_map.mpr ⟨_, h, rfl⟩))]
      exact getA_of nd.2 h
theorem putA_mem : ∀ {l : List (Int × A)} {x : Int × A}, x ∈ putA k a l → x = (k, a) ∨ (x ∈ l ∧ x.1 ≠ k) ∨ x ∈ l
  | [], x, h => .inl (by simpa [putA] using h)
  | (i, b) :: r, x, h => by
    rw [putA] at h
    split at h
    · rename_i e
      rcases List.mem_cons.mp h with e2 | h
      · exact .inl (by rw [e2, e])
      · exact .inr (.inr (List.mem_cons_of_mem _ h))
    · rcases List.mem_cons.mp h with e2 | h
      · exact .inr (.inr (by rw [e2]; exact List.mem_cons_self ..))
      · rcases putA_mem h with e | e | e
        · exact .inl e
        · exact .inr (.inr (List.mem_cons_of_mem _ e.1))
        · exact .inr (.inr (List.mem_cons_of_mem _ e))
theorem keys_put : ∀ l : List (Int × A), (putA k a l).map (·.1) = if k ∈ l.map (·.1) then l.map (·.1) else l.map (·.1) ++ [k]
  | [] => rfl
  | (i, b) :: r => by
    have ih := keys_put r
    rw [putA]
    by_cases h : i = k
    · subst h; rw [if_pos rfl, if_pos (by simp)]; rfl
    · rw [if_neg h, List.map_cons, ih, List.map_cons]
      by_cases h2 : k ∈ r.map (·.1)
      · rw [if_pos h2, if_pos (List.mem_cons_of_mem _ h2)]
      · rw [if_neg h2, if_neg (by rw [List.mem_cons, not_or]; exact ⟨fun e => h e.symm, h2⟩)]; rfl
theorem NdA.put {l : List (Int × A)} (h : NdA l) : NdA (putA k a l) := by
  unfold NdA at *
  rw [keys_put]
  split
  · exact h
  · rename_i h2
    refine List.nodup_append.mpr ⟨h, by simp, fun x hx y hy e => ?_⟩
    rw [List.mem_singleton] at hy
    subst hy; subst e
    exact h2 hx
theorem dropA_eq : ∀ l : List (Int × A), dropA k l = l.filter fun p => decide (p.1 ≠ k)
  | [] => rfl
  | (i, b) :: r => by
    rw [dropA, dropA_eq r, List.filter_cons]
    by_cases h : i = k
    · subst h; simp
    · rw [if_neg h]; simp [h]
theorem NdA.drop {l : List (Int × A)} (h : NdA l) : NdA (dropA k l) := by
  unfold NdA at *
  rw [dropA_eq]
  exact h.sublist ((List.filter_sublist).map _)
theorem map_out {y : Sl} : ∀ {l : List (Int × A)}, k ∉ l.map (·.1) → (kS f l).map (fun kv => if kv.1 = Sum.inl k then (kv.1, y) else kv) = kS f l
  | [], _ => rfl
  | (i, b) :: r, h => by
    rw [List.map_cons, List.mem_cons, not_or] at h
    have ih := map_out (y := y) h.2
    unfold kS at ih ⊢
    rw [List.map_cons, List.map_cons, ih, if_neg (inl_ne fun e => h.1 e.symm)]
theorem map_in : ∀ {l : List (Int × A)}, NdA l → (getA k l).isSome = true → (kS f l).map (fun kv => if kv.1 = Sum.inl k then (kv.1, f a) else kv) = kS f (putA k a l)
  | [], _, h => by cases h
  | (i, b) :: r, nd, h => by
    unfold NdA at nd
    rw [List.map_cons, List.nodup_cons] at nd
    by_cases e : i = k
    · subst e
      have ih := map_out (f := f) (y := f a) nd.1
      unfold kS at ih ⊢
      rw [putA, if_pos rfl, List.map_cons, List.map_cons, List.map_cons, ih, if_pos rfl]
    · rw [getA, if_neg e] at h
      have ih := map_in nd.2 h
      unfold kS at ih ⊢
      rw [putA, if_neg e, List.map_cons, List.map_cons, List.map_cons, ih, if_neg (inl_ne e)]
theorem putA_new : ∀ {l : List (Int × A)}, getA k l = none → putA k a l = l ++ [(k, a)]
  | [], _ => rfl
  | (i, b) :: r, h => by
    rw [getA] at h
    split at h
    · cases h
    · rename_i e
      rw [putA, if_neg e, putA_new h, List.cons_append]
theorem putS_k {l : List (Int × A)} (nd : NdA l) : putS (kS f l) (.inl k) (f a) = kS f (putA k a l) := by
  unfold putS
  rw [any_k]
  cases hg : getA k l with
  | none =>
    rw [if_neg (fun e => by cases e), putA_new hg]
    unfold kS
    rw [List.map_append]
    rfl
  | some c => rw [if_pos (by rfl)]; exact map_in nd (by rw [hg]; rfl)
theorem dropS_k : ∀ l : List (Int × A), dropS (kS f l) (.inl k) = kS f (dropA k l)
  | [] => rfl
  | (i, b) :: r => by
    have ih := dropS_k r
    unfold dropS kS at ih ⊢
    rw [List.map_cons, List.filter_cons, dropA, ih]
    by_cases h : i = k
    · subst h; simp
    · rw [if_neg h]; simp [inl_ne h]
end
end LW

set_option Elab.async false
set_option linter.all false
set_option maxRecDepth 100000
set_option maxHeartbeats 4000000
namespace LW
open PySem PySem.Spec L2 DL
/-! ### the ledger -/
abbrev KeyL := List (Int × Unit)
structure Lg where
  recs : List Rc
  last : List (Int × Int)
  opn : KeyL
  keys : List (Int × KeyL)
  hold : List (Int × Int)
  beg : List (Int × Int)
abbrev iS : List (Int × Int) → KS := kS Sl.i
abbrev uS : KeyL → KS := kS fun _ => Sl.b true
abbrev aS : List (Int × Addr) → KS := kS fun a => Sl.v (.ref a)
def Lg.nil : Lg := ⟨[], [], [], [], [], []⟩
/-- holders without these keys -/
def freed : KeyL → List (Int × Int) → List (Int × Int)
  | [], h => h
  | (k, _) :: r, h => freed r (dropA k h)
def Lg.note (L : Lg) (o n : Int) : Rc → Lg
  | .beg => { L with opn := putA o () L.opn }
  | .room _ _ _ _ => { L with beg := putA o n L.beg }
  | .free _ => { L with beg := putA o n L.beg }
  | .put _ _ _ k _ _ => { L with keys := putA o (putA k () ((getA o L.keys).getD [])) L.keys, hold := putA k o L.hold }
  | .commit _ _ => { L with opn := dropA o L.opn, keys := dropA o L.keys, hold := freed ((getA o L.keys).getD []) L.hold }
  | .fin _ _ => { L with opn := dropA o L.opn, keys := dropA o L.keys, hold := freed ((getA o L.keys).getD []) L.hold }
  | _ => L
def Lg.lay (L : Lg) (q : Rc) : Lg := { L with recs := L.recs ++ [q] }
def Lg.add (L : Lg) (q : Rc) : Lg := match q.owner (L.recs.length + 1) with
  | none => L.lay q
  | some o => { L.lay q with last := putA o (L.recs.length + 1) L.last }.note o (L.recs.length + 1) q
def Lg.of (qs : List Rc) : Lg := qs.foldl Lg.add .nil
structure Lg.Wf (L : Lg) : Prop where
  last : NdA L.last
  opn : NdA L.opn
  keys : NdA L.keys
  hold : NdA L.hold
  beg : NdA L.beg
  inn : ∀ t y, getA t L.keys = some y → NdA y
section
variable {A : Type} {k j : Int} {a : A}
theorem getA_put : ∀ l : List (Int × A), getA j (putA k a l) = if j = k then some a else getA j l
  | [] => by
    rw [putA, getA, getA]
    by_cases h : k = j
    · subst h; rw [if_pos rfl, if_pos rfl]
    · rw [if_neg h, if_neg fun e => h e.symm]; rfl
  | (i, b) :: r => by
    have ih := getA_put r
    rw [putA]
    by_cases h : i = k
    · subst h
      rw [if_pos rfl, getA, getA]
      by_cases h2 : i = j
      · subst h2; rw [if_pos rfl, if_pos rfl]
      · rw [if_neg h2, if_neg h2, if_neg fun e => h2 e.symm]
    · rw [if_neg h, getA, getA, ih]
      by_cases h2 : i = j
      · subst h2; rw [if_pos rfl, if_pos rfl, if_neg h]
      · rw [if_neg h2, if_neg h2]
theorem getA_drop : ∀ l : List (Int × A), getA j (dropA k l) = if j = k then none else getA j l
  | [] => by rw [dropA, getA]; split <;> rfl
  | (i, b) :: r => by
    have ih := getA_drop r
    rw [dropA]
    by_cases h : i = k
    · subst h
      rw [if_pos rfl, ih, getA]
      by_cases h2 : j = i
      · rw [if_pos h2, if_pos h2]
      · rw [if_neg h2, if_neg h2, if_neg fun e => h2 e.symm]
    · rw [if_neg h, getA, getA, ih]
      by_cases h2 : i = j
      · subst h2; rw [if_pos rfl, if_pos rfl, if_neg h]
      · rw [if_neg h2, if_neg h2]
end
theorem keys_drop {A : Type} {k : Int} : ∀ l : List (Int × A), (dropA k l).map (·.1) = (l.map (·.1)).filter fun i => decide (i ≠ k)
  | [] => rfl
  | (i, b) :: r => by
    have ih := keys_drop (k := k) r
    rw [dropA, List.map_cons, List.filter_cons]
    by_cases h : i = k
    · subst h; rw [if_pos rfl, ih]; simp
    · rw [if_neg h, List.map_cons, ih]; simp [h]
theorem getA_in {A : Type} {k : Int} : ∀ {l : List (Int × A)}, (getA k l).isSome = true → k ∈ l.map (·.1)
  | (i, b) :: r, h => by
    rw [getA] at h
    split at h
    · rename_i e; rw [e]; exact List.mem_cons_self ..
    · exact List.mem_cons_of_mem _ (getA_in h)
theorem freed_nd : ∀ {ks : KeyL} {h : List (Int × Int)}, NdA h → NdA (freed ks h)
  | [], _, n => n
  | _ :: r, _, n => freed_nd (ks := r) n.drop
theorem Lg.Wf.nil : Lg.nil.Wf := ⟨List.nodup_nil, List.nodup_nil, List.nodup_nil, List.nodup_nil, List.nodup_nil, fun _ _ h => by cases h⟩
theorem Lg.Wf.note {L : Lg} (w : L.Wf) (o n : Int) (q : Rc) : (L.note o n q).Wf := by
  have hp : ∀ k : Int, ∀ t y, getA t (putA o (putA k () ((getA o L.keys).getD [])) L.keys) = some y → NdA y := fun k t y h => by
    rw [getA_put] at h
    split at h
    · cases h
      cases e : getA o L.keys with
      | none => exact NdA.put List.nodup_nil
      | some z => exact (w.inn o z e).put
    · exact w.inn t y h
  have hd : ∀ t y, getA t (dropA o L.keys) = some y → NdA y := fun t y h => by
    rw [getA_drop] at h
    split at h
    · cases h
    · exact w.inn t y h
  cases q with
  | beg => exact ⟨w.last, w.opn.put, w.keys, w.hold, w.beg, w.inn⟩
  | room => exact ⟨w.last, w.opn, w.keys, w.hold, w.beg.put, w.inn⟩
  | free => exact ⟨w.last, w.opn, w.keys, w.hold, w.beg.put, w.inn⟩
  | put t l p k o' n' => exact ⟨w.last, w.opn, w.keys.put, w.hold.put, w.beg, hp k⟩
  | commit => exact ⟨w.last, w.opn.drop, w.keys.drop, freed_nd w.hold, w.beg, hd⟩
  | fin => exact ⟨w.last, w.opn.drop, w.keys.drop, freed_nd w.hold, w.beg, hd⟩
  | undo => exact w
  | shape => exact w
  | unshape => exact w
  | closed => exact w
  | clean => exact w
  | check => exact w
  | checked => exact w
  | restart => exact w
theorem Lg.Wf.lay {L : Lg} (w : L.Wf) (q : Rc) : (L.lay q).Wf := ⟨w.last, w.opn, w.keys, w.hold, w.beg, w.inn⟩
theorem Lg.Wf.add {L : Lg} (w : L.Wf) (q : Rc) : (L.add q).Wf := by
  unfold Lg.add
  split
  · exact w.lay q
  · exact Lg.Wf.note (L := { L.lay q with last := _ }) ⟨w.last.put, w.opn, w.keys, w.hold, w.beg, w.inn⟩ _ _ q
/-! ### in memory -/
structure Ad where
  r : Addr
  l : Addr
  o : Addr
  k : Addr
  h : Addr
  b : Addr
def fsL (x : Ad) : FS := [("own_records", .v (.ref x.r)), ("own_last", .v (.ref x.l)), ("own_open", .v (.ref x.o)), ("own_keys", .v (.ref x.k)), ("own_holders", .v (.ref x.h)), ("own_begun", .v (.ref x.b))]
structure LedW (M0 M : Mem) (C p : Addr) (x : Ad) (ka : List (Int × Addr)) (L : Lg) : Prop where
  mp : M p = some (.ob C (fsL x))
  mr : M x.r = some (.lst (L.recs.map fun q => .d q.d))
  ml : M x.l = some (.dic (iS L.last))
  mo : M x.o = some (.dic (uS L.opn))
  mk_ : M x.k = some (.dic (aS ka))
  mh : M x.h = some (.dic (iS L.hold))
  mb : M x.b = some (.dic (iS L.beg))
  nka : NdA ka
  kk : ∀ t, (getA t ka).isSome = (getA t L.keys).isSome
  ke : ka.map (·.1) = L.keys.map (·.1)
  kv : ∀ t a y, getA t ka = some a → getA t L.keys = some y → M a = some (.dic (uS y))
  nd : [p, x.r, x.l, x.o, x.k, x.h, x.b].Nodup
  ne : ∀ t a, getA t ka = some a → a ∉ [p, x.r, x.l, x.o, x.k, x.h, x.b]
  na : ∀ t t' a, getA t ka = some a → getA t' ka = some a → t = t'
  mf : ∀ a ∈ [p, x.r, x.l, x.o, x.k, x.h, x.b], M0 a = none
  ma : ∀ t a, getA t ka = some a → M0 a = none
  le : Le M0 M
  wf : L.Wf
theorem ne_nd {A : Type} {l : List A} (nd : l.Nodup) (i j : Nat) {a b : A} (hi : l[i]? = some a) (hj : l[j]? = some b) (h : i ≠ j) : a ≠ b := by
  obtain ⟨z1, z2⟩ := List.getElem?_eq_some_iff.mp hi
  obtain ⟨z3, z4⟩ := List.getElem?_eq_some_iff.mp hj
  have np := List.pairwise_iff_getElem.mp nd
  rcases Nat.lt_trichotomy i j with l | l | l
  · rw [← z2, ← z4]; exact np i j z1 z3 l
  · exact absurd l h
  · rw [← z2, ← z4]; exact (np j i z3 z1 l).symm
section
variable {M0 M : Mem} {C p : Addr} {x : Ad} {ka : List (Int × Addr)} {L : Lg}
theorem LedW.nx (W : LedW M0 M C p x ka L) (i : Nat) {c : Addr} (hi : [p, x.r, x.l, x.o, x.k, x.h, x.b][i]? = some c) {t : Int} {a : Addr} (h : getA t ka = some a) : a ≠ c := fun e => W.ne t a h (by subst e; exact List.mem_of_getElem? hi)
theorem LedW.leM (W : LedW M0 M C p x ka L) (i : Nat) {c : Addr} {o : MO} (hi : [p, x.r, x.l, x.o, x.k, x.h, x.b][i]? = some c) : Le M0 (upM M c o) := fun a u e => by
  rw [upM_ne (fun z => by subst z; rw [W.mf _ (List.mem_of_getElem? hi)] at e; cases e)]
  exact W.le a u e
theorem LedW.setR (W : LedW M0 M C p x ka L) (q : Rc) : LedW M0 (upM M x.r (.lst ((L.recs ++ [q]).map fun q => .d q.d))) C p x ka (L.lay q) :=
  { W with
    mp := (upM_ne (ne_nd W.nd 0 1 rfl rfl (by decide))).trans W.mp
    mr := upM_same
    ml := (upM_ne (ne_nd W.nd 2 1 rfl rfl (by decide))).trans W.ml
    mo := (upM_ne (ne_nd W.nd 3 1 rfl rfl (by decide))).trans W.mo
    mk_ := (upM_ne (ne_nd W.nd 4 1 rfl rfl (by decide))).trans W.mk_
    mh := (upM_ne (ne_nd W.nd 5 1 rfl rfl (by decide))).trans W.mh
    mb := (upM_ne (ne_nd W.nd 6 1 rfl rfl (by decide))).trans W.mb
    kv := fun t a y h1 h2 => (upM_ne (W.nx 1 rfl h1)).trans (W.kv t a y h1 h2)
    le := W.leM 1 rfl
    wf := W.wf.lay q }
theorem LedW.setL (W : LedW M0 M C p x ka L) (v : List (Int × Int)) (nv : NdA v) : LedW M0 (upM M x.l (.dic (iS v))) C p x ka { L with last := v } :=
  { W with
    mp := (upM_ne (ne_nd W.nd 0 2 rfl rfl (by decide))).trans W.mp
    mr := (upM_ne (ne_nd W.nd 1 2 rfl rfl (by decide))).trans W.mr
    ml := upM_same
    mo := (upM_ne (ne_nd W.nd 3 2 rfl rfl (by decide))).trans W.mo
    mk_ := (upM_ne (ne_nd W.nd 4 2 rfl rfl (by decide))).trans W.mk_
    mh := (upM_ne (ne_nd W.nd 5 2 rfl rfl (by decide))).trans W.mh
    mb := (upM_ne (ne_nd W.nd 6 2 rfl rfl (by decide))).trans W.mb
    kv := fun t a y h1 h2 => (upM_ne (W.nx 2 rfl h1)).trans (W.kv t a y h1 h2)
    le := W.leM 2 rfl
    wf := { W.wf with last := nv } }
theorem LedW.setO (W : LedW M0 M C p x ka L) (v : KeyL) (nv : NdA v) : LedW M0 (upM M x.o (.dic (uS v))) C p x ka { L with opn := v } :=
  { W with
    mp := (upM_ne (ne_nd W.nd 0 3 rfl rfl (by decide))).trans W.mp
    mr := (upM_ne (ne_nd W.nd 1 3 rfl rfl (by decide))).trans W.mr
    ml := (upM_ne (ne_nd W.nd 2 3 rfl rfl (by decide))).trans W.ml
    mo := upM_same
    mk_ := (upM_ne (ne_nd W.nd 4 3 rfl rfl (by decide))).trans W.mk_
    mh := (upM_ne (ne_nd W.nd 5 3 rfl rfl (by decide))).trans W.mh
    mb := (upM_ne (ne_nd W.nd 6 3 rfl rfl (by decide))).trans W.mb
    kv := fun t a y h1 h2 => (upM_ne (W.nx 3 rfl h1)).trans (W.kv t a y h1 h2)
    le := W.leM 3 rfl
    wf := { W.wf with opn := nv } }
theorem LedW.setH (W : LedW M0 M C p x ka L) (v : List (Int × Int)) (nv : NdA v) : LedW M0 (upM M x.h (.dic (iS v))) C p x ka { L with hold := v } :=
  { W with
    mp := (upM_ne (ne_nd W.nd 0 5 rfl rfl (by decide))).trans W.mp
    mr := (upM_ne (ne_nd W.nd 1 5 rfl rfl (by decide))).trans W.mr
    ml := (upM_ne (ne_nd W.nd 2 5 rfl rfl (by decide))).trans W.ml
    mo := (upM_ne (ne_nd W.nd 3 5 rfl rfl (by decide))).trans W.mo
    mk_ := (upM_ne (ne_nd W.nd 4 5 rfl rfl (by decide))).trans W.mk_
    mh := upM_same
    mb := (upM_ne (ne_nd W.nd 6 5 rfl rfl (by decide))).trans W.mb
    kv := fun t a y h1 h2 => (upM_ne (W.nx 5 rfl h1)).trans (W.kv t a y h1 h2)
    le := W.leM 5 rfl
    wf := { W.wf with hold := nv } }
theorem LedW.setB (W : LedW M0 M C p x ka L) (v : List (Int × Int)) (nv : NdA v) : LedW M0 (upM M x.b (.dic (iS v))) C p x ka { L with beg := v } :=
  { W with
    mp := (upM_ne (ne_nd W.nd 0 6 rfl rfl (by decide))).trans W.mp
    mr := (upM_ne (ne_nd W.nd 1 6 rfl rfl (by decide))).trans W.mr
    ml := (upM_ne (ne_nd W.nd 2 6 rfl rfl (by decide))).trans W.ml
    mo := (upM_ne (ne_nd W.nd 3 6 rfl rfl (by decide))).trans W.mo
    mk_ := (upM_ne (ne_nd W.nd 4 6 rfl rfl (by decide))).trans W.mk_
    mh := (upM_ne (ne_nd W.nd 5 6 rfl rfl (by decide))).trans W.mh
    mb := upM_same
    kv := fun t a y h1 h2 => (upM_ne (W.nx 6 rfl h1)).trans (W.kv t a y h1 h2)
    le := W.leM 6 rfl
    wf := { W.wf with beg := nv } }
/-- own_keys lacks this one -/
theorem LedW.dropK (W : LedW M0 M C p x ka L) (o : Int) : LedW M0 (upM M x.k (.dic (aS (dropA o ka)))) C p x (dropA o ka) { L with keys := dropA o L.keys } := by
  have g : ∀ t a, getA t (dropA o ka) = some a → t ≠ o ∧ getA t ka = some a := fun t a h => by
    rw [getA_drop] at h
    split at h
    · cases h
    · rename_i e; exact ⟨e, h⟩
  exact
  { mp := (upM_ne (ne_nd W.nd 0 4 rfl rfl (by decide))).trans W.mp
    mr := (upM_ne (ne_nd W.nd 1 4 rfl rfl (by decide))).trans W.mr
    ml := (upM_ne (ne_nd W.nd 2 4 rfl rfl (by decide))).trans W.ml
    mo := (upM_ne (ne_nd W.nd 3 4 rfl rfl (by decide))).trans W.mo
    mk_ := upM_same
    mh := (upM_ne (ne_nd W.nd 5 4 rfl rfl (by decide))).trans W.mh
    mb := (upM_ne (ne_nd W.nd 6 4 rfl rfl (by decide))).trans W.mb
    nka := W.nka.drop
    kk := fun t => by
      show (getA t (dropA o ka)).isSome = (getA t (dropA o L.keys)).isSome
      rw [getA_drop, getA_drop]
      split
      · rfl
      · exact W.kk t
    ke := by
      show (dropA o ka).map (·.1) = (dropA o L.keys).map (·.1)
      rw [keys_drop, keys_drop, W.ke]
    kv := fun t a y h1 h2 => by
      obtain ⟨e, h3⟩ := g t a h1
      have h2 : getA t (dropA o L.keys) = some y := h2
      rw [getA_drop, if_neg e] at h2
      exact (upM_ne (W.nx 4 rfl h3)).trans (W.kv t a y h3 h2)
    nd := W.nd
    ne := fun t a h => W.ne t a (g t a h).2
    na := fun t t' a h h' => W.na t t' a (g t a h).2 (g t' a h').2
    mf := W.mf
    ma := fun t a h => W.ma t a (g t a h).2
    le := W.leM 4 rfl
    wf := ⟨W.wf.last, W.wf.opn, W.wf.keys.drop, W.wf.hold, W.wf.beg, fun t y h => by
      have h : getA t (dropA o L.keys) = some y := h
      rw [getA_drop] at h
      split at h
      · cases h
      · exact W.wf.inn t y h⟩ }
/-- own_keys has a new one, of nothing, at a new place -/
theorem LedW.newK (W : LedW M0 M C p x ka L) {o : Int} (ho : getA o ka = none) {a : Addr} (ha : M a = none) : LedW M0 (upM (upM M a (.dic [])) x.k (.dic (aS (putA o a ka)))) C p x (putA o a ka) { L with keys := putA o [] L.keys } := by
  have nk : getA o L.keys = none := by
    have := W.kk o
    rw [ho] at this
    cases e : getA o L.keys with
    | none => rfl
    | some y => rw [e] at this; cases this
  have g : ∀ t b, getA t (putA o a ka) = some b → (t = o ∧ b = a) ∨ (t ≠ o ∧ getA t ka = some b) := fun t b h => by
    rw [getA_put] at h
    split at h
    · rename_i e; cases h; exact .inl ⟨e, rfl⟩
    · rename_i e; exact .inr ⟨e, h⟩
  have old : ∀ {c : Addr} {u : MO}, M c = some u → c ≠ a := fun h e => by subst e; rw [ha] at h; cases h
  have fx : a ∉ [p, x.r, x.l, x.o, x.k, x.h, x.b] := fun h => by
    simp only [List.mem_cons, List.not_mem_nil, or_false] at h
    rcases h with e | e | e | e | e | e | e
    · exact old W.mp e.symm
    · exact old W.mr e.symm
    · exact old W.ml e.symm
    · exact old W.mo e.symm
    · exact old W.mk_ e.symm
    · exact old W.mh e.symm
    · exact old W.mb e.symm
  have there : ∀ t b, getA t ka = some b → ∃ u, M b = some u := fun t b h => by
    have := W.kk t
    rw [h] at this
    cases e : getA t L.keys with
    | none => rw [e] at this; cases this
    | some y => exact ⟨_, W.kv t b y h e⟩
  exact
  { mp := (upM_ne (ne_nd W.nd 0 4 rfl rfl (by decide))).trans ((upM_ne (old W.mp)).trans W.mp)
    mr := (upM_ne (ne_nd W.nd 1 4 rfl rfl (by decide))).trans ((upM_ne (old W.mr)).trans W.mr)
    ml := (upM_ne (ne_nd W.nd 2 4 rfl rfl (by decide))).trans ((upM_ne (old W.ml)).trans W.ml)
    mo := (upM_ne (ne_nd W.nd 3 4 rfl rfl (by decide))).trans ((upM_ne (old W.mo)).trans W.mo)
    mk_ := upM_same
    mh := (upM_ne (ne_nd W.nd 5 4 rfl rfl (by decide))).trans ((upM_ne (old W.mh)).trans W.mh)
    mb := (upM_ne (ne_nd W.nd 6 4 rfl rfl (by decide))).trans ((upM_ne (old W.mb)).trans W.mb)
    nka := W.nka.put
    kk := fun t => by
      show (getA t (putA o a ka)).isSome = (getA t (putA o [] L.keys)).isSome
      rw [getA_put, getA_put]
      split
      · rfl
      · exact W.kk t
    ke := by
      show (putA o a ka).map (·.1) = (putA o [] L.keys).map (·.1)
      rw [keys_put, keys_put, W.ke]
    kv := fun t b y h1 h2 => by
      have h2 : getA t (putA o [] L.keys) = some y := h2
      rw [getA_put] at h2
      rcases g t b h1 with ⟨e, e2⟩ | ⟨e, h3⟩
      · rw [if_pos e] at h2
        cases h2
        rw [e2, upM_ne (fun z => fx (by rw [z]; simp)), upM_same]
        rfl
      · rw [if_neg e] at h2
        obtain ⟨u, hu⟩ := there t b h3
        rw [upM_ne (W.nx 4 rfl h3), upM_ne (old hu)]
        exact W.kv t b y h3 h2
    nd := W.nd
    ne := fun t b h => by
      rcases g t b h with ⟨e, e2⟩ | ⟨e, h3⟩
      · rw [e2]; exact fx
      · exact W.ne t b h3
    na := fun t t' b h h' => by
      rcases g t b h with ⟨e, e2⟩ | ⟨e, h3⟩
      · rcases g t' b h' with ⟨e', e2'⟩ | ⟨e', h3'⟩
        · rw [e, e']
        · obtain ⟨u, hu⟩ := there _ _ h3'
          exact absurd e2 (old hu)
      · rcases g t' b h' with ⟨e', e2'⟩ | ⟨e', h3'⟩
        · obtain ⟨u, hu⟩ := there _ _ h3
          exact absurd e2' (old hu)
        · exact W.na t t' b h3 h3'
    mf := W.mf
    ma := fun t b h => by
      rcases g t b h with ⟨e, e2⟩ | ⟨e, h3⟩
      · rw [e2]
        cases q : M0 a with
        | none => rfl
        | some u => rw [W.le a u q] at ha; cases ha
      · exact W.ma t b h3
    le := fun c u e => by
      rw [upM_ne (fun z => by subst z; rw [W.mf _ (by simp)] at e; cases e), upM_ne (old (W.le c u e))]
      exact W.le c u e
    wf := ⟨W.wf.last, W.wf.opn, W.wf.keys.put, W.wf.hold, W.wf.beg, fun t y h => by
      have h : getA t (putA o [] L.keys) = some y := h
      rw [getA_put] at h
      split at h
      · cases h; exact List.nodup_nil
      · exact W.wf.inn t y h⟩ }
/-- one of own_keys has a key more -/
theorem LedW.putK (W : LedW M0 M C p x ka L) {o k : Int} {a : Addr} {y : KeyL} (ha : getA o ka = some a) (hy : getA o L.keys = some y) : LedW M0 (upM M a (.dic (uS (putA k () y)))) C p x ka { L with keys := putA o (putA k () y) L.keys } :=
  { W with
    mp := (upM_ne (W.nx 0 rfl ha).symm).trans W.mp
    mr := (upM_ne (W.nx 1 rfl ha).symm).trans W.mr
    ml := (upM_ne (W.nx 2 rfl ha).symm).trans W.ml
    mo := (upM_ne (W.nx 3 rfl ha).symm).trans W.mo
    mk_ := (upM_ne (W.nx 4 rfl ha).symm).trans W.mk_
    mh := (upM_ne (W.nx 5 rfl ha).symm).trans W.mh
    mb := (upM_ne (W.nx 6 rfl ha).symm).trans W.mb
    kk := fun t => by
      show (getA t ka).isSome = (getA t (putA o (putA k () y) L.keys)).isSome
      rw [getA_put]
      split
      · rename_i e; rw [e, ha]; rfl
      · exact W.kk t
    ke := by
      show ka.map (·.1) = (putA o (putA k () y) L.keys).map (·.1)
      rw [keys_put, if_pos (getA_in (by rw [hy]; rfl)), W.ke]
    kv := fun t b z h1 h2 => by
      have h2 : getA t (putA o (putA k () y) L.keys) = some z := h2
      rw [getA_put] at h2
      split at h2
      · rename_i e
        rw [e, ha] at h1
        cases h1
        cases h2
        exact upM_same
      · rename_i e
        rw [upM_ne (fun q => e (W.na t o b h1 (by rw [q]; exact ha)))]
        exact W.kv t b z h1 h2
    le := fun c u e => by
      rw [upM_ne (fun z => by subst z; rw [W.ma _ _ ha] at e; cases e)]
      exact W.le c u e
    wf := ⟨W.wf.last, W.wf.opn, W.wf.keys.put, W.wf.hold, W.wf.beg, fun t z h => by
      have h : getA t (putA o (putA k () y) L.keys) = some z := h
      rw [getA_put] at h
      split at h
      · cases h; exact (W.wf.inn o y hy).put
      · exact W.wf.inn t z h⟩ }
/-- what it does not have may change, or be new -/
theorem LedW.le2 (W : LedW M0 M C p x ka L) {M' : Mem} (l : Le M M') : LedW M0 M' C p x ka L :=
  { W with mp := l _ _ W.mp, mr := l _ _ W.mr, ml := l _ _ W.ml, mo := l _ _ W.mo, mk_ := l _ _ W.mk_, mh := l _ _ W.mh, mb := l _ _ W.mb, kv := fun t a y h1 h2 => l _ _ (W.kv t a y h1 h2), le := W.le.trans l }
end
end LW

set_option Elab.async false
set_option linter.all false
set_option maxRecDepth 100000
set_option maxHeartbeats 4000000
namespace LW
open PySem PySem.Spec L2 DL
local macro_rules | `(tactic| walk_at "mem") => `(tactic| ((repeat rw [upM_ne (by assumption)]); first | exact upM_same | assumption))
local macro_rules | `(tactic| walk_at "look") => `(tactic| first | rfl | assumption | exact atI_map0 | exact atI_map1 | walk_at "mem" | (with_reducible apply lsOf_m; walk_at "mem") | (with_reducible apply sqOf_m; walk_at "mem") | (with_reducible apply rlOf_m; walk_at "mem") | (with_reducible apply sqOf'_m; walk_at "mem") | (with_reducible apply tru_l; walk_at "mem") | (with_reducible apply tru_d; walk_at "mem") | ((simp (discharger := assumption) only [sqOf, sqOf', rlOf, lsOf, tru, upM_same, upM_ne]) <;> rfl))
local macro_rules | `(tactic| walk_at "set") => `(tactic| (simp only [wipeD, List.set_cons_zero, List.set_cons_succ, List.set_nil]; rfl))
local macro_rules | `(tactic| walk_at "side") => `(tactic| first | omega | (simp only [List.length_map, List.length_cons, List.length_nil]; omega) | assumption | rfl | decide | exact ⟨by omega, by omega⟩ | exact Nat.le_of_ble_eq_true rfl)
local macro_rules | `(tactic| walk_at "head") => `(tactic| with_reducible conv => whnf)
local macro_rules | `(tactic| walk_at "step") => `(tactic| (walk_at "head"; first
  | ((with_reducible apply gN_go); (focus walk_at "set"))
  | ((with_reducible apply e1s); (focus rfl))
  | ((with_reducible apply e1); (focus walk_at "look"))
  | ((with_reducible apply e2); (focus walk_at "look"); (focus walk_at "look"))
  | ((with_reducible apply l1); (focus walk_at "look"))
  | ((with_reducible apply l2); (focus walk_at "look"); (focus walk_at "look"))
  | ((with_reducible apply e3); (focus walk_at "look"); (focus walk_at "look"); (focus walk_at "look"))
  | ((with_reducible apply e0a); (focus walk_at "look"))
  | ((with_reducible apply And.intro); (focus walk_at "side"))
  | ((with_reducible apply d1); (focus walk_at "look"))
  | ((with_reducible apply d2); (focus walk_at "look"); (focus walk_at "look"))
  | ((with_reducible apply d3); (focus walk_at "look"); (focus walk_at "look"); (focus walk_at "look"))
  | ((with_reducible apply d0); (focus walk_at "look"))
  | ((with_reducible apply lk1); (focus walk_at "look"))
  | with_reducible apply gw2_go
  | with_reducible apply gw3_go
  | with_reducible apply gs_go
  | with_reducible apply gt2_go
  | with_reducible apply gt3_go
  | with_reducible apply gt1_go
  | with_reducible apply gt4_go
  | with_reducible apply gt5_go
  | with_reducible apply gt6_go
  | with_reducible apply gt7_go
  | with_reducible apply gt8_go
  | with_reducible apply ift_go
  | with_reducible apply iff_go
  | ((with_reducible apply ifT_go); (focus rfl))
  | ((with_reducible apply ifF_go); (focus rfl))))
local macro_rules | `(tactic| walk_at "run") => `(tactic| (repeat walk_at "step"); walk_at "head")
local macro_rules | `(tactic| walk_at "start") => `(tactic| simp only [startD, List.map_cons, List.map_nil, List.length_cons, List.length_nil, List.replicate, List.cons_append, List.nil_append, Nat.reduceAdd, Nat.reduceSub, bodyK])
def cn_page : Cn := fun rs M R => ∃ q : Rc, rs = [.d q.d] ∧ R (.d (oD q.page)) M
def cn_owner : Cn := fun rs M R => ∃ (q : Rc) (n : Int), rs = [.d q.d, .i n] ∧ R (.d (oD (q.owner n))) M
def cn_todoR : Cn := fun rs M R => ∃ (q : Rc) (n : Int), rs = [.d q.d, .i n] ∧ R (.i (q.todo n)) M
section
variable {P : Program} {w : World} {K : PySem.W.Frag} {mg : Str → Option Value} {base : Heap}
theorem ok_page (T : Tx K mg) {f : Addr} {fd : FuncData} (Fu : Fun K "page_of" "page_of" s_page_of f fd) : FnD P w K mg base 1 f fd ["record"] cn_page := by
  refine fnD_of Fu sc_page_of (fun rs M R h => ?_) fun cdv A outer s H hgd hr => ⟨_, (pdb_cons (pds_if (pdt_cmp (o_eq hr.units) (pd_ix (pd_var 0) pd_int) pd_str (nomark _)) (pdb_one (pds_ret (pd_ix (pd_var 0) pd_int))) pdb_nil)
      (pdb_one (pds_ret (pd_if (pdt_cmp o_in (pd_ix (pd_var 0) pd_int) (pd_gD (by rfl) T.c_PAGED) (by rfl)) (pd_ix (pd_var 0) pd_int) pd_non)))), ?_⟩
  · obtain ⟨q, rfl, _⟩ := h
    rfl
  · rintro rs M R ⟨q, rfl, hk⟩
    walk_at "start"
    cases q <;> (walk_at "run"; exact upR.of hk)
theorem ok_owner (T : Tx K mg) {f : Addr} {fd : FuncData} (Fu : Fun K "owner_in" "owner_in" s_owner_in f fd) : FnD P w K mg base 1 f fd ["record", "lsn"] cn_owner := by
  refine fnD_of Fu sc_owner_in (fun rs M R h => ?_) fun cdv A outer s H hgd hr => ⟨_, (pdb_cons (pds_if (pdt_cmp o_in (pd_ix (pd_var 0) pd_int) (pd_gD (by rfl) T.c_UNOWNED) (by rfl)) (pdb_one (pds_ret pd_non)) pdb_nil)
      (pdb_cons (pds_if (pdt_cmp (o_eq hr.units) (pd_ix (pd_var 0) pd_int) pd_str (nomark _)) (pdb_one (pds_ret (pd_var 1))) pdb_nil)
      (pdb_one (pds_ret (pd_if (pdt_cmp (o_eq hr.units) (pd_ix (pd_var 0) pd_int) pd_str (nomark _)) pd_int (pd_ix (pd_var 0) pd_int)))))), ?_⟩
  · obtain ⟨q, n, rfl, _⟩ := h
    rfl
  · rintro rs M R ⟨q, n, rfl, hk⟩
    walk_at "start"
    cases q <;> (walk_at "run"; exact upR.of hk)
theorem ok_todoR (T : Tx K mg) {f : Addr} {fd : FuncData} (Fu : Fun K "todo_of_record" "todo_of_record" s_todo_of_record f fd) : FnD P w K mg base 1 f fd ["record", "lsn"] cn_todoR := by
  refine fnD_of Fu sc_todo_of_record (fun rs M R h => ?_) fun cdv A outer s H hgd hr => ⟨_, (pdb_cons (pds_if (pdt_cmp o_in (pd_ix (pd_var 0) pd_int) (pd_gD (by rfl) T.c_UNDOABLE) (by rfl)) (pdb_one (pds_ret (pd_var 1))) pdb_nil)
      (pdb_one (pds_ret (pd_if (pdt_cmp o_in (pd_ix (pd_var 0) pd_int) (pd_gD (by rfl) T.c_SKIPPING) (by rfl)) (pd_ix (pd_var 0) (pd_neg pd_int)) pd_int)))), ?_⟩
  · obtain ⟨q, n, rfl, _⟩ := h
    rfl
  · rintro rs M R ⟨q, n, rfl, hk⟩
    walk_at "start"
    cases q <;> (walk_at "run"; exact upR.of hk)
end
end LW

set_option Elab.async false
set_option linter.all false
set_option maxRecDepth 100000
set_option maxHeartbeats 4000000
namespace LW
open PySem PySem.Spec L2 DL
local macro_rules | `(tactic| walk_at "mem") => `(tactic| ((repeat rw [upM_ne (by assumption)]); first | exact upM_same | assumption))
local macro_rules | `(tactic| walk_at "look") => `(tactic| first | rfl | assumption | exact atI_map0 | exact atI_map1 | walk_at "mem" | (with_reducible apply lsOf_m; walk_at "mem") | (with_reducible apply sqOf_m; walk_at "mem") | (with_reducible apply rlOf_m; walk_at "mem") | (with_reducible apply sqOf'_m; walk_at "mem") | (with_reducible apply tru_l; walk_at "mem") | (with_reducible apply tru_d; walk_at "mem") | ((simp (discharger := assumption) only [sqOf, sqOf', rlOf, lsOf, tru, upM_same, upM_ne]) <;> rfl))
local macro_rules | `(tactic| walk_at "set") => `(tactic| (simp only [wipeD, List.set_cons_zero, List.set_cons_succ, List.set_nil]; rfl))
local macro_rules | `(tactic| walk_at "side") => `(tactic| first | omega | (simp only [List.length_map, List.length_cons, List.length_nil]; omega) | assumption | rfl | decide | exact ⟨by omega, by omega⟩ | exact Nat.le_of_ble_eq_true rfl)
local macro_rules | `(tactic| walk_at "head") => `(tactic| with_reducible conv => whnf)
local macro_rules | `(tactic| walk_at "step") => `(tactic| (walk_at "head"; first
  | ((with_reducible apply gN_go); (focus walk_at "set"))
  | ((with_reducible apply e1s); (focus rfl))
  | ((with_reducible apply e1); (focus walk_at "look"))
  | ((with_reducible apply e2); (focus walk_at "look"); (focus walk_at "look"))
  | ((with_reducible apply l1); (focus walk_at "look"))
  | ((with_reducible apply l2); (focus walk_at "look"); (focus walk_at "look"))
  | ((with_reducible apply e3); (focus walk_at "look"); (focus walk_at "look"); (focus walk_at "look"))
  | ((with_reducible apply e0a); (focus walk_at "look"))
  | ((with_reducible apply And.intro); (focus walk_at "side"))
  | ((with_reducible apply d1); (focus walk_at "look"))
  | ((with_reducible apply d2); (focus walk_at "look"); (focus walk_at "look"))
  | ((with_reducible apply d3); (focus walk_at "look"); (focus walk_at "look"); (focus walk_at "look"))
  | ((with_reducible apply d0); (focus walk_at "look"))
  | ((with_reducible apply lk1); (focus walk_at "look"))
  | with_reducible apply gw2_go
  | with_reducible apply gw3_go
  | with_reducible apply gs_go
  | with_reducible apply gt2_go
  | with_reducible apply gt3_go
  | with_reducible apply gt1_go
  | with_reducible apply gt4_go
  | with_reducible apply gt5_go
  | with_reducible apply gt6_go
  | with_reducible apply gt7_go
  | with_reducible apply gt8_go
  | with_reducible apply ift_go
  | with_reducible apply iff_go
  | ((with_reducible apply ifT_go); (focus rfl))
  | ((with_reducible apply ifF_go); (focus rfl))))
local macro_rules | `(tactic| walk_at "run") => `(tactic| (repeat walk_at "step"); walk_at "head")
local macro_rules | `(tactic| walk_at "start") => `(tactic| simp only [startD, List.map_cons, List.map_nil, List.length_cons, List.length_nil, List.replicate, List.cons_append, List.nil_append, Nat.reduceAdd, Nat.reduceSub, bodyK])
theorem fld_go {M : Mem} {C p : Addr} {fs : FS} {f : Str} {y : Sl} {Q : Sl → Prop} (h : M p = some (.ob C fs)) (l : lkF fs f = some y) (k : Q y) : ∃ pf y, obOf M C (.v (.ref p)) = some pf ∧ lkF pf.2 f = some y ∧ Q y := ⟨(p, fs), y, obOf_m h, l, k⟩
theorem meth_go {M : Mem} {C p : Addr} {fs : FS} {m : Str} {Q : Prop} (h : M p = some (.ob C fs)) (l : lkF fs m = none) (k : Q) : ∃ pf : Addr × FS, obOf M C (.v (.ref p)) = some pf ∧ lkF pf.2 m = none ∧ Q := ⟨(p, fs), obOf_m h, l, k⟩
theorem kS_len {A : Type} {f : A → Sl} (l : List (Int × A)) : (kS f l).length = l.length := by unfold kS; rw [List.length_map]
local macro_rules | `(tactic| walk_at "side") => `(tactic| (rw [kS_len, sizeLine_eq]; omega))
local macro_rules | `(tactic| walk_at "step") => `(tactic| (walk_at "head"; first | ((with_reducible apply fld_go); (focus walk_at "mem"); (focus rfl)) | ((with_reducible apply meth_go); (focus walk_at "mem"); (focus rfl))))
structure Lg.Sz (L : Lg) (n : Nat) : Prop where
  last : L.last.length ≤ n
  opn : L.opn.length ≤ n
  keys : L.keys.length ≤ n
  hold : L.hold.length ≤ n
  beg : L.beg.length ≤ n
  inn : ∀ t y, getA t L.keys = some y → y.length ≤ n
theorem len_put {A : Type} {k : Int} {a : A} : ∀ l : List (Int × A), (putA k a l).length ≤ l.length + 1
  | [] => Nat.le_refl _
  | (i, b) :: r => by
    have := len_put (k := k) (a := a) r
    rw [putA]
    split
    · simp
    · simp only [List.length_cons]; omega
theorem len_drop {A : Type} {k : Int} (l : List (Int × A)) : (dropA k l).length ≤ l.length := by rw [dropA_eq]; exact List.length_filter_le _ _
theorem len_freed : ∀ (ks : KeyL) (h : List (Int × Int)), (freed ks h).length ≤ h.length
  | [], _ => Nat.le_refl _
  | (k, _) :: r, h => Nat.le_trans (len_freed r _) (len_drop h)
theorem putA_putA {A : Type} {o : Int} {a b : A} : ∀ l : List (Int × A), putA o a (putA o b l) = putA o a l
  | [] => by simp [putA]
  | (i, c) :: r => by
    have ih := putA_putA (o := o) (a := a) (b := b) r
    rw [putA, putA]
    split
    · rw [putA, if_pos (by assumption)]
    · rw [putA, if_neg (by assumption), ih]
section
variable {M0 M : Mem} {C p : Addr} {x : Ad} {ka : List (Int × Addr)} {L : Lg}
theorem LedW.len (W : LedW M0 M C p x ka L) : ka.length = L.keys.length := by simpa using congrArg List.length W.ke
/-- something else changes -/
theorem LedW.other (W : LedW M0 M C p x ka L) {b : Addr} {o : MO} (h1 : b ∉ [p, x.r, x.l, x.o, x.k, x.h, x.b]) (h2 : ∀ t, getA t ka ≠ some b) (h3 : M0 b = none) : LedW M0 (upM M b o) C p x ka L := by
  have f : ∀ i c, [p, x.r, x.l, x.o, x.k, x.h, x.b][i]? = some c → c ≠ b := fun i c h e => h1 (by rw [← e]; exact List.mem_of_getElem? h)
  exact
  { W with
    mp := (upM_ne (f 0 _ rfl)).trans W.mp
    mr := (upM_ne (f 1 _ rfl)).trans W.mr
    ml := (upM_ne (f 2 _ rfl)).trans W.ml
    mo := (upM_ne (f 3 _ rfl)).trans W.mo
    mk_ := (upM_ne (f 4 _ rfl)).trans W.mk_
    mh := (upM_ne (f 5 _ rfl)).trans W.mh
    mb := (upM_ne (f 6 _ rfl)).trans W.mb
    kv := fun t a y q1 q2 => (upM_ne (fun e => h2 t (by rw [← e]; exact q1))).trans (W.kv t a y q1 q2)
    le := fun c u e => by rw [upM_ne (fun z => by subst z; rw [h3] at e; cases e)]; exact W.le c u e }
theorem LedW.have (W : LedW M0 M C p x ka L) {o : Int} {b : Addr} (h : getA o ka = some b) : ∃ y, getA o L.keys = some y ∧ M b = some (.dic (uS y)) := by
  have := W.kk o
  rw [h] at this
  cases e : getA o L.keys with
  | none => rw [e] at this; cases this
  | some y => exact ⟨y, rfl, W.kv o b y h e⟩
theorem LedW.lack (W : LedW M0 M C p x ka L) {o : Int} (h : getA o ka = none) : getA o L.keys = none := by
  have := W.kk o
  rw [h] at this
  cases e : getA o L.keys with
  | none => rfl
  | some y => rw [e] at this; cases this
end
theorem LedW.popK {M0 M : Mem} {C p : Addr} {x : Ad} {ka : List (Int × Addr)} {L : Lg} (W : LedW M0 M C p x ka L) {a : Addr} (ha : M a = none) (o : Int) : ∃ b y, ((getA o ka).map fun a => Sl.v (.ref a)).getD (.v (.ref a)) = .v (.ref b) ∧ upM M a (.dic []) b = some (.dic (uS y)) ∧ (getA o L.keys).getD [] = y ∧ b ∉ [p, x.r, x.l, x.o, x.k, x.h, x.b] ∧ (∀ t, getA t (dropA o ka) ≠ some b) ∧ M0 b = none := by
  have old : ∀ {c : Addr} {u : MO}, M c = some u → c ≠ a := fun h e => by subst e; rw [ha] at h; cases h
  cases hb : getA o ka with
  | none =>
    refine ⟨a, [], rfl, upM_same, by rw [W.lack hb]; rfl, fun h => ?_, fun t h => ?_, ?_⟩
    · simp only [List.mem_cons, List.not_mem_nil, or_false] at h
      rcases h with e | e | e | e | e | e | e
      · exact old W.mp e.symm
      · exact old W.mr e.symm
      · exact old W.ml e.symm
      · exact old W.mo e.symm
      · exact old W.mk_ e.symm
      · exact old W.mh e.symm
      · exact old W.mb e.symm
    · rw [getA_drop] at h
      split at h
      · cases h
      · obtain ⟨y, _, q⟩ := W.have h
        exact old q rfl
    · cases q : M0 a with
      | none => rfl
      | some u => rw [W.le a u q] at ha; cases ha
  | some b =>
    obtain ⟨y, hy, hm⟩ := W.have hb
    refine ⟨b, y, rfl, (upM_ne (old hm)).trans hm, by rw [hy]; rfl, W.ne _ _ hb, fun t h => ?_, W.ma _ _ hb⟩
    rw [getA_drop] at h
    split at h
    · cases h
    · rename_i e
      exact e (W.na _ _ _ h hb)
def cn_note (C : Addr) : Cn := fun rs M R => ∃ p q o n M0 x ka L, rs = [.v (.ref p), .d (Rc.d q), .i o, .i n] ∧ LedW M0 M C p x ka L ∧ L.Sz 100000 ∧ ∀ M' ka', LedW M0 M' C p x ka' (L.note o n q) → R .n M'
section
variable {P : Program} {w : World} {K : PySem.W.Frag} {mg : Str → Option Value} {base : Heap} {C : Addr}
theorem ok_note (T : Tx K mg) (L_Ledger : CL_Ledger K mg C) {f : Addr} {fd : FuncData} (Fu : Fun K "note" "Ledger.note" s_Ledger_note f fd) : FnD P w K mg base 1 f fd ["self", "record", "owner", "lsn"] (cn_note C) := by
  refine fnD_of Fu sc_Ledger_note (fun rs M R h => ?_) fun cdv A outer s H hgd hr => ⟨_, (pdb_one (pds_if (pdt_cmp (o_eq hr.units) (pd_ix (pd_var 1) pd_int) pd_str (nomark _)) (pdb_one (pds_dput (hu_of hr) (pd_fld L_Ledger.cl L_Ledger.na_own_open (pd_var 0)) (pd_var 2) pd_bl)) (pdb_one (pds_if (pdt_cmp o_in (pd_ix (pd_var 1) pd_int) (pd_tup (pda_cons pd_str (pda_cons pd_str pda_nil))) (by rfl)) (pdb_one (pds_dput (hu_of hr) (pd_fld L_Ledger.cl L_Ledger.na_own_begun (pd_var 0)) (pd_var 2) (pd_var 3))) (pdb_one (pds_if (pdt_cmp (o_eq hr.units) (pd_ix (pd_var 1) pd_int) pd_str (nomark _)) (pdb_cons (pds_dput (hu_of hr) (pd_setD (pd_fld L_Ledger.cl L_Ledger.na_own_keys (pd_var 0)) (pd_var 2) pd_dict0) (pd_ix (pd_var 1) pd_int) pd_bl)
      (pdb_one (pds_dput (hu_of hr) (pd_fld L_Ledger.cl L_Ledger.na_own_holders (pd_var 0)) (pd_ix (pd_var 1) pd_int) (pd_var 2)))) (pdb_one (pds_if (pdt_cmp o_in (pd_ix (pd_var 1) pd_int) (pd_gD (by rfl) T.c_LAST) (by rfl)) (pdb_cons (pds_expr (pd_dpop2 (pd_fld L_Ledger.cl L_Ledger.na_own_open (pd_var 0)) (pd_var 2) pd_non))
      (pdb_one (pds_for PassesOwn.never rfl (pdi_keys (pd_lockF (pd_dpop2 (pd_fld L_Ledger.cl L_Ledger.na_own_keys (pd_var 0)) (pd_var 2) pd_dict0))) (pdg_name 4 sc_Ledger_note.nd) (pdb_one (pds_expr (pd_dpop2 (pd_fld L_Ledger.cl L_Ledger.na_own_holders (pd_var 0)) (pd_var 4) pd_non)))))) pdb_nil)))))))), ?_⟩
  · obtain ⟨p, q, o, n, M0, x, ka, L, rfl, _⟩ := h
    rfl
  · rintro rs M R ⟨p, q, o, n, M0, x, ka, L, rfl, W, z, hk⟩
    walk_at "start"
    have z1 := z.opn
    have z2 := z.keys
    have z3 := z.hold
    have z4 := z.beg
    have zka : ∀ (b : Addr) (y : KeyL), getA o L.keys = some y → y.length ≤ 100000 := fun _ y h => z.inn o y h
    cases q
    case beg =>
      have m1 := W.mp
      have m2 := W.mo
      walk_at "run"
      rw [putS_k (f := fun _ : Unit => Sl.b true) (a := ()) W.wf.opn]
      exact upR.of (hk _ ka (W.setO _ W.wf.opn.put))
    case room =>
      have m1 := W.mp
      have m5 := W.mb
      walk_at "run"
      rw [putS_k (f := Sl.i) W.wf.beg]
      exact upR.of (hk _ ka (W.setB _ W.wf.beg.put))
    case free =>
      have m1 := W.mp
      have m5 := W.mb
      walk_at "run"
      rw [putS_k (f := Sl.i) W.wf.beg]
      exact upR.of (hk _ ka (W.setB _ W.wf.beg.put))
    case put t l pg k o' n' =>
      have m1 := W.mp
      have m3 := W.mk_
      walk_at "run"
      intro a ha
      have W1 := W.le2 (Le.up (o := .dic []) (Le.refl M) ha)
      refine ⟨aS ka, _, W1.mk_, rfl, by rw [kS_len, W.len, sizeLine_eq]; omega, fun r hr => ?_, fun hn => ?_⟩
      · rw [valS_k] at hr
        cases hb : getA o ka with
        | none => rw [hb] at hr; cases hr
        | some b =>
          rw [hb] at hr
          cases hr
          obtain ⟨y, hy, hm⟩ := W1.have hb
          have zy := z.inn o y hy
          have z9 : L.hold.length ≤ 100000 := z.hold
          clear m1 m3 W
          generalize upM M a (.dic []) = M2 at *
          have m1 := W1.mp
          have m4 := W1.mh
          have n1 := W1.nx 0 rfl hb
          have n2 := n1.symm
          have n3 := W1.nx 5 rfl hb
          have n4 := n3.symm
          walk_at "run"
          rw [putS_k (f := fun _ : Unit => Sl.b true) (a := ()) (W1.wf.inn o y hy), putS_k (f := Sl.i) W1.wf.hold]
          refine upR.of (hk _ ka ?_)
          have e : L.note o n (.put t l pg k o' n') = { L with keys := putA o (putA k () y) L.keys, hold := putA k o L.hold } := by
            show { L with keys := putA o (putA k () ((getA o L.keys).getD [])) L.keys, hold := putA k o L.hold } = _
            rw [hy]; rfl
          rw [e]
          exact (W1.putK hb hy).setH _ W1.wf.hold.put
      · rw [valS_k] at hn
        have hb : getA o ka = none := by
          cases e : getA o ka with
          | none => rfl
          | some b => rw [e] at hn; cases hn
        have hL := W.lack hb
        rw [putS_k (f := fun a : Addr => Sl.v (.ref a)) W.nka]
        have W2 := W.newK hb ha
        have z9 : L.hold.length ≤ 100000 := z.hold
        clear m1 m3 W W1
        generalize upM (upM M a (.dic [])) x.k (.dic (aS (putA o a ka))) = M2 at *
        have hb2 : getA o (putA o a ka) = some a := by rw [getA_put, if_pos rfl]
        obtain ⟨y, hy, hm⟩ := W2.have hb2
        have hy0 : y = [] := by
          have hy : getA o (putA o [] L.keys) = some y := hy
          rw [getA_put, if_pos rfl] at hy
          cases hy
          rfl
        subst hy0
        have m1 := W2.mp
        have m4 : M2 x.h = some (.dic (iS L.hold)) := W2.mh
        have n1 := W2.nx 0 rfl hb2
        have n2 := n1.symm
        have n3 := W2.nx 5 rfl hb2
        have n4 := n3.symm
        walk_at "run"
        rw [putS_k (f := fun _ : Unit => Sl.b true) (a := ()) (l := []) List.nodup_nil, putS_k (f := Sl.i) W2.wf.hold]
        refine upR.of (hk _ (putA o a ka) ?_)
        have e : L.note o n (.put t l pg k o' n') = { L with keys := putA o (putA k () []) (putA o [] L.keys), hold := putA k o L.hold } := by
          show { L with keys := putA o (putA k () ((getA o L.keys).getD [])) L.keys, hold := putA k o L.hold } = _
          rw [hL, putA_putA]; rfl
        rw [e]
        exact (W2.putK hb2 hy).setH _ W2.wf.hold.put
    case commit t l =>
      have m1 := W.mp
      have m2 := W.mo
      have n0 := ne_nd W.nd 0 3 rfl rfl (by decide)
      walk_at "run"
      rw [dropS_k]
      have W1 := W.setO _ (W.wf.opn.drop (k := o))
      clear m1 m2 n0
      generalize upM M x.o (.dic (uS (dropA o L.opn))) = M1 at *
      have m1 := W1.mp
      have m3 := W1.mk_
      walk_at "run"
      intro a ha
      have W2 := W1.le2 (Le.up (o := .dic []) (Le.refl M1) ha)
      refine ⟨aS ka, .inl o, _, W2.mk_, rfl, rfl, ?_⟩
      rw [valS_k, dropS_k]
      obtain ⟨b, y, hr, hm, hy, f1, f2, f3⟩ := W1.popK ha o
      rw [hr]
      have W3 := W2.dropK o
      have nk : b ≠ x.k := fun e => f1 (by rw [e]; simp)
      have nh : b ≠ x.h := fun e => f1 (by rw [e]; simp)
      have hm3 := (upM_ne (o := .dic (aS (dropA o ka))) nk).trans hm
      clear m1 m3 hm hr W W1 W2
      generalize upM (upM M1 a (.dic [])) x.k (.dic (aS (dropA o ka))) = M3 at *
      walk_at "head"
      refine ⟨uS y, hm3, fun od kvs => ?_⟩
      walk_at "head"
      refine ⟨od, kvs, uS y, upM_same, ?_⟩
      have W4 := W3.other (o := .lok od kvs (uS y)) f1 f2 f3
      have hm4 : upM M3 b (.lok od kvs (uS y)) b = some (.lok od kvs (uS y)) := upM_same
      clear W3 hm3
      generalize upM M3 b (.lok od kvs (uS y)) = M4 at *
      rw [show (uS y).map (fun k => kSl k.1) = y.map (fun z => Sl.i z.1) from by unfold uS kS; rw [List.map_map]; rfl]
      refine for_ind (fun rest dl M' => ∃ (r : KeyL) (hd : List (Int × Int)) (v : Option Sl), rest = r.map (fun z => Sl.i z.1) ∧ LedW M0 M' C p x (dropA o ka) ⟨L.recs, L.last, dropA o L.opn, dropA o L.keys, hd, L.beg⟩ ∧ freed r hd = freed y L.hold ∧ M' b = some (.lok od kvs (uS y)) ∧ dl = [some (.v (.ref p)), some (.d (Rc.commit t l).d), some (.i o), some (.i n), v]) ?_ ?_ ⟨y, L.hold, _, rfl, W4, rfl, hm4, rfl⟩
      · rintro dl M' ⟨r, hd, v, e, W5, e2, m, rfl⟩
        cases r with
        | cons z r => cases e
        | nil =>
          refine ⟨m, upR.of (hk _ (dropA o ka) ?_)⟩
          have e2 : hd = freed y L.hold := e2
          subst e2
          have e3 : L.note o n (.commit t l) = ⟨L.recs, L.last, dropA o L.opn, dropA o L.keys, freed y L.hold, L.beg⟩ := by
            show (⟨L.recs, L.last, dropA o L.opn, dropA o L.keys, freed ((getA o L.keys).getD []) L.hold, L.beg⟩ : Lg) = _
            rw [hy]
          rw [e3]
          exact W5
      · rintro z xs nx dl M' hnx ⟨r, hd, v, e, W5, e2, m, rfl⟩
        cases r with
        | nil => cases e
        | cons q r =>
          cases e
          refine ⟨m, ?_⟩
          have m1 := W5.mp
          have m4 : M' x.h = some (.dic (iS hd)) := W5.mh
          walk_at "run"
          rw [dropS_k]
          exact hnx _ _ ⟨r, dropA q.1 hd, _, rfl, W5.setH _ (W5.wf.hold.drop (k := q.1)), e2, (upM_ne nh).trans m, rfl⟩
    case fin t l =>
      have m1 := W.mp
      have m2 := W.mo
      have n0 := ne_nd W.nd 0 3 rfl rfl (by decide)
      walk_at "run"
      rw [dropS_k]
      have W1 := W.setO _ (W.wf.opn.drop (k := o))
      clear m1 m2 n0
      generalize upM M x.o (.dic (uS (dropA o L.opn))) = M1 at *
      have m1 := W1.mp
      have m3 := W1.mk_
      walk_at "run"
      intro a ha
      have W2 := W1.le2 (Le.up (o := .dic []) (Le.refl M1) ha)
      refine ⟨aS ka, .inl o, _, W2.mk_, rfl, rfl, ?_⟩
      rw [valS_k, dropS_k]
      obtain ⟨b, y, hr, hm, hy, f1, f2, f3⟩ := W1.popK ha o
      rw [hr]
      have W3 := W2.dropK o
      have nk : b ≠ x.k := fun e => f1 (by rw [e]; simp)
      have nh : b ≠ x.h := fun e => f1 (by rw [e]; simp)
      have hm3 := (upM_ne (o := .dic (aS (dropA o ka))) nk).trans hm
      clear m1 m3 hm hr W W1 W2
      generalize upM (upM M1 a (.dic [])) x.k (.dic (aS (dropA o ka))) = M3 at *
      walk_at "head"
      refine ⟨uS y, hm3, fun od kvs => ?_⟩
      walk_at "head"
      refine ⟨od, kvs, uS y, upM_same, ?_⟩
      have W4 := W3.other (o := .lok od kvs (uS y)) f1 f2 f3
      have hm4 : upM M3 b (.lok od kvs (uS y)) b = some (.lok od kvs (uS y)) := upM_same
      clear W3 hm3
      generalize upM M3 b (.lok od kvs (uS y)) = M4 at *
      rw [show (uS y).map (fun k => kSl k.1) = y.map (fun z => Sl.i z.1) from by unfold uS kS; rw [List.map_map]; rfl]
      refine for_ind (fun rest dl M' => ∃ (r : KeyL) (hd : List (Int × Int)) (v : Option Sl), rest = r.map (fun z => Sl.i z.1) ∧ LedW M0 M' C p x (dropA o ka) ⟨L.recs, L.last, dropA o L.opn, dropA o L.keys, hd, L.beg⟩ ∧ freed r hd = freed y L.hold ∧ M' b = some (.lok od kvs (uS y)) ∧ dl = [some (.v (.ref p)), some (.d (Rc.fin t l).d), some (.i o), some (.i n), v]) ?_ ?_ ⟨y, L.hold, _, rfl, W4, rfl, hm4, rfl⟩
      · rintro dl M' ⟨r, hd, v, e, W5, e2, m, rfl⟩
        cases r with
        | cons z r => cases e
        | nil =>
          refine ⟨m, upR.of (hk _ (dropA o ka) ?_)⟩
          have e2 : hd = freed y L.hold := e2
          subst e2
          have e3 : L.note o n (.fin t l) = ⟨L.recs, L.last, dropA o L.opn, dropA o L.keys, freed y L.hold, L.beg⟩ := by
            show (⟨L.recs, L.last, dropA o L.opn, dropA o L.keys, freed ((getA o L.keys).getD []) L.hold, L.beg⟩ : Lg) = _
            rw [hy]
          rw [e3]
          exact W5
      · rintro z xs nx dl M' hnx ⟨r, hd, v, e, W5, e2, m, rfl⟩
        cases r with
        | nil => cases e
        | cons q r =>
          cases e
          refine ⟨m, ?_⟩
          have m1 := W5.mp
          have m4 : M' x.h = some (.dic (iS hd)) := W5.mh
          walk_at "run"
          rw [dropS_k]
          exact hnx _ _ ⟨r, dropA q.1 hd, _, rfl, W5.setH _ (W5.wf.hold.drop (k := q.1)), e2, (upM_ne nh).trans m, rfl⟩
    all_goals (walk_at "run"; exact upR.of (hk _ ka W))
end
end LW

set_option Elab.async false
set_option linter.all false
set_option maxRecDepth 100000
set_option maxHeartbeats 4000000
namespace LW
open PySem PySem.Spec L2 DL
local macro_rules | `(tactic| walk_at "mem") => `(tactic| ((repeat rw [upM_ne (by assumption)]); first | exact upM_same | assumption))
local macro_rules | `(tactic| walk_at "look") => `(tactic| first | rfl | assumption | exact atI_map0 | exact atI_map1 | walk_at "mem" | (with_reducible apply lsOf_m; walk_at "mem") | (with_reducible apply sqOf_m; walk_at "mem") | (with_reducible apply rlOf_m; walk_at "mem") | (with_reducible apply sqOf'_m; walk_at "mem") | (with_reducible apply tru_l; walk_at "mem") | (with_reducible apply tru_d; walk_at "mem") | ((simp (discharger := assumption) only [sqOf, sqOf', rlOf, lsOf, tru, upM_same, upM_ne]) <;> rfl))
local macro_rules | `(tactic| walk_at "set") => `(tactic| (simp only [wipeD, List.set_cons_zero, List.set_cons_succ, List.set_nil]; rfl))
local macro_rules | `(tactic| walk_at "side") => `(tactic| first | omega | (simp only [List.length_map, List.length_cons, List.length_nil]; omega) | assumption | rfl | decide | exact ⟨by omega, by omega⟩ | exact Nat.le_of_ble_eq_true rfl)
local macro_rules | `(tactic| walk_at "head") => `(tactic| with_reducible conv => whnf)
local macro_rules | `(tactic| walk_at "step") => `(tactic| (walk_at "head"; first
  | ((with_reducible apply gN_go); (focus walk_at "set"))
  | ((with_reducible apply e1s); (focus rfl))
  | ((with_reducible apply e1); (focus walk_at "look"))
  | ((with_reducible apply e2); (focus walk_at "look"); (focus walk_at "look"))
  | ((with_reducible apply l1); (focus walk_at "look"))
  | ((with_reducible apply l2); (focus walk_at "look"); (focus walk_at "look"))
  | ((with_reducible apply e3); (focus walk_at "look"); (focus walk_at "look"); (focus walk_at "look"))
  | ((with_reducible apply e0a); (focus walk_at "look"))
  | ((with_reducible apply And.intro); (focus walk_at "side"))
  | ((with_reducible apply d1); (focus walk_at "look"))
  | ((with_reducible apply d2); (focus walk_at "look"); (focus walk_at "look"))
  | ((with_reducible apply d3); (focus walk_at "look"); (focus walk_at "look"); (focus walk_at "look"))
  | ((with_reducible apply d0); (focus walk_at "look"))
  | ((with_reducible apply lk1); (focus walk_at "look"))
  | with_reducible apply gw2_go
  | with_reducible apply gw3_go
  | with_reducible apply gs_go
  | with_reducible apply gt2_go
  | with_reducible apply gt3_go
  | with_reducible apply gt1_go
  | with_reducible apply gt4_go
  | with_reducible apply gt5_go
  | with_reducible apply gt6_go
  | with_reducible apply gt7_go
  | with_reducible apply gt8_go
  | with_reducible apply ift_go
  | with_reducible apply iff_go
  | ((with_reducible apply ifT_go); (focus rfl))
  | ((with_reducible apply ifF_go); (focus rfl))))
local macro_rules | `(tactic| walk_at "run") => `(tactic| (repeat walk_at "step"); walk_at "head")
local macro_rules | `(tactic| walk_at "start") => `(tactic| simp only [startD, List.map_cons, List.map_nil, List.length_cons, List.length_nil, List.replicate, List.cons_append, List.nil_append, Nat.reduceAdd, Nat.reduceSub, bodyK])
local macro_rules | `(tactic| walk_at "side") => `(tactic| (rw [kS_len, sizeLine_eq]; omega))
local macro_rules | `(tactic| walk_at "step") => `(tactic| (walk_at "head"; first | ((with_reducible apply fld_go); (focus walk_at "mem"); (focus rfl)) | ((with_reducible apply meth_go); (focus walk_at "mem"); (focus rfl))))
/-! ### made of tuples alone -/
mutual
def tupO : PyData → Bool
  | .list _ => false
  | .dict _ => false
  | .tuple xs => tupOs xs
  | _ => true
def tupOs : List PyData → Bool
  | [] => true
  | x :: r => tupO x && tupOs r
end
mutual
theorem tp_id : ∀ {d : PyData}, tupO d = true → tpD d = d
  | .none, _ => rfl
  | .bool _, _ => rfl
  | .int _, _ => rfl
  | .str _, _ => rfl
  | .tuple xs, h => by rw [tupO] at h; rw [tpD, tps_id h]
  | .list _, h => by cases h
  | .dict _, h => by cases h
theorem tps_id : ∀ {ds : List PyData}, tupOs ds = true → tpDs ds = ds
  | [], _ => rfl
  | x :: r, h => by rw [tupOs, Bool.and_eq_true] at h; rw [tpDs, tp_id h.1, tps_id h.2]
end
structure Rc.Ok (q : Rc) : Prop where
  tup : tupO q.d = true
  dep : q.d.depth ≤ 7
  size : sz WD q.d ≤ 2000
theorem Lg.add_recs (L : Lg) (q : Rc) : (L.add q).recs = L.recs ++ [q] := by
  unfold Lg.add
  split
  · rfl
  · cases q <;> rfl
theorem Lg.Sz.mono {L : Lg} {n m : Nat} (h : L.Sz n) (l : n ≤ m) : L.Sz m := ⟨Nat.le_trans h.last l, Nat.le_trans h.opn l, Nat.le_trans h.keys l, Nat.le_trans h.hold l, Nat.le_trans h.beg l, fun t y e => Nat.le_trans (h.inn t y e) l⟩
theorem Lg.Sz.note {L : Lg} {n : Nat} (h : L.Sz n) (o i : Int) (q : Rc) : (L.note o i q).Sz (n + 1) := by
  have h1 := h.mono (Nat.le_succ n)
  have hd : ∀ t y, getA t (dropA o L.keys) = some y → y.length ≤ n + 1 := fun t y e => by
    rw [getA_drop] at e
    split at e
    · cases e
    · exact h1.inn t y e
  cases q with
  | beg => exact ⟨h1.last, Nat.le_trans (len_put _) (Nat.succ_le_succ h.opn), h1.keys, h1.hold, h1.beg, h1.inn⟩
  | room => exact ⟨h1.last, h1.opn, h1.keys, h1.hold, Nat.le_trans (len_put _) (Nat.succ_le_succ h.beg), h1.inn⟩
  | free => exact ⟨h1.last, h1.opn, h1.keys, h1.hold, Nat.le_trans (len_put _) (Nat.succ_le_succ h.beg), h1.inn⟩
  | put t l p k o' n' =>
    refine ⟨h1.last, h1.opn, Nat.le_trans (len_put _) (Nat.succ_le_succ h.keys), Nat.le_trans (len_put _) (Nat.succ_le_succ h.hold), h1.beg, fun t y e => ?_⟩
    have e : getA t (putA o (putA k () ((getA o L.keys).getD [])) L.keys) = some y := e
    rw [getA_put] at e
    split at e
    · cases e
      refine Nat.le_trans (len_put _) (Nat.succ_le_succ ?_)
      cases g : getA o L.keys with
      | none => exact Nat.zero_le _
      | some z => exact h.inn o z g
    · exact h1.inn t y e
  | commit => exact ⟨h1.last, Nat.le_trans (len_drop _) h1.opn, Nat.le_trans (len_drop _) h1.keys, Nat.le_trans (len_freed _ _) h1.hold, h1.beg, hd⟩
  | fin => exact ⟨h1.last, Nat.le_trans (len_drop _) h1.opn, Nat.le_trans (len_drop _) h1.keys, Nat.le_trans (len_freed _ _) h1.hold, h1.beg, hd⟩
  | undo => exact h1
  | shape => exact h1
  | unshape => exact h1
  | closed => exact h1
  | clean => exact h1
  | check => exact h1
  | checked => exact h1
  | restart => exact h1
theorem Lg.Sz.add {L : Lg} {n : Nat} (h : L.Sz n) (q : Rc) : (L.add q).Sz (n + 2) := by
  unfold Lg.add
  split
  · exact Lg.Sz.mono (L := L.lay q) ⟨h.last, h.opn, h.keys, h.hold, h.beg, h.inn⟩ (by omega)
  · rename_i o e
    have h1 := h.mono (Nat.le_succ n)
    exact Lg.Sz.note (L := ⟨L.recs ++ [q], putA o (L.recs.length + 1) L.last, L.opn, L.keys, L.hold, L.beg⟩) (n := n + 1) ⟨Nat.le_trans (len_put _) (Nat.succ_le_succ h.last), h1.opn, h1.keys, h1.hold, h1.beg, h1.inn⟩ _ _ q
def cn_add (C : Addr) : Cn := fun rs M R => ∃ p q M0 x ka L, rs = [.v (.ref p), .d (Rc.d q)] ∧ q.Ok ∧ LedW M0 M C p x ka L ∧ L.Sz 90000 ∧ L.recs.length < 90000 ∧ ∀ M' ka', LedW M0 M' C p x ka' (L.add q) → R (.i (L.recs.length + 1)) M'
section
variable {P : Program} {w : World} {K : PySem.W.Frag} {mg : Str → Option Value} {base : Heap} {C : Addr}
theorem ok_add (T : Tx K mg) (L_Ledger : CL_Ledger K mg C) (H_tupled : Has P w K mg base 9 "tupled" s_tupled ["thing"] (cn_deep tpD 8)) (H_owner_in : Has P w K mg base 1 "owner_in" s_owner_in ["record", "lsn"] cn_owner)
    (M_Ledger_note : HasM P w K mg base 1 C "note" ["self", "record", "owner", "lsn"] (cn_note C)) {f : Addr} {fd : FuncData} (Fu : Fun K "add" "Ledger.add" s_Ledger_add f fd) : FnD P w K mg base 10 f fd ["self", "record"] (cn_add C) := by
  refine fnD_of Fu sc_Ledger_add (fun rs M R h => ?_) fun cdv A outer s H hgd hr => ⟨_, (pdb_cons (pds_set 2 sc_Ledger_add.nd (pd_fn H_tupled hgd (hr.mono (by first | decide | omega)) (by rfl) (pda_cons (pd_var 1) pda_nil)))
      (pdb_cons (pds_expr (pd_append (pd_fld L_Ledger.cl L_Ledger.na_own_records (pd_var 0)) (pda_cons (pd_var 2) pda_nil)))
      (pdb_cons (pds_set 3 sc_Ledger_add.nd (pd_callB c_len (by rfl) T.z_len (by decide +kernel) (pda_cons (pd_fld L_Ledger.cl L_Ledger.na_own_records (pd_var 0)) pda_nil)))
      (pdb_cons (pds_set 4 sc_Ledger_add.nd (pd_fn H_owner_in hgd (hr.mono (by first | decide | omega)) (by rfl) (pda_cons (pd_var 2) (pda_cons (pd_var 3) pda_nil))))
      (pdb_cons (pds_if (pdt_cmp o_notN (pd_var 4) pd_non (nomark _)) (pdb_cons (pds_dput (hu_of hr) (pd_fld L_Ledger.cl L_Ledger.na_own_last (pd_var 0)) (pd_var 4) (pd_var 3))
      (pdb_one (pds_expr (pd_methH (pl := _) L_Ledger.cl M_Ledger_note hgd (hr.mono (by first | decide | omega)) (pd_var 0) (pda_cons (pd_var 2) (pda_cons (pd_var 4) (pda_cons (pd_var 3) pda_nil))))))) pdb_nil)
      (pdb_one (pds_ret (pd_var 3)))))))), ?_⟩
  · obtain ⟨p, q, M0, x, ka, L, rfl, _⟩ := h
    rfl
  · rintro rs M R ⟨p, q, M0, x, ka, L, rfl, ok, W, z, hl, hk⟩
    walk_at "start"
    have m1 := W.mp
    have m2 := W.mr
    have n0 := ne_nd W.nd 0 1 rfl rfl (by decide)
    walk_at "run"
    refine ⟨q.d, rfl, Nat.le_trans ok.dep (by decide), Nat.le_trans ok.size (by decide), ?_⟩
    rw [tp_id ok.tup]
    walk_at "run"
    refine ⟨by rw [List.length_map, sizeLine_eq]; omega, ?_⟩
    have W1 := W.setR q
    rw [show (L.recs.map fun q => Sl.d q.d) ++ [Sl.d q.d] = (L.recs ++ [q]).map fun q => Sl.d q.d from by rw [List.map_append]; rfl]
    clear m1 m2 n0 W
    generalize upM M x.r (.lst ((L.recs ++ [q]).map fun q => Sl.d q.d)) = M1 at *
    have m1 := W1.mp
    have m2 : M1 x.r = some (.lst ((L.recs ++ [q]).map fun q => Sl.d q.d)) := W1.mr
    have m3 : M1 x.l = some (.dic (iS L.last)) := W1.ml
    walk_at "run"
    rw [show (((L.recs ++ [q]).map fun q => Sl.d q.d).length : Int) = L.recs.length + 1 from by rw [List.length_map, List.length_append]; simp]
    refine ⟨q, _, rfl, ?_⟩
    generalize hn : ((L.recs.length : Int) + 1) = n at *
    unfold Lg.add at hk
    rw [hn] at hk
    cases ho : q.owner n with
    | none =>
      rw [ho] at hk
      walk_at "run"
      exact upR.of (hk _ ka W1)
    | some o =>
      rw [ho] at hk
      have zl := z.last
      walk_at "run"
      rw [putS_k (f := Sl.i) (l := L.last) (a := n) W1.wf.last]
      have W2 := W1.setL (putA o n L.last) (NdA.put (l := L.last) W1.wf.last)
      clear m1 m2 m3 W1
      generalize upM M1 x.l (.dic (kS Sl.i (putA o n L.last))) = M2 at *
      have m1 := W2.mp
      walk_at "run"
      have z1 := z.mono (show 90000 ≤ 100000 by decide)
      have z2 : (putA o n L.last).length ≤ 100000 := Nat.le_trans (len_put _) (by omega)
      refine ⟨p, q, o, n, M0, x, ka, _, rfl, W2, ⟨z2, z1.opn, z1.keys, z1.hold, z1.beg, z1.inn⟩, fun M' ka' W' => ?_⟩
      walk_at "run"
      exact upR.of (hk _ ka' W')
/-! ### what it tells -/
def Lg.lastOf (L : Lg) (o : Int) : Int := (getA o L.last).getD 0
def Lg.recA (L : Lg) (n : Int) : Rc := L.recs.getD (n - 1).toNat .check
def Lg.todoAt (L : Lg) (n : Int) : Int := if n = 0 then 0 else (L.recA n).todo n
def Lg.todo (L : Lg) (o : Int) : Int := L.todoAt (L.lastOf o)
/-- numbers of records, or 0 -/
structure Lg.In (L : Lg) : Prop where
  last : ∀ o n, getA o L.last = some n → 1 ≤ n ∧ n ≤ L.recs.length
theorem Lg.In.at_ {L : Lg} (h : L.In) (o : Int) : (L.lastOf o = 0 ∨ 1 ≤ L.lastOf o) ∧ L.lastOf o ≤ L.recs.length := by
  unfold Lg.lastOf
  cases e : getA o L.last with
  | none => exact ⟨.inl rfl, Int.natCast_nonneg _⟩
  | some n => have := h.last o n e; exact ⟨.inr this.1, this.2⟩
theorem Lg.In.nil : Lg.nil.In := ⟨fun o n e => by cases e⟩
theorem Lg.note_last (L : Lg) (o n : Int) (q : Rc) : (L.note o n q).last = L.last := by cases q <;> rfl
theorem Lg.In.add {L : Lg} (h : L.In) (q : Rc) : (L.add q).In := by
  refine ⟨fun o n e => ?_⟩
  rw [Lg.add_recs, List.length_append]
  have h0 : ∀ n, getA o L.last = some n → 1 ≤ n ∧ n ≤ ((L.recs.length + [q].length : Nat) : Int) := fun n e => by
    have := h.last o n e
    simp only [List.length_cons, List.length_nil]
    omega
  unfold Lg.add at e
  split at e
  · exact h0 n e
  · rw [Lg.note_last] at e
    have e : getA o (putA _ ((L.recs.length : Int) + 1) L.last) = some n := e
    rw [getA_put] at e
    split at e
    · cases e
      simp only [List.length_cons, List.length_nil]
      omega
    · exact h0 n e
def cn_get (C : Addr) (g : Lg → Int → PyData) : Cn := fun rs M R => ∃ p o M0 x ka L, rs = [.v (.ref p), .i o] ∧ LedW M0 M C p x ka L ∧ L.In ∧ R (.d (g L o)) M
def cn_recd (C : Addr) : Cn := fun rs M R => ∃ p n M0 x ka L, rs = [.v (.ref p), .i n] ∧ LedW M0 M C p x ka L ∧ 1 ≤ n ∧ n ≤ (L.recs.length : Int) ∧ R (.d (L.recA n).d) M
def cn_tat (C : Addr) : Cn := fun rs M R => ∃ p n M0 x ka L, rs = [.v (.ref p), .i n] ∧ LedW M0 M C p x ka L ∧ (n = 0 ∨ 1 ≤ n) ∧ n ≤ (L.recs.length : Int) ∧ R (.i (L.todoAt n)) M
theorem ok_last (T : Tx K mg) (L_Ledger : CL_Ledger K mg C) {f : Addr} {fd : FuncData} (Fu : Fun K "last" "Ledger.last" s_Ledger_last f fd) : FnD P w K mg base 1 f fd ["self", "owner"] (cn_get C fun L o => .int (L.lastOf o)) := by
  refine fnD_of Fu sc_Ledger_last (fun rs M R h => ?_) fun cdv A outer s H hgd hr => ⟨_, (pdb_one (pds_ret (pd_get2 (hu_of hr) (pd_fld L_Ledger.cl L_Ledger.na_own_last (pd_var 0)) (pd_var 1) pd_int))), ?_⟩
  · obtain ⟨p, q, M0, x, ka, L, rfl, _⟩ := h
    rfl
  · rintro rs M R ⟨p, o, M0, x, ka, L, rfl, W, hi, hk⟩
    walk_at "start"
    have m1 := W.mp
    have m2 := W.ml
    walk_at "run"
    rw [valS_k]
    have e : ((getA o L.last).map Sl.i).getD (.i 0) = .i (L.lastOf o) := by
      unfold Lg.lastOf
      cases getA o L.last <;> rfl
    rw [e]
    exact upR.of hk
theorem ok_record (T : Tx K mg) (L_Ledger : CL_Ledger K mg C) {f : Addr} {fd : FuncData} (Fu : Fun K "record" "Ledger.record" s_Ledger_record f fd) : FnD P w K mg base 1 f fd ["self", "lsn"] (cn_recd C) := by
  refine fnD_of Fu sc_Ledger_record (fun rs M R h => ?_) fun cdv A outer s H hgd hr => ⟨_, (pdb_one (pds_ret (pd_ix (pd_fld L_Ledger.cl L_Ledger.na_own_records (pd_var 0)) (pd_op o_sub (pd_var 1) pd_int)))), ?_⟩
  · obtain ⟨p, q, M0, x, ka, L, rfl, _⟩ := h
    rfl
  · rintro rs M R ⟨p, n, M0, x, ka, L, rfl, W, h1, h2, hk⟩
    walk_at "start"
    have m1 := W.mp
    have m2 := W.mr
    walk_at "run"
    refine ⟨_, _, sqOf_m m2, atI_int (by omega) (x := .d (L.recA n).d) ?_, upR.of hk⟩
    have hl : (n - 1).toNat < L.recs.length := by omega
    rw [List.getElem?_map, List.getElem?_eq_getElem hl]
    unfold Lg.recA
    rw [List.getD_eq_getElem?_getD, List.getElem?_eq_getElem hl]
    rfl
theorem ok_tat (T : Tx K mg) (L_Ledger : CL_Ledger K mg C) (H_todo_of_record : Has P w K mg base 1 "todo_of_record" s_todo_of_record ["record", "lsn"] cn_todoR) (M_Ledger_record : HasM P w K mg base 1 C "record" ["self", "lsn"] (cn_recd C)) {f : Addr} {fd : FuncData} (Fu : Fun K "todo_at" "Ledger.todo_at" s_Ledger_todo_at f fd) : FnD P w K mg base 2 f fd ["self", "lsn"] (cn_tat C) := by
  refine fnD_of Fu sc_Ledger_todo_at (fun rs M R h => ?_) fun cdv A outer s H hgd hr => ⟨_, (pdb_one (pds_ret (pd_if (pdt_cmp (o_eq hr.units) (pd_var 1) pd_int (nomark _)) pd_int (pd_fn H_todo_of_record hgd (hr.mono (by first | decide | omega)) (by rfl) (pda_cons (pd_methH (pl := _) L_Ledger.cl M_Ledger_record hgd (hr.mono (by first | decide | omega)) (pd_var 0) (pda_cons (pd_var 1) pda_nil)) (pda_cons (pd_var 1) pda_nil)))))), ?_⟩
  · obtain ⟨p, q, M0, x, ka, L, rfl, _⟩ := h
    rfl
  · rintro rs M R ⟨p, n, M0, x, ka, L, rfl, W, h1, h2, hk⟩
    walk_at "start"
    have m1 := W.mp
    walk_at "run"
    unfold Lg.todoAt at hk
    apply ifd_go
    · intro e
      rw [if_pos e] at hk
      walk_at "run"
      exact upR.of hk
    · intro e
      rw [if_neg e] at hk
      walk_at "run"
      refine ⟨p, n, M0, x, ka, L, rfl, W, by omega, h2, ?_⟩
      walk_at "run"
      exact ⟨_, _, rfl, upR.of hk⟩
theorem ok_todo (T : Tx K mg) (L_Ledger : CL_Ledger K mg C) (M_Ledger_last : HasM P w K mg base 1 C "last" ["self", "owner"] (cn_get C fun L o => .int (L.lastOf o))) (M_Ledger_todo_at : HasM P w K mg base 2 C "todo_at" ["self", "lsn"] (cn_tat C)) {f : Addr} {fd : FuncData} (Fu : Fun K "todo" "Ledger.todo" s_Ledger_todo f fd) : FnD P w K mg base 3 f fd ["self", "owner"] (cn_get C fun L o => .int (L.todo o)) := by
  refine fnD_of Fu sc_Ledger_todo (fun rs M R h => ?_) fun cdv A outer s H hgd hr => ⟨_, (pdb_one (pds_ret (pd_methH (pl := _) L_Ledger.cl M_Ledger_todo_at hgd (hr.mono (by first | decide | omega)) (pd_var 0) (pda_cons (pd_methH (pl := _) L_Ledger.cl M_Ledger_last hgd (hr.mono (by first | decide | omega)) (pd_var 0) (pda_cons (pd_var 1) pda_nil)) pda_nil)))), ?_⟩
  · obtain ⟨p, q, M0, x, ka, L, rfl, _⟩ := h
    rfl
  · rintro rs M R ⟨p, o, M0, x, ka, L, rfl, W, hi, hk⟩
    walk_at "start"
    have m1 := W.mp
    walk_at "run"
    refine ⟨p, o, M0, x, ka, L, rfl, W, hi, ?_⟩
    walk_at "run"
    have h := hi.at_ o
    exact ⟨p, _, M0, x, ka, L, rfl, W, h.1, h.2, upR.of hk⟩
end
end LW

set_option Elab.async false
set_option linter.all false
set_option maxRecDepth 100000
set_option maxHeartbeats 4000000
namespace LW
open PySem PySem.Spec L2 DL
local macro_rules | `(tactic| walk_at "mem") => `(tactic| ((repeat rw [upM_ne (by assumption)]); first | exact upM_same | assumption))
local macro_rules | `(tactic| walk_at "look") => `(tactic| first | rfl | assumption | exact atI_map0 | exact atI_map1 | walk_at "mem" | (with_reducible apply lsOf_m; walk_at "mem") | (with_reducible apply sqOf_m; walk_at "mem") | (with_reducible apply rlOf_m; walk_at "mem") | (with_reducible apply sqOf'_m; walk_at "mem") | (with_reducible apply tru_l; walk_at "mem") | (with_reducible apply tru_d; walk_at "mem") | ((simp (discharger := assumption) only [sqOf, sqOf', rlOf, lsOf, tru, upM_same, upM_ne]) <;> rfl))
local macro_rules | `(tactic| walk_at "set") => `(tactic| (simp only [wipeD, List.set_cons_zero, List.set_cons_succ, List.set_nil]; rfl))
local macro_rules | `(tactic| walk_at "side") => `(tactic| first | omega | (simp only [List.length_map, List.length_cons, List.length_nil]; omega) | assumption | rfl | decide | exact ⟨by omega, by omega⟩ | exact Nat.le_of_ble_eq_true rfl)
local macro_rules | `(tactic| walk_at "head") => `(tactic| with_reducible conv => whnf)
local macro_rules | `(tactic| walk_at "step") => `(tactic| (walk_at "head"; first
  | ((with_reducible apply gN_go); (focus walk_at "set"))
  | ((with_reducible apply e1s); (focus rfl))
  | ((with_reducible apply e1); (focus walk_at "look"))
  | ((with_reducible apply e2); (focus walk_at "look"); (focus walk_at "look"))
  | ((with_reducible apply l1); (focus walk_at "look"))
  | ((with_reducible apply l2); (focus walk_at "look"); (focus walk_at "look"))
  | ((with_reducible apply e3); (focus walk_at "look"); (focus walk_at "look"); (focus walk_at "look"))
  | ((with_reducible apply e0a); (focus walk_at "look"))
  | ((with_reducible apply And.intro); (focus walk_at "side"))
  | ((with_reducible apply d1); (focus walk_at "look"))
  | ((with_reducible apply d2); (focus walk_at "look"); (focus walk_at "look"))
  | ((with_reducible apply d3); (focus walk_at "look"); (focus walk_at "look"); (focus walk_at "look"))
  | ((with_reducible apply d0); (focus walk_at "look"))
  | ((with_reducible apply lk1); (focus walk_at "look"))
  | with_reducible apply gw2_go
  | with_reducible apply gw3_go
  | with_reducible apply gs_go
  | with_reducible apply gt2_go
  | with_reducible apply gt3_go
  | with_reducible apply gt1_go
  | with_reducible apply gt4_go
  | with_reducible apply gt5_go
  | with_reducible apply gt6_go
  | with_reducible apply gt7_go
  | with_reducible apply gt8_go
  | with_reducible apply ift_go
  | with_reducible apply iff_go
  | ((with_reducible apply ifT_go); (focus rfl))
  | ((with_reducible apply ifF_go); (focus rfl))))
local macro_rules | `(tactic| walk_at "run") => `(tactic| (repeat walk_at "step"); walk_at "head")
local macro_rules | `(tactic| walk_at "start") => `(tactic| simp only [startD, List.map_cons, List.map_nil, List.length_cons, List.length_nil, List.replicate, List.cons_append, List.nil_append, Nat.reduceAdd, Nat.reduceSub, bodyK])
local macro_rules | `(tactic| walk_at "side") => `(tactic| (rw [kS_len, sizeLine_eq]; omega))
local macro_rules | `(tactic| walk_at "step") => `(tactic| (walk_at "head"; first | ((with_reducible apply fld_go); (focus walk_at "mem"); (focus rfl)) | ((with_reducible apply meth_go); (focus walk_at "mem"); (focus rfl))))
section
variable {M0 M : Mem} {a p c : Addr} {u o v : MO}
theorem mk_step (hc : M c = some u) (ha : M a = none) (hp : c ≠ p) : upM (upM M a o) p v c = some u := by rw [upM_ne hp, upM_ne (neM hc ha)]; exact hc
theorem mk_new (ha : M a = none) (hp : M p = some u) : upM (upM M a o) p v a = some o := by rw [upM_ne (neM hp ha).symm, upM_same]
theorem mk_le (h : Le M0 M) (hp : M0 p = none) (ha : M a = none) : Le M0 (upM (upM M a o) p v) := fun c u e => by
  rw [upM_ne (neM e hp), upM_ne (neM (h c u e) ha)]; exact h c u e
theorem le_none (h : Le M0 M) (ha : M a = none) : M0 a = none := by
  cases q : M0 a with
  | none => rfl
  | some u => rw [h a u q] at ha; cases ha
end
theorem Lg.of_snoc (qs : List Rc) (q : Rc) : Lg.of (qs ++ [q]) = (Lg.of qs).add q := by unfold Lg.of; rw [List.foldl_append]; rfl
theorem Lg.fold_recs : ∀ (qs : List Rc) (L : Lg), (qs.foldl Lg.add L).recs = L.recs ++ qs
  | [], L => (List.append_nil _).symm
  | q :: r, L => by rw [List.foldl_cons, Lg.fold_recs r, Lg.add_recs, List.append_assoc]; rfl
theorem Lg.of_recs (qs : List Rc) : (Lg.of qs).recs = qs := by unfold Lg.of; rw [Lg.fold_recs]; rfl
theorem Lg.fold_sz : ∀ (qs : List Rc) {L : Lg} {n : Nat}, L.Sz n → (qs.foldl Lg.add L).Sz (n + 2 * qs.length)
  | [], _, _, h => h
  | q :: r, _, n, h => by
    have := Lg.fold_sz r (h.add q)
    rw [List.foldl_cons, List.length_cons]
    exact this.mono (by omega)
theorem Lg.of_sz (qs : List Rc) : (Lg.of qs).Sz (2 * qs.length) := by
  have := Lg.fold_sz qs (L := .nil) (n := 0) ⟨Nat.le_refl _, Nat.le_refl _, Nat.le_refl _, Nat.le_refl _, Nat.le_refl _, fun t y h => by cases h⟩
  exact this.mono (by omega)
theorem Lg.fold_in : ∀ (qs : List Rc) {L : Lg}, L.In → (qs.foldl Lg.add L).In
  | [], _, h => h
  | q :: r, _, h => Lg.fold_in r (h.add q)
theorem Lg.of_in (qs : List Rc) : (Lg.of qs).In := Lg.fold_in qs .nil
def cn_init (C : Addr) : Cn := fun rs M R => ∃ p qs M0, rs = [.v (.ref p), .d (.tuple (qs.map Rc.d))] ∧ M p = some (.ob C []) ∧ M0 p = none ∧ Le M0 M ∧ (∀ q ∈ qs, Rc.Ok q) ∧ qs.length ≤ 40000 ∧ ∀ M' x ka, LedW M0 M' C p x ka (Lg.of qs) → R .n M'
section
variable {P : Program} {w : World} {K : PySem.W.Frag} {mg : Str → Option Value} {base : Heap} {C : Addr}
theorem ok_init (T : Tx K mg) (L_Ledger : CL_Ledger K mg C) (M_Ledger_add : HasM P w K mg base 10 C "add" ["self", "record"] (cn_add C)) {dvs : List V} {f : Addr} {fd : FuncData} (Fu : FunD K "__init__" "Ledger.__init__" (defArgs s_Ledger___init__) (defBody s_Ledger___init__) (defScope s_Ledger___init__) dvs [] f fd) : FnD P w K mg base 11 f fd ["self", "log"] (cn_init C) := by
  refine fnD_ofD Fu sc_Ledger___init__ (fun rs M R h => ?_) fun cdv A outer s H hgd hr => ⟨_, (pdb_cons (pds_fld L_Ledger.cl L_Ledger.na_own_records (pd_var 0) (pd_lstM pda_nil))
      (pdb_cons (pds_fld L_Ledger.cl L_Ledger.na_own_last (pd_var 0) pd_dict0)
      (pdb_cons (pds_fld L_Ledger.cl L_Ledger.na_own_open (pd_var 0) pd_dict0)
      (pdb_cons (pds_fld L_Ledger.cl L_Ledger.na_own_keys (pd_var 0) pd_dict0)
      (pdb_cons (pds_fld L_Ledger.cl L_Ledger.na_own_holders (pd_var 0) pd_dict0)
      (pdb_cons (pds_fld L_Ledger.cl L_Ledger.na_own_begun (pd_var 0) pd_dict0)
      (pdb_one (pds_for PassesOwn.never rfl (pdi_seq (pd_var 1)) (pdg_name 2 sc_Ledger___init__.nd) (pdb_one (pds_expr (pd_methH (pl := _) L_Ledger.cl M_Ledger_add hgd (hr.mono (by first | decide | omega)) (pd_var 0) (pda_cons (pd_var 2) pda_nil)))))))))))), ?_⟩
  · obtain ⟨p, qs, M0, rfl, _⟩ := h
    rfl
  · rintro rs M R ⟨p, qs, M0, rfl, hp, hp0, le0, ok, hlen, hend⟩
    walk_at "start"
    walk_at "run"
    intro r hr
    walk_at "run"
    refine ⟨(p, ([] : FS)), obOf_m ((upM_ne (neM hp hr)).trans hp), (show 0 < 1000 by decide), ?_⟩
    have npr : r ≠ p := (neM hp hr).symm
    have zr : M0 r = none := le_none le0 hr
    have le0 := mk_le (o := .lst []) (v := .ob C ([("own_records", .v (.ref r))] : FS)) le0 hp0 hr
    have fr := mk_new (o := .lst []) (v := .ob C ([("own_records", .v (.ref r))] : FS)) hr hp
    have hp : upM (upM M r (.lst [])) p (.ob C ([("own_records", .v (.ref r))] : FS)) p = some (.ob C ([("own_records", .v (.ref r))] : FS)) := upM_same
    rw [show putFS "own_records" (.v (.ref r)) ([] : FS) = ([("own_records", .v (.ref r))] : FS) from rfl]
    generalize upM (upM M r (.lst [])) p (.ob C ([("own_records", .v (.ref r))] : FS)) = M1 at *
    walk_at "run"
    intro l hl
    walk_at "run"
    refine ⟨(p, ([("own_records", .v (.ref r))] : FS)), obOf_m ((upM_ne (neM hp hl)).trans hp), (show 1 < 1000 by decide), ?_⟩
    have npl : l ≠ p := (neM hp hl).symm
    have nrl : r ≠ l := neM fr hl
    have zl : M0 l = none := le_none le0 hl
    have le0 := mk_le (o := .dic []) (v := .ob C ([("own_records", .v (.ref r)), ("own_last", .v (.ref l))] : FS)) le0 hp0 hl
    have fr := mk_step (o := .dic []) (v := .ob C ([("own_records", .v (.ref r)), ("own_last", .v (.ref l))] : FS)) fr hl npr
    have fl := mk_new (o := .dic []) (v := .ob C ([("own_records", .v (.ref r)), ("own_last", .v (.ref l))] : FS)) hl hp
    have hp : upM (upM M1 l (.dic [])) p (.ob C ([("own_records", .v (.ref r)), ("own_last", .v (.ref l))] : FS)) p = some (.ob C ([("own_records", .v (.ref r)), ("own_last", .v (.ref l))] : FS)) := upM_same
    rw [show putFS "own_last" (.v (.ref l)) ([("own_records", .v (.ref r))] : FS) = ([("own_records", .v (.ref r)), ("own_last", .v (.ref l))] : FS) from rfl]
    generalize upM (upM M1 l (.dic [])) p (.ob C ([("own_records", .v (.ref r)), ("own_last", .v (.ref l))] : FS)) = M2 at *
    walk_at "run"
    intro o ho
    walk_at "run"
    refine ⟨(p, ([("own_records", .v (.ref r)), ("own_last", .v (.ref l))] : FS)), obOf_m ((upM_ne (neM hp ho)).trans hp), (show 2 < 1000 by decide), ?_⟩
    have npo : o ≠ p := (neM hp ho).symm
    have nro : r ≠ o := neM fr ho
    have nlo : l ≠ o := neM fl ho
    have zo : M0 o = none := le_none le0 ho
    have le0 := mk_le (o := .dic []) (v := .ob C ([("own_records", .v (.ref r)), ("own_last", .v (.ref l)), ("own_open", .v (.ref o))] : FS)) le0 hp0 ho
    have fr := mk_step (o := .dic []) (v := .ob C ([("own_records", .v (.ref r)), ("own_last", .v (.ref l)), ("own_open", .v (.ref o))] : FS)) fr ho npr
    have fl := mk_step (o := .dic []) (v := .ob C ([("own_records", .v (.ref r)), ("own_last", .v (.ref l)), ("own_open", .v (.ref o))] : FS)) fl ho npl
    have fo := mk_new (o := .dic []) (v := .ob C ([("own_records", .v (.ref r)), ("own_last", .v (.ref l)), ("own_open", .v (.ref o))] : FS)) ho hp
    have hp : upM (upM M2 o (.dic [])) p (.ob C ([("own_records", .v (.ref r)), ("own_last", .v (.ref l)), ("own_open", .v (.ref o))] : FS)) p = some (.ob C ([("own_records", .v (.ref r)), ("own_last", .v (.ref l)), ("own_open", .v (.ref o))] : FS)) := upM_same
    rw [show putFS "own_open" (.v (.ref o)) ([("own_records", .v (.ref r)), ("own_last", .v (.ref l))] : FS) = ([("own_records", .v (.ref r)), ("own_last", .v (.ref l)), ("own_open", .v (.ref o))] : FS) from rfl]
    generalize upM (upM M2 o (.dic [])) p (.ob C ([("own_records", .v (.ref r)), ("own_last", .v (.ref l)), ("own_open", .v (.ref o))] : FS)) = M3 at *
    walk_at "run"
    intro k hk
    walk_at "run"
    refine ⟨(p, ([("own_records", .v (.ref r)), ("own_last", .v (.ref l)), ("own_open", .v (.ref o))] : FS)), obOf_m ((upM_ne (neM hp hk)).trans hp), (show 3 < 1000 by decide), ?_⟩
    have npk : k ≠ p := (neM hp hk).symm
    have nrk : r ≠ k := neM fr hk
    have nlk : l ≠ k := neM fl hk
    have nok : o ≠ k := neM fo hk
    have zk : M0 k = none := le_none le0 hk
    have le0 := mk_le (o := .dic []) (v := .ob C ([("own_records", .v (.ref r)), ("own_last", .v (.ref l)), ("own_open", .v (.ref o)), ("own_keys", .v (.ref k))] : FS)) le0 hp0 hk
    have fr := mk_step (o := .dic []) (v := .ob C ([("own_records", .v (.ref r)), ("own_last", .v (.ref l)), ("own_open", .v (.ref o)), ("own_keys", .v (.ref k))] : FS)) fr hk npr
    have fl := mk_step (o := .dic []) (v := .ob C ([("own_records", .v (.ref r)), ("own_last", .v (.ref l)), ("own_open", .v (.ref o)), ("own_keys", .v (.ref k))] : FS)) fl hk npl
    have fo := mk_step (o := .dic []) (v := .ob C ([("own_records", .v (.ref r)), ("own_last", .v (.ref l)), ("own_open", .v (.ref o)), ("own_keys", .v (.ref k))] : FS)) fo hk npo
    have fk := mk_new (o := .dic []) (v := .ob C ([("own_records", .v (.ref r)), ("own_last", .v (.ref l)), ("own_open", .v (.ref o)), ("own_keys", .v (.ref k))] : FS)) hk hp
    have hp : upM (upM M3 k (.dic [])) p (.ob C ([("own_records", .v (.ref r)), ("own_last", .v (.ref l)), ("own_open", .v (.ref o)), ("own_keys", .v (.ref k))] : FS)) p = some (.ob C ([("own_records", .v (.ref r)), ("own_last", .v (.ref l)), ("own_open", .v (.ref o)), ("own_keys", .v (.ref k))] : FS)) := upM_same
    rw [show putFS "own_keys" (.v (.ref k)) ([("own_records", .v (.ref r)), ("own_last", .v (.ref l)), ("own_open", .v (.ref o))] : FS) = ([("own_records", .v (.ref r)), ("own_last", .v (.ref l)), ("own_open", .v (.ref o)), ("own_keys", .v (.ref k))] : FS) from rfl]
    generalize upM (upM M3 k (.dic [])) p (.ob C ([("own_records", .v (.ref r)), ("own_last", .v (.ref l)), ("own_open", .v (.ref o)), ("own_keys", .v (.ref k))] : FS)) = M4 at *
    walk_at "run"
    intro h hh
    walk_at "run"
    refine ⟨(p, ([("own_records", .v (.ref r)), ("own_last", .v (.ref l)), ("own_open", .v (.ref o)), ("own_keys", .v (.ref k))] : FS)), obOf_m ((upM_ne (neM hp hh)).trans hp), (show 4 < 1000 by decide), ?_⟩
    have nph : h ≠ p := (neM hp hh).symm
    have nrh : r ≠ h := neM fr hh
    have nlh : l ≠ h := neM fl hh
    have noh : o ≠ h := neM fo hh
    have nkh : k ≠ h := neM fk hh
    have zh : M0 h = none := le_none le0 hh
    have le0 := mk_le (o := .dic []) (v := .ob C ([("own_records", .v (.ref r)), ("own_last", .v (.ref l)), ("own_open", .v (.ref o)), ("own_keys", .v (.ref k)), ("own_holders", .v (.ref h))] : FS)) le0 hp0 hh
    have fr := mk_step (o := .dic []) (v := .ob C ([("own_records", .v (.ref r)), ("own_last", .v (.ref l)), ("own_open", .v (.ref o)), ("own_keys", .v (.ref k)), ("own_holders", .v (.ref h))] : FS)) fr hh npr
    have fl := mk_step (o := .dic []) (v := .ob C ([("own_records", .v (.ref r)), ("own_last", .v (.ref l)), ("own_open", .v (.ref o)), ("own_keys", .v (.ref k)), ("own_holders", .v (.ref h))] : FS)) fl hh npl
    have fo := mk_step (o := .dic []) (v := .ob C ([("own_records", .v (.ref r)), ("own_last", .v (.ref l)), ("own_open", .v (.ref o)), ("own_keys", .v (.ref k)), ("own_holders", .v (.ref h))] : FS)) fo hh npo
    have fk := mk_step (o := .dic []) (v := .ob C ([("own_records", .v (.ref r)), ("own_last", .v (.ref l)), ("own_open", .v (.ref o)), ("own_keys", .v (.ref k)), ("own_holders", .v (.ref h))] : FS)) fk hh npk
    have fh := mk_new (o := .dic []) (v := .ob C ([("own_records", .v (.ref r)), ("own_last", .v (.ref l)), ("own_open", .v (.ref o)), ("own_keys", .v (.ref k)), ("own_holders", .v (.ref h))] : FS)) hh hp
    have hp : upM (upM M4 h (.dic [])) p (.ob C ([("own_records", .v (.ref r)), ("own_last", .v (.ref l)), ("own_open", .v (.ref o)), ("own_keys", .v (.ref k)), ("own_holders", .v (.ref h))] : FS)) p = some (.ob C ([("own_records", .v (.ref r)), ("own_last", .v (.ref l)), ("own_open", .v (.ref o)), ("own_keys", .v (.ref k)), ("own_holders", .v (.ref h))] : FS)) := upM_same
    rw [show putFS "own_holders" (.v (.ref h)) ([("own_records", .v (.ref r)), ("own_last", .v (.ref l)), ("own_open", .v (.ref o)), ("own_keys", .v (.ref k))] : FS) = ([("own_records", .v (.ref r)), ("own_last", .v (.ref l)), ("own_open", .v (.ref o)), ("own_keys", .v (.ref k)), ("own_holders", .v (.ref h))] : FS) from rfl]
    generalize upM (upM M4 h (.dic [])) p (.ob C ([("own_records", .v (.ref r)), ("own_last", .v (.ref l)), ("own_open", .v (.ref o)), ("own_keys", .v (.ref k)), ("own_holders", .v (.ref h))] : FS)) = M5 at *
    walk_at "run"
    intro b hb
    walk_at "run"
    refine ⟨(p, ([("own_records", .v (.ref r)), ("own_last", .v (.ref l)), ("own_open", .v (.ref o)), ("own_keys", .v (.ref k)), ("own_holders", .v (.ref h))] : FS)), obOf_m ((upM_ne (neM hp hb)).trans hp), (show 5 < 1000 by decide), ?_⟩
    have npb : b ≠ p := (neM hp hb).symm
    have nrb : r ≠ b := neM fr hb
    have nlb : l ≠ b := neM fl hb
    have nob : o ≠ b := neM fo hb
    have nkb : k ≠ b := neM fk hb
    have nhb : h ≠ b := neM fh hb
    have zb : M0 b = none := le_none le0 hb
    have le0 := mk_le (o := .dic []) (v := .ob C ([("own_records", .v (.ref r)), ("own_last", .v (.ref l)), ("own_open", .v (.ref o)), ("own_keys", .v (.ref k)), ("own_holders", .v (.ref h)), ("own_begun", .v (.ref b))] : FS)) le0 hp0 hb
    have fr := mk_step (o := .dic []) (v := .ob C ([("own_records", .v (.ref r)), ("own_last", .v (.ref l)), ("own_open", .v (.ref o)), ("own_keys", .v (.ref k)), ("own_holders", .v (.ref h)), ("own_begun", .v (.ref b))] : FS)) fr hb npr
    have fl := mk_step (o := .dic []) (v := .ob C ([("own_records", .v (.ref r)), ("own_last", .v (.ref l)), ("own_open", .v (.ref o)), ("own_keys", .v (.ref k)), ("own_holders", .v (.ref h)), ("own_begun", .v (.ref b))] : FS)) fl hb npl
    have fo := mk_step (o := .dic []) (v := .ob C ([("own_records", .v (.ref r)), ("own_last", .v (.ref l)), ("own_open", .v (.ref o)), ("own_keys", .v (.ref k)), ("own_holders", .v (.ref h)), ("own_begun", .v (.ref b))] : FS)) fo hb npo
    have fk := mk_step (o := .dic []) (v := .ob C ([("own_records", .v (.ref r)), ("own_last", .v (.ref l)), ("own_open", .v (.ref o)), ("own_keys", .v (.ref k)), ("own_holders", .v (.ref h)), ("own_begun", .v (.ref b))] : FS)) fk hb npk
    have fh := mk_step (o := .dic []) (v := .ob C ([("own_records", .v (.ref r)), ("own_last", .v (.ref l)), ("own_open", .v (.ref o)), ("own_keys", .v (.ref k)), ("own_holders", .v (.ref h)), ("own_begun", .v (.ref b))] : FS)) fh hb nph
    have fb := mk_new (o := .dic []) (v := .ob C ([("own_records", .v (.ref r)), ("own_last", .v (.ref l)), ("own_open", .v (.ref o)), ("own_keys", .v (.ref k)), ("own_holders", .v (.ref h)), ("own_begun", .v (.ref b))] : FS)) hb hp
    have hp : upM (upM M5 b (.dic [])) p (.ob C ([("own_records", .v (.ref r)), ("own_last", .v (.ref l)), ("own_open", .v (.ref o)), ("own_keys", .v (.ref k)), ("own_holders", .v (.ref h)), ("own_begun", .v (.ref b))] : FS)) p = some (.ob C ([("own_records", .v (.ref r)), ("own_last", .v (.ref l)), ("own_open", .v (.ref o)), ("own_keys", .v (.ref k)), ("own_holders", .v (.ref h)), ("own_begun", .v (.ref b))] : FS)) := upM_same
    rw [show putFS "own_begun" (.v (.ref b)) ([("own_records", .v (.ref r)), ("own_last", .v (.ref l)), ("own_open", .v (.ref o)), ("own_keys", .v (.ref k)), ("own_holders", .v (.ref h))] : FS) = ([("own_records", .v (.ref r)), ("own_last", .v (.ref l)), ("own_open", .v (.ref o)), ("own_keys", .v (.ref k)), ("own_holders", .v (.ref h)), ("own_begun", .v (.ref b))] : FS) from rfl]
    generalize upM (upM M5 b (.dic [])) p (.ob C ([("own_records", .v (.ref r)), ("own_last", .v (.ref l)), ("own_open", .v (.ref o)), ("own_keys", .v (.ref k)), ("own_holders", .v (.ref h)), ("own_begun", .v (.ref b))] : FS)) = M6 at *
    have W : LedW M0 M6 C p ⟨r, l, o, k, h, b⟩ [] .nil :=
      { mp := hp, mr := fr, ml := fl, mo := fo, mk_ := fk, mh := fh, mb := fb, nka := List.nodup_nil, kk := fun _ => rfl, ke := rfl
        kv := fun t a y h _ => by cases h
        nd := by simp only [List.nodup_cons, List.mem_cons, List.not_mem_nil, or_false, not_or, not_false_eq_true, List.nodup_nil, and_true]; exact ⟨⟨npr.symm, npl.symm, npo.symm, npk.symm, nph.symm, npb.symm⟩, ⟨nrl, nro, nrk, nrh, nrb⟩, ⟨nlo, nlk, nlh, nlb⟩, ⟨nok, noh, nob⟩, ⟨nkh, nkb⟩, nhb⟩
        ne := fun t a h => by cases h
        na := fun t t' a h => by cases h
        mf := by simp only [List.mem_cons, List.not_mem_nil, or_false, forall_eq_or_imp, forall_eq]; exact ⟨hp0, zr, zl, zo, zk, zh, zb⟩
        ma := fun t a h => by cases h
        le := le0
        wf := .nil }
    clear fr fl fo fk fh fb hp le0
    walk_at "run"
    refine for_ind (fun rest dl M' => ∃ (done rs : List Rc) (ka : List (Int × Addr)) (v : Option Sl), qs = done ++ rs ∧ rest = (rs.map Rc.d).map Sl.d ∧ LedW M0 M' C p ⟨r, l, o, k, h, b⟩ ka (Lg.of done) ∧ dl = [some (.v (.ref p)), some (.d (.tuple (qs.map Rc.d))), v]) ?_ ?_ ⟨[], qs, [], _, rfl, rfl, W, rfl⟩
    · rintro dl M' ⟨done, rs, ka, v, e1, e2, W', rfl⟩
      cases rs with
      | cons q rs => cases e2
      | nil =>
        rw [List.append_nil] at e1
        subst e1
        exact ⟨trivial, upR.of (hend _ _ ka W')⟩
    · rintro z xs nx dl M' hnx ⟨done, rs, ka, v, e1, e2, W', rfl⟩
      cases rs with
      | nil => cases e2
      | cons q rs =>
        cases e2
        refine ⟨trivial, ?_⟩
        have m1 := W'.mp
        have ld : done.length ≤ 40000 := by rw [e1, List.length_append] at hlen; omega
        walk_at "run"
        refine ⟨p, q, M0, _, ka, Lg.of done, rfl, ok q (by rw [e1]; simp), W', (Lg.of_sz done).mono (by omega), by rw [Lg.of_recs]; omega, fun M2 ka2 W2 => ?_⟩
        exact hnx _ _ ⟨done ++ [q], rs, ka2, _, by rw [e1, List.append_assoc]; rfl, rfl, by rw [Lg.of_snoc]; exact W2, rfl⟩
end
end LW

set_option Elab.async false
set_option linter.all false
set_option maxRecDepth 100000
set_option maxHeartbeats 4000000
namespace LW
open PySem PySem.Spec L2 DL
local macro_rules | `(tactic| walk_at "mem") => `(tactic| ((repeat rw [upM_ne (by assumption)]); first | exact upM_same | assumption))
local macro_rules | `(tactic| walk_at "look") => `(tactic| first | rfl | assumption | exact atI_map0 | exact atI_map1 | walk_at "mem" | (with_reducible apply lsOf_m; walk_at "mem") | (with_reducible apply sqOf_m; walk_at "mem") | (with_reducible apply rlOf_m; walk_at "mem") | (with_reducible apply sqOf'_m; walk_at "mem") | (with_reducible apply tru_l; walk_at "mem") | (with_reducible apply tru_d; walk_at "mem") | ((simp (discharger := assumption) only [sqOf, sqOf', rlOf, lsOf, tru, upM_same, upM_ne]) <;> rfl))
local macro_rules | `(tactic| walk_at "set") => `(tactic| (simp only [wipeD, List.set_cons_zero, List.set_cons_succ, List.set_nil]; rfl))
local macro_rules | `(tactic| walk_at "side") => `(tactic| first | omega | (simp only [List.length_map, List.length_cons, List.length_nil]; omega) | assumption | rfl | decide | exact ⟨by omega, by omega⟩ | exact Nat.le_of_ble_eq_true rfl)
local macro_rules | `(tactic| walk_at "head") => `(tactic| with_reducible conv => whnf)
local macro_rules | `(tactic| walk_at "step") => `(tactic| (walk_at "head"; first
  | ((with_reducible apply gN_go); (focus walk_at "set"))
  | ((with_reducible apply e1s); (focus rfl))
  | ((with_reducible apply e1); (focus walk_at "look"))
  | ((with_reducible apply e2); (focus walk_at "look"); (focus walk_at "look"))
  | ((with_reducible apply l1); (focus walk_at "look"))
  | ((with_reducible apply l2); (focus walk_at "look"); (focus walk_at "look"))
  | ((with_reducible apply e3); (focus walk_at "look"); (focus walk_at "look"); (focus walk_at "look"))
  | ((with_reducible apply e0a); (focus walk_at "look"))
  | ((with_reducible apply And.intro); (focus walk_at "side"))
  | ((with_reducible apply d1); (focus walk_at "look"))
  | ((with_reducible apply d2); (focus walk_at "look"); (focus walk_at "look"))
  | ((with_reducible apply d3); (focus walk_at "look"); (focus walk_at "look"); (focus walk_at "look"))
  | ((with_reducible apply d0); (focus walk_at "look"))
  | ((with_reducible apply lk1); (focus walk_at "look"))
  | with_reducible apply gw2_go
  | with_reducible apply gw3_go
  | with_reducible apply gs_go
  | with_reducible apply gt2_go
  | with_reducible apply gt3_go
  | with_reducible apply gt1_go
  | with_reducible apply gt4_go
  | with_reducible apply gt5_go
  | with_reducible apply gt6_go
  | with_reducible apply gt7_go
  | with_reducible apply gt8_go
  | with_reducible apply ift_go
  | with_reducible apply iff_go
  | ((with_reducible apply ifT_go); (focus rfl))
  | ((with_reducible apply ifF_go); (focus rfl))))
local macro_rules | `(tactic| walk_at "run") => `(tactic| (repeat walk_at "step"); walk_at "head")
local macro_rules | `(tactic| walk_at "start") => `(tactic| simp only [startD, List.map_cons, List.map_nil, List.length_cons, List.length_nil, List.replicate, List.cons_append, List.nil_append, Nat.reduceAdd, Nat.reduceSub, bodyK])
local macro_rules | `(tactic| walk_at "side") => `(tactic| (rw [kS_len, sizeLine_eq]; omega))
local macro_rules | `(tactic| walk_at "step") => `(tactic| (walk_at "head"; first | ((with_reducible apply fld_go); (focus walk_at "mem"); (focus rfl)) | ((with_reducible apply meth_go); (focus walk_at "mem"); (focus rfl))))
def Lg.isOpen (L : Lg) (o : Int) : Bool := (getA o L.opn).isSome || (decide (o = 0) && !decide (L.todo 0 = 0))
def Lg.opens (L : Lg) : List Int := (if L.isOpen 0 = true then [0] else []) ++ srtI (L.opn.map (·.1))
def Lg.opensD (L : Lg) : List PyData := L.opens.map fun o => .tuple [.int o, .int (L.lastOf o), .int (L.todo o)]
def Lg.holdD (L : Lg) : List PyData := srtD (L.hold.map fun e => .tuple [.int e.1, .int e.2])
def cn_isopen (C : Addr) : Cn := fun rs M R => ∃ p o M0 x ka L, rs = [.v (.ref p), .i o] ∧ LedW M0 M C p x ka L ∧ L.In ∧ R (.b (L.isOpen o)) M
def cn_tell (C : Addr) (g : Lg → List PyData) : Cn := fun rs M R => ∃ p M0 x ka L, rs = [.v (.ref p)] ∧ LedW M0 M C p x ka L ∧ L.In ∧ L.Sz 80000 ∧ R (.d (.list (g L))) M
theorem keysI_u : ∀ l : KeyL, keysI (uS l) = some (l.map (·.1))
  | [] => rfl
  | (i, _) :: r => by
    have ih := keysI_u r
    unfold uS kS at ih ⊢
    rw [List.map_cons, keysI, ih]
    rfl
theorem entD_i : ∀ l : List (Int × Int), DL.entD (iS l) = some (l.map fun e => .tuple [.int e.1, .int e.2])
  | [] => rfl
  | (i, _) :: r => by
    have ih := entD_i r
    unfold iS kS at ih ⊢
    rw [List.map_cons, DL.entD, ih]
    rfl
section
variable {P : Program} {w : World} {K : PySem.W.Frag} {mg : Str → Option Value} {base : Heap} {C : Addr}
theorem ok_isopen (T : Tx K mg) (L_Ledger : CL_Ledger K mg C) (M_Ledger_todo : HasM P w K mg base 3 C "todo" ["self", "owner"] (cn_get C fun L o => .int (L.todo o))) {f : Addr} {fd : FuncData} (Fu : Fun K "is_open" "Ledger.is_open" s_Ledger_is_open f fd) : FnD P w K mg base 4 f fd ["self", "owner"] (cn_isopen C) := by
  refine fnD_of Fu sc_Ledger_is_open (fun rs M R h => ?_) fun cdv A outer s H hgd hr => ⟨_, (pdb_one (pds_ret (pd_or (pd_din (hu_of hr) (pd_var 1) (pd_fld L_Ledger.cl L_Ledger.na_own_open (pd_var 0))) (pd_one (pd_and (pd_cmp (o_eq hr.units) (pd_var 1) pd_int (nomark _)) (pd_one (pd_cmp (o_ne hr.units) (pd_methH (pl := _) L_Ledger.cl M_Ledger_todo hgd (hr.mono (by first | decide | omega)) (pd_var 0) (pda_cons pd_int pda_nil)) pd_int (nomark _)))))))), ?_⟩
  · obtain ⟨p, q, M0, x, ka, L, rfl, _⟩ := h
    rfl
  · rintro rs M R ⟨p, o, M0, x, ka, L, rfl, W, hi, hk⟩
    walk_at "start"
    have m1 := W.mp
    have m2 := W.mo
    walk_at "run"
    rw [valS_k, show ((getA o L.opn).map fun _ => Sl.b true).isSome = (getA o L.opn).isSome from Option.isSome_map]
    unfold Lg.isOpen at hk
    cases h : (getA o L.opn).isSome with
    | true =>
      rw [h, Bool.true_or] at hk
      rw [if_pos rfl]
      exact upR.of hk
    | false =>
      rw [h, Bool.false_or] at hk
      rw [if_neg Bool.false_ne_true]
      walk_at "run"
      apply ifd_go
      · intro e
        rw [decide_eq_true e, Bool.true_and] at hk
        walk_at "run"
        refine ⟨p, 0, M0, x, ka, L, rfl, W, hi, ?_⟩
        walk_at "run"
        exact upR.of hk
      · intro e
        rw [decide_eq_false e, Bool.false_and] at hk
        rw [decide_eq_false e]
        exact upR.of hk
theorem ok_opens (T : Tx K mg) (L_Ledger : CL_Ledger K mg C) (M_Ledger_is_open : HasM P w K mg base 4 C "is_open" ["self", "owner"] (cn_isopen C)) (M_Ledger_last : HasM P w K mg base 1 C "last" ["self", "owner"] (cn_get C fun L o => .int (L.lastOf o))) (M_Ledger_todo : HasM P w K mg base 3 C "todo" ["self", "owner"] (cn_get C fun L o => .int (L.todo o)))
    {f : Addr} {fd : FuncData} (Fu : Fun K "opens" "Ledger.opens" s_Ledger_opens f fd) : FnD P w K mg base 5 f fd ["self"] (cn_tell C Lg.opensD) := by
  refine fnD_of Fu sc_Ledger_opens (fun rs M R h => ?_) fun cdv A outer s H hgd hr => ⟨_, (pdb_cons (pds_set 1 sc_Ledger_opens.nd (pd_op o_plus (pd_op o_times (pd_lst (pda_cons pd_int pda_nil)) (pd_callT c_int (by rfl) T.z_int (by decide +kernel) (pda_cons (pd_methH (pl := _) L_Ledger.cl M_Ledger_is_open hgd (hr.mono (by first | decide | omega)) (pd_var 0) (pda_cons pd_int pda_nil)) pda_nil))) (pd_callB (c_sortedDA rfl) (by rfl) T.z_sorted (by decide +kernel) (pda_cons (pd_fld L_Ledger.cl L_Ledger.na_own_open (pd_var 0)) pda_nil))))
      (pdb_one (pds_ret (pd_lc (own := [("owner", 2)]) rfl sc_Ledger_opens.nd (pdi_seq (pd_var 1)) (blkOk_by (N := N_Ledger_opens) (sc := defScope s_Ledger_opens) (by decide +kernel)) (fun _ _ _ _ _ => (pdgw_name 2 sc_Ledger_opens.nd)) (fun _ _ _ _ _ => pdts_nil) (fun _ _ _ _ _ => (pd_tup (pda_cons (pd_var 2) (pda_cons (pd_methH (pl := _) L_Ledger.cl M_Ledger_last hgd (hr.mono (by first | decide | omega)) (pd_var 0) (pda_cons (pd_var 2) pda_nil)) (pda_cons (pd_methH (pl := _) L_Ledger.cl M_Ledger_todo hgd (hr.mono (by first | decide | omega)) (pd_var 0) (pda_cons (pd_var 2) pda_nil)) pda_nil))))))))), ?_⟩
  · obtain ⟨p, M0, x, ka, L, rfl, _⟩ := h
    rfl
  · rintro rs M R ⟨p, M0, x, ka, L, rfl, W, hi, z, hk⟩
    walk_at "start"
    have m1 := W.mp
    have m2 := W.mo
    walk_at "run"
    refine ⟨p, 0, M0, x, ka, L, rfl, W, hi, ?_⟩
    walk_at "run"
    have lo := z.opn
    have e0 : (if L.isOpen 0 = true then (1 : Int) else 0).toNat ≤ 1 := by split <;> decide
    refine ⟨by rw [sizeLine_eq]; simp only [List.map_cons, List.map_nil, List.length_cons, List.length_nil]; omega, ?_⟩
    rw [show (List.replicate (if L.isOpen 0 = true then (1 : Int) else 0).toNat ((fun x => PyData.int 0 :: x) [])).flatten = (if L.isOpen 0 = true then [(0 : Int)] else []).map PyData.int from by split <;> rfl]
    walk_at "run"
    refine ⟨_, _, m2, keysI_u _, ?_⟩
    walk_at "run"
    have ls : (srtI (L.opn.map (·.1))).length ≤ 80000 := by rw [(srtI_perm _).length_eq, List.length_map]; exact lo
    have l0 : (if L.isOpen 0 = true then [(0 : Int)] else []).length ≤ 1 := by split <;> decide
    refine ⟨_, _, L.opens.map PyData.int, rfl, rfl, ?_, ?_, ?_⟩
    · rw [← List.map_append, ← List.map_append]; exact datOf_map _
    · rw [List.length_map, List.length_map, List.length_map, List.length_map, sizeLine_eq]; omega
    walk_at "run"
    have lo2 : L.opens.length ≤ 80001 := by unfold Lg.opens; rw [List.length_append]; omega
    rw [show (L.opens.map PyData.int).map Sl.d = L.opens.map (fun o => Sl.i o) from by rw [List.map_map]; rfl]
    refine lc_m L.opens _ (fun o => .d (.tuple [.int o, .int (L.lastOf o), .int (L.todo o)])) trivial (by rw [sizeLine_eq]; omega) (fun o ho k1 k0 h => ?_) ?_
    · walk_at "run"
      refine ⟨p, o, M0, x, ka, L, rfl, W, hi, ?_⟩
      walk_at "run"
      refine ⟨p, o, M0, x, ka, L, rfl, W, hi, ?_⟩
      walk_at "run"
      exact h
    exact ⟨L.opensD, by unfold Lg.opensD; rw [mapD_d]; exact datOf_map _, upR.of hk⟩
theorem ok_mholders (T : Tx K mg) (L_Ledger : CL_Ledger K mg C) {f : Addr} {fd : FuncData} (Fu : Fun K "holders" "Ledger.holders" s_Ledger_holders f fd) : FnD P w K mg base 1 f fd ["self"] (cn_tell C Lg.holdD) := by
  refine fnD_of Fu sc_Ledger_holders (fun rs M R h => ?_) fun cdv A outer s H hgd hr => ⟨_, (pdb_one (pds_ret (pd_sortIt rfl (by rfl) T.z_sorted (pd_fld L_Ledger.cl L_Ledger.na_own_holders (pd_var 0))))), ?_⟩
  · obtain ⟨p, M0, x, ka, L, rfl, _⟩ := h
    rfl
  · rintro rs M R ⟨p, M0, x, ka, L, rfl, W, hi, z, hk⟩
    walk_at "start"
    have m1 := W.mp
    have m2 := W.mh
    walk_at "run"
    refine ⟨_, _, m2, entD_i _, ?_, upR.of hk⟩
    rw [List.map_map]
    exact W.wf.hold
def cn_logI (g : List Rc → Int → PyData) (ok : List Rc → Int → Prop) : Cn := fun rs M R => ∃ (qs : List Rc) (n : Int), rs = [.d (.tuple (qs.map Rc.d)), .i n] ∧ (∀ q ∈ qs, q.Ok) ∧ qs.length ≤ 40000 ∧ ok qs n ∧ R (.d (g qs n)) M
def cn_log (g : List Rc → PyData) : Cn := fun rs M R => ∃ (qs : List Rc), rs = [.d (.tuple (qs.map Rc.d))] ∧ (∀ q ∈ qs, q.Ok) ∧ qs.length ≤ 40000 ∧ R (.d (g qs)) M
theorem ok_owner_of (T : Tx K mg) (H_tupled : Has P w K mg base 9 "tupled" s_tupled ["thing"] (cn_deep tpD 8)) (H_owner_in : Has P w K mg base 1 "owner_in" s_owner_in ["record", "lsn"] cn_owner) {f : Addr} {fd : FuncData} (Fu : Fun K "owner_of" "owner_of" s_owner_of f fd) :
    FnD P w K mg base 10 f fd ["log", "lsn"] (cn_logI (fun qs n => oD ((qs.getD (n - 1).toNat .check).owner n)) fun qs n => 1 ≤ n ∧ n ≤ qs.length) := by
  refine fnD_of Fu sc_owner_of (fun rs M R h => ?_) fun cdv A outer s H hgd hr => ⟨_, (pdb_one (pds_ret (pd_fn H_owner_in hgd (hr.mono (by first | decide | omega)) (by rfl) (pda_cons (pd_fn H_tupled hgd (hr.mono (by first | decide | omega)) (by rfl) (pda_cons (pd_ix (pd_var 0) (pd_op o_sub (pd_var 1) pd_int)) pda_nil)) (pda_cons (pd_var 1) pda_nil))))), ?_⟩
  · obtain ⟨p, n, rfl, _⟩ := h
    rfl
  · rintro rs M R ⟨qs, n, rfl, ok, hl, ⟨h1, h2⟩, hk⟩
    walk_at "start"
    walk_at "run"
    have hk : R (.d (oD ((qs.getD (n - 1).toNat .check).owner n))) M := hk
    have hl1 : (n - 1).toNat < qs.length := by omega
    refine ⟨_, _, rfl, atI_int (by omega) (x := .d (qs.getD (n - 1).toNat .check).d) ?_, ?_⟩
    · rw [List.getElem?_map, List.getElem?_map, List.getElem?_eq_getElem hl1, List.getD_eq_getElem?_getD, List.getElem?_eq_getElem hl1]
      rfl
    have oq : (qs.getD (n - 1).toNat .check).Ok := by
      rw [List.getD_eq_getElem?_getD, List.getElem?_eq_getElem hl1]
      exact ok _ (List.getElem_mem _)
    generalize qs.getD (n - 1).toNat .check = q at *
    walk_at "run"
    refine ⟨_, rfl, Nat.le_trans oq.dep (by decide), Nat.le_trans oq.size (by decide), ?_⟩
    rw [tp_id oq.tup]
    walk_at "run"
    exact ⟨q, n, rfl, upR.of hk⟩
theorem ok_todo_of (T : Tx K mg) (L_Ledger : CL_Ledger K mg C) (K_Ledger : HasK P w K mg base 11 C "Ledger" ["self", "log"] (cn_init C)) (M_Ledger_todo : HasM P w K mg base 3 C "todo" ["self", "owner"] (cn_get C fun L o => .int (L.todo o))) {f : Addr} {fd : FuncData} (Fu : Fun K "todo_of" "todo_of" s_todo_of f fd) :
    FnD P w K mg base 13 f fd ["log", "t"] (cn_logI (fun qs t => .int ((Lg.of qs).todo t)) fun _ _ => True) := by
  refine fnD_of Fu sc_todo_of (fun rs M R h => ?_) fun cdv A outer s H hgd hr => ⟨_, (pdb_one (pds_ret (pd_methH (pl := _) L_Ledger.cl M_Ledger_todo hgd (hr.mono (by first | decide | omega)) (pd_makeH K_Ledger hgd (hr.mono (by first | decide | omega)) (by rfl) (pda_cons (pd_var 0) pda_nil)) (pda_cons (pd_var 1) pda_nil)))), ?_⟩
  · obtain ⟨p, n, rfl, _⟩ := h
    rfl
  · rintro rs M R ⟨qs, n, rfl, ok, hl, _, hk⟩
    walk_at "start"
    walk_at "run"
    intro p hp
    refine ⟨p, qs, M, rfl, upM_same, hp, Le.up (Le.refl M) hp, ok, hl, fun M' x ka W => ⟨rfl, ?_⟩⟩
    have m1 := W.mp
    walk_at "run"
    exact ⟨p, n, M, x, ka, _, rfl, W, Lg.of_in qs, upR.le hk W.le⟩
theorem ok_open_ones (T : Tx K mg) (L_Ledger : CL_Ledger K mg C) (K_Ledger : HasK P w K mg base 11 C "Ledger" ["self", "log"] (cn_init C)) (M_Ledger_opens : HasM P w K mg base 5 C "opens" ["self"] (cn_tell C Lg.opensD)) {f : Addr} {fd : FuncData} (Fu : Fun K "open_ones" "open_ones" s_open_ones f fd) :
    FnD P w K mg base 13 f fd ["log"] (cn_log fun qs => .list (Lg.of qs).opensD) := by
  refine fnD_of Fu sc_open_ones (fun rs M R h => ?_) fun cdv A outer s H hgd hr => ⟨_, (pdb_one (pds_ret (pd_methH0 (pl := _) L_Ledger.cl M_Ledger_opens hgd (hr.mono (by first | decide | omega)) (pd_makeH K_Ledger hgd (hr.mono (by first | decide | omega)) (by rfl) (pda_cons (pd_var 0) pda_nil))))), ?_⟩
  · obtain ⟨p, rfl, _⟩ := h
    rfl
  · rintro rs M R ⟨qs, rfl, ok, hl, hk⟩
    walk_at "start"
    walk_at "run"
    intro p hp
    refine ⟨p, qs, M, rfl, upM_same, hp, Le.up (Le.refl M) hp, ok, hl, fun M' x ka W => ⟨rfl, ?_⟩⟩
    have m1 := W.mp
    walk_at "run"
    exact ⟨p, M, x, ka, _, rfl, W, Lg.of_in qs, (Lg.of_sz qs).mono (by omega), upR.le hk W.le⟩
theorem ok_holders (T : Tx K mg) (L_Ledger : CL_Ledger K mg C) (K_Ledger : HasK P w K mg base 11 C "Ledger" ["self", "log"] (cn_init C)) (M_Ledger_holders : HasM P w K mg base 1 C "holders" ["self"] (cn_tell C Lg.holdD)) {f : Addr} {fd : FuncData} (Fu : Fun K "holders" "holders" s_holders f fd) :
    FnD P w K mg base 13 f fd ["log"] (cn_log fun qs => .list (Lg.of qs).holdD) := by
  refine fnD_of Fu sc_holders (fun rs M R h => ?_) fun cdv A outer s H hgd hr => ⟨_, (pdb_one (pds_ret (pd_methH0 (pl := _) L_Ledger.cl M_Ledger_holders hgd (hr.mono (by first | decide | omega)) (pd_makeH K_Ledger hgd (hr.mono (by first | decide | omega)) (by rfl) (pda_cons (pd_var 0) pda_nil))))), ?_⟩
  · obtain ⟨p, rfl, _⟩ := h
    rfl
  · rintro rs M R ⟨qs, rfl, ok, hl, hk⟩
    walk_at "start"
    walk_at "run"
    intro p hp
    refine ⟨p, qs, M, rfl, upM_same, hp, Le.up (Le.refl M) hp, ok, hl, fun M' x ka W => ⟨rfl, ?_⟩⟩
    have m1 := W.mp
    walk_at "run"
    exact ⟨p, M, x, ka, _, rfl, W, Lg.of_in qs, (Lg.of_sz qs).mono (by omega), upR.le hk W.le⟩
end
end LW

set_option Elab.async false
set_option linter.all false
set_option maxRecDepth 100000
set_option maxHeartbeats 4000000
namespace LW
open PySem PySem.Spec L2 DL
local macro_rules | `(tactic| walk_at "mem") => `(tactic| ((repeat rw [upM_ne (by assumption)]); first | exact upM_same | assumption))
local macro_rules | `(tactic| walk_at "look") => `(tactic| first | rfl | assumption | exact atI_map0 | exact atI_map1 | walk_at "mem" | (with_reducible apply lsOf_m; walk_at "mem") | (with_reducible apply sqOf_m; walk_at "mem") | (with_reducible apply rlOf_m; walk_at "mem") | (with_reducible apply sqOf'_m; walk_at "mem") | (with_reducible apply tru_l; walk_at "mem") | (with_reducible apply tru_d; walk_at "mem") | ((simp (discharger := assumption) only [sqOf, sqOf', rlOf, lsOf, tru, upM_same, upM_ne]) <;> rfl))
local macro_rules | `(tactic| walk_at "set") => `(tactic| (simp only [wipeD, List.set_cons_zero, List.set_cons_succ, List.set_nil]; rfl))
local macro_rules | `(tactic| walk_at "side") => `(tactic| first | omega | (simp only [List.length_map, List.length_cons, List.length_nil]; omega) | assumption | rfl | decide | exact ⟨by omega, by omega⟩ | exact Nat.le_of_ble_eq_true rfl)
local macro_rules | `(tactic| walk_at "head") => `(tactic| with_reducible conv => whnf)
local macro_rules | `(tactic| walk_at "step") => `(tactic| (walk_at "head"; first
  | ((with_reducible apply gN_go); (focus walk_at "set"))
  | ((with_reducible apply e1s); (focus rfl))
  | ((with_reducible apply e1); (focus walk_at "look"))
  | ((with_reducible apply e2); (focus walk_at "look"); (focus walk_at "look"))
  | ((with_reducible apply l1); (focus walk_at "look"))
  | ((with_reducible apply l2); (focus walk_at "look"); (focus walk_at "look"))
  | ((with_reducible apply e3); (focus walk_at "look"); (focus walk_at "look"); (focus walk_at "look"))
  | ((with_reducible apply e0a); (focus walk_at "look"))
  | ((with_reducible apply And.intro); (focus walk_at "side"))
  | ((with_reducible apply d1); (focus walk_at "look"))
  | ((with_reducible apply d2); (focus walk_at "look"); (focus walk_at "look"))
  | ((with_reducible apply d3); (focus walk_at "look"); (focus walk_at "look"); (focus walk_at "look"))
  | ((with_reducible apply d0); (focus walk_at "look"))
  | ((with_reducible apply lk1); (focus walk_at "look"))
  | with_reducible apply gw2_go
  | with_reducible apply gw3_go
  | with_reducible apply gs_go
  | with_reducible apply gt2_go
  | with_reducible apply gt3_go
  | with_reducible apply gt1_go
  | with_reducible apply gt4_go
  | with_reducible apply gt5_go
  | with_reducible apply gt6_go
  | with_reducible apply gt7_go
  | with_reducible apply gt8_go
  | with_reducible apply ift_go
  | with_reducible apply iff_go
  | ((with_reducible apply ifT_go); (focus rfl))
  | ((with_reducible apply ifF_go); (focus rfl))))
local macro_rules | `(tactic| walk_at "run") => `(tactic| (repeat walk_at "step"); walk_at "head")
local macro_rules | `(tactic| walk_at "start") => `(tactic| simp only [startD, List.map_cons, List.map_nil, List.length_cons, List.length_nil, List.replicate, List.cons_append, List.nil_append, Nat.reduceAdd, Nat.reduceSub, bodyK])
def freeD : PyData := .tuple [.str "free"]
def bareD : PyData := .tuple [.str "leaf", .tuple []]
def first (p : Int) : PyData := if p = 0 then bareD else freeD
def imgD (e : Int × PyData) : PyData := .tuple [.int e.1, e.2]
def cn_first : Cn := fun rs M R => ∃ p, rs = [.i p] ∧ R (.d (imgD (0, first p))) M
/-- the records with their numbers, from the n-th on, that change the page -/
def chg (p : Int) : Int → List Rc → List (Int × Rc)
  | _, [] => []
  | n, q :: r => if q.page = some p then (n, q) :: chg p (n + 1) r else chg p (n + 1) r
def recD (e : Int × Rc) : PyData := .tuple [.int e.1, e.2.d]
theorem chg_zip (p : Int) : ∀ (qs : List Rc) (n : Nat), ((qs.zipIdx n).filterMap fun e : Rc × Nat => if e.1.page = some p then some (Sl.d (recD ((e.2 : Int) + 1, e.1))) else none) = ((chg p (n + 1) qs).map recD).map Sl.d
  | [], _ => rfl
  | q :: r, n => by
    have ih := chg_zip p r (n + 1)
    rw [List.zipIdx_cons, chg]
    by_cases h : q.page = some p
    · rw [List.filterMap_cons_some (b := Sl.d (recD ((n : Int) + 1, q))) (by rw [if_pos h]), if_pos h, ih]
      simp only [List.map_cons, Int.natCast_add, Int.cast_ofNat_Int]
    · rw [List.filterMap_cons_none (by rw [if_neg h]), if_neg h, ih]
      simp only [Int.natCast_add, Int.cast_ofNat_Int]
section
variable {P : Program} {w : World} {K : PySem.W.Frag} {mg : Str → Option Value} {base : Heap} {C : Addr}
theorem ok_first (T : Tx K mg) {f : Addr} {fd : FuncData} (Fu : Fun K "first_image" "first_image" s_first_image f fd) : FnD P w K mg base 1 f fd ["page"] cn_first := by
  refine fnD_of Fu sc_first_image (fun rs M R h => ?_) fun cdv A outer s H hgd hr => ⟨_, (pdb_one (pds_ret (pd_tup (pda_cons pd_int (pda_cons (pd_if (pdt_cmp (o_eq hr.units) (pd_var 0) (pd_gI (by rfl) T.c_ROOT) (nomark _)) (pd_gD (by rfl) T.c_BARE) (pd_gD (by rfl) T.c_FREE)) pda_nil))))), ?_⟩
  · obtain ⟨p, rfl, _⟩ := h
    rfl
  · rintro rs M R ⟨p, rfl, hk⟩
    walk_at "start"
    walk_at "run"
    unfold first at hk
    apply ifd_go
    · intro e
      rw [if_pos e] at hk
      walk_at "run"
      exact upR.of hk
    · intro e
      rw [if_neg e] at hk
      walk_at "run"
      exact upR.of hk
theorem tup_log {qs : List Rc} (ok : ∀ q ∈ qs, Rc.Ok q) : tupO (.tuple (qs.map Rc.d)) = true := by
  rw [tupO]
  induction qs with
  | nil => rfl
  | cons q r ih => rw [List.map_cons, tupOs, (ok q (List.mem_cons_self ..)).tup, ih fun x hx => ok x (List.mem_cons_of_mem _ hx)]; rfl
theorem dep_log {qs : List Rc} (ok : ∀ q ∈ qs, Rc.Ok q) : (PyData.tuple (qs.map Rc.d)).depth ≤ 8 := by
  rw [PyData.depth]
  have : PyData.depthAll (qs.map Rc.d) ≤ 7 := by
    induction qs with
    | nil => decide
    | cons q r ih =>
      have h1 := (ok q (List.mem_cons_self ..)).dep
      have h2 := ih fun x hx => ok x (List.mem_cons_of_mem _ hx)
      rw [List.map_cons, PyData.depthAll]
      omega
  omega
theorem szs_log {qs : List Rc} (ok : ∀ q ∈ qs, Rc.Ok q) : szs WD (qs.map Rc.d) ≤ 2002 * qs.length := by
  induction qs with
  | nil => decide
  | cons q r ih =>
    have h1 := (ok q (List.mem_cons_self ..)).size
    have h2 := ih fun x hx => ok x (List.mem_cons_of_mem _ hx)
    rw [List.map_cons, szs, List.length_cons]
    omega
theorem sz_log {qs : List Rc} (ok : ∀ q ∈ qs, Rc.Ok q) (hl : qs.length ≤ 8000) : sz WD (.tuple (qs.map Rc.d)) ≤ 16777216 := by
  have := szs_log ok
  rw [sz]
  omega
theorem ok_changes (T : Tx K mg) (H_tupled : Has P w K mg base 9 "tupled" s_tupled ["thing"] (cn_deep tpD 8)) (H_page_of : Has P w K mg base 1 "page_of" s_page_of ["record"] cn_page) {f : Addr} {fd : FuncData} (Fu : Fun K "changes_of" "changes_of" s_changes_of f fd) :
    FnD P w K mg base 10 f fd ["log", "page"] (cn_logI (fun qs p => .list ((chg p 1 qs).map recD)) fun qs _ => qs.length ≤ 8000) := by
  refine fnD_of Fu sc_changes_of (fun rs M R h => ?_) fun cdv A outer s H hgd hr => ⟨_, (pdb_one (pds_ret (pd_lc (own := [("at", 2), ("record", 3)]) rfl sc_changes_of.nd (pdi_enumT (by rfl) T.z_enumerate (pda_cons (pd_fn H_tupled hgd (hr.mono (by first | decide | omega)) (by rfl) (pda_cons (pd_var 0) pda_nil)) pda_nil)) (blkOk_by (N := N_changes_of) (sc := defScope s_changes_of) (by decide +kernel)) (fun _ _ _ _ _ => (pdgw_tup (n := 2) rfl (pdgsw_cons (pdgw_name 2 sc_changes_of.nd) (pdgsw_cons (pdgw_name 3 sc_changes_of.nd) pdgsw_nil)))) (fun _ _ _ _ _ => (pdts_one (pdt_cmp (o_eq hr.units) (pd_fn H_page_of hgd (hr.mono (by first | decide | omega)) (by rfl) (pda_cons (pd_var 3) pda_nil)) (pd_var 1) (nomark _)))) (fun _ _ _ _ _ => (pd_tup (pda_cons (pd_op o_plus (pd_var 2) pd_int) (pda_cons (pd_var 3) pda_nil))))))), ?_⟩
  · obtain ⟨p, n, rfl, _⟩ := h
    rfl
  · rintro rs M R ⟨qs, p, rfl, ok, hl, ho, hk⟩
    walk_at "start"
    walk_at "run"
    refine ⟨_, rfl, dep_log ok, sz_log ok ho, ?_⟩
    rw [tp_id (tup_log ok)]
    walk_at "run"
    rw [show enumS (qs.map Rc.d) = (qs.zipIdx 0).map fun e : Rc × Nat => Sl.w [.int (e.2 : Int), e.1.d] from by unfold enumS; rw [List.zipIdx_map, List.map_map]; rfl]
    refine lc_fm (qs.zipIdx 0) _ (fun e : Rc × Nat => if e.1.page = some p then some (.d (recD ((e.2 : Int) + 1, e.1))) else none) trivial (by rw [List.length_zipIdx, sizeLine_eq]; omega) (fun e he k1 k0 h1 h0 => ?_) ?_
    · obtain ⟨q, i⟩ := e
      walk_at "run"
      refine ⟨q, rfl, ?_⟩
      cases hp : q.page with
      | none =>
        have h0 := h0 (if_neg (by rw [hp]; exact fun z => by cases z))
        rw [show oD none = PyData.none from rfl]
        walk_at "run"
        exact h0
      | some n =>
        walk_at "run"
        apply ifd_go
        · intro e
          have h1 := h1 (.d (recD ((i : Int) + 1, q))) (if_pos (by rw [hp, e]))
          walk_at "run"
          exact h1
        · intro e
          exact h0 (if_neg (by rw [hp]; exact fun z => e (by injection z)))
    · rw [chg_zip, show ((0 : Nat) : Int) + 1 = 1 from rfl]
      exact ⟨_, datOf_map _, upR.of hk⟩
/-! ### what a record makes of a content -/
def esOf : PyData → List (Int × PyData)
  | .tuple [_, .tuple xs] => xs.filterMap fun x => match x with
    | .tuple [.int k, s] => some (k, s)
    | _ => none
  | _ => []
def layD (c : PyData) : Rc → PyData
  | .shape _ _ _ _ a => a
  | .unshape _ _ _ b _ => b
  | .put _ _ _ k _ n => leafE (wsE (esOf c) k n)
  | .undo _ _ _ k o _ => leafE (wsE (esOf c) k o)
  | .clean _ k => leafE (wsE (esOf c) k .none)
  | _ => c
structure CtG (c : PyData) : Prop where
  tup : tupO c = true
  dep : c.depth ≤ 8
  size : sz WD c ≤ 16777216
/-- the record can be laid on it -/
structure LayOk (c : PyData) (q : Rc) : Prop where
  g : CtG c
  l : Lays c q.d (layD c q)
def VOk : PyData → List (Int × Rc) → Prop
  | _, [] => True
  | c, e :: r => LayOk c e.2 ∧ VOk (layD c e.2) r
def verL : PyData → List (Int × Rc) → List (Int × PyData)
  | _, [] => []
  | c, e :: r => (e.1, layD c e.2) :: verL (layD c e.2) r
def vers (qs : List Rc) (p : Int) : List (Int × PyData) := (0, first p) :: verL (first p) (chg p 1 qs)
def vlog (qs : List Rc) (p : Int) : Prop := qs.length ≤ 8000 ∧ VOk (first p) (chg p 1 qs)
theorem chg_len (p : Int) : ∀ (qs : List Rc) (n : Int), (chg p n qs).length ≤ qs.length
  | [], _ => Nat.le_refl _
  | q :: r, n => by
    have := chg_len p r (n + 1)
    rw [chg]
    split
    · simp only [List.length_cons]; omega
    · simp only [List.length_cons]; omega
theorem chg_mem {p : Int} {e : Int × Rc} : ∀ {qs : List Rc} {n : Int}, e ∈ chg p n qs → e.2 ∈ qs
  | [], _, h => by cases h
  | q :: r, n, h => by
    rw [chg] at h
    split at h
    · rcases List.mem_cons.mp h with e2 | h
      · rw [e2]; exact List.mem_cons_self ..
      · exact List.mem_cons_of_mem _ (chg_mem h)
    · exact List.mem_cons_of_mem _ (chg_mem h)
theorem ok_versions (T : Tx K mg) (H_first_image : Has P w K mg base 1 "first_image" s_first_image ["page"] cn_first) (H_laid : Has P w K mg base 10 "laid" s_laid ["content", "record"] cn_laid)
    (H_changes_of : Has P w K mg base 10 "changes_of" s_changes_of ["log", "page"] (cn_logI (fun qs p => .list ((chg p 1 qs).map recD)) fun qs _ => qs.length ≤ 8000)) {f : Addr} {fd : FuncData} (Fu : Fun K "versions" "versions" s_versions f fd) :
    FnD P w K mg base 11 f fd ["log", "page"] (cn_logI (fun qs p => .list ((vers qs p).map imgD)) vlog) := by
  refine fnD_of Fu sc_versions (fun rs M R h => ?_) fun cdv A outer s H hgd hr => ⟨_, (pdb_cons (pds_set 2 sc_versions.nd (pd_lstM (pda_cons (pd_fn H_first_image hgd (hr.mono (by first | decide | omega)) (by rfl) (pda_cons (pd_var 1) pda_nil)) pda_nil)))
      (pdb_cons (pds_for PassesOwn.never rfl (pdi_seq (pd_fn H_changes_of hgd (hr.mono (by first | decide | omega)) (by rfl) (pda_cons (pd_var 0) (pda_cons (pd_var 1) pda_nil)))) (pdg_tup (n := 2) rfl (pdgs_cons (pdg_name 3 sc_versions.nd) (pdgs_cons (pdg_name 4 sc_versions.nd) pdgs_nil))) (pdb_one (pds_expr (pd_append (pd_var 2) (pda_cons (pd_tup (pda_cons (pd_var 3) (pda_cons (pd_fn H_laid hgd (hr.mono (by first | decide | omega)) (by rfl) (pda_cons (pd_ix (pd_ix (pd_var 2) (pd_neg pd_int)) pd_int) (pda_cons (pd_var 4) pda_nil))) pda_nil))) pda_nil)))))
      (pdb_one (pds_ret (pd_var 2))))), ?_⟩
  · obtain ⟨p, n, rfl, _⟩ := h
    rfl
  · rintro rs M R ⟨qs, p, rfl, ok, hl, ⟨ho, hv⟩, hk⟩
    walk_at "start"
    walk_at "run"
    refine ⟨p, rfl, ?_⟩
    walk_at "run"
    intro a ha
    walk_at "run"
    refine ⟨qs, p, rfl, ok, hl, ho, ?_⟩
    walk_at "run"
    refine for_ind (fun rest dl M' => ∃ (cs : List (Int × Rc)) (done : List (Int × PyData)) (l : Int) (c : PyData) (x3 x4 : Option Sl), rest = (cs.map recD).map Sl.d ∧ VOk c cs ∧ (∀ e ∈ cs, e.2.Ok) ∧ done ++ (l, c) :: verL c cs = vers qs p ∧ done.length + cs.length ≤ 8001 ∧ M' = upM M a (.lst ((done ++ [(l, c)]).map fun e => Sl.d (imgD e))) ∧ dl = [some (.d (.tuple (qs.map Rc.d))), some (.i p), some (.v (.ref a)), x3, x4]) ?_ ?_ ⟨chg p 1 qs, [], 0, first p, _, _, rfl, hv, fun e he => ok _ (chg_mem he), rfl, by have := chg_len p qs 1; simp only [List.length_nil]; omega, rfl, rfl⟩
    · rintro dl M' ⟨cs, done, l, c, x3, x4, e1, v1, o1, e2, l1, rfl, rfl⟩
      cases cs with
      | cons z cs => cases e1
      | nil =>
        refine ⟨trivial, ?_⟩
        walk_at "run"
        have e3 : done ++ [(l, c)] = vers qs p := e2
        refine ⟨_, _, Vw.frz (ds := (done ++ [(l, c)]).map imgD) (by rw [upM_same, mapD_d]) (Le.up (Le.refl M) ha) ha, ?_⟩
        rw [e3]
        exact hk
    · rintro z xs nx dl M' hnx ⟨cs, done, l, c, x3, x4, e1, v1, o1, e2, l1, rfl, rfl⟩
      cases cs with
      | nil => cases e1
      | cons e cs =>
        cases e1
        refine ⟨trivial, ?_⟩
        obtain ⟨n, q⟩ := e
        obtain ⟨lk, v2⟩ := v1
        have oq := o1 _ (List.mem_cons_self ..)
        rw [show recD (n, q) = .tuple [.int n, q.d] from rfl]
        walk_at "run"
        refine ⟨_, .d (.tuple [.int l, c]), sqOf_m upM_same, atI_last (by rw [List.getLast?_map, List.getLast?_append]; rfl), ?_⟩
        walk_at "run"
        refine ⟨c, q.d, layD c q, rfl, lk.g.dep, Nat.le_trans oq.dep (by decide), lk.g.size, Nat.le_trans oq.size (by decide), by rw [tp_id lk.g.tup, tp_id oq.tup]; exact lk.l, ?_⟩
        have hz : (done ++ [(l, c)]).length < sizeLine := by simp only [List.length_append, List.length_cons, List.length_nil, sizeLine_eq] at *; omega
        walk_at "run"
        exact hnx _ _ ⟨cs, done ++ [(l, c)], n, layD c q, _, _, rfl, v2, fun e he => o1 e (List.mem_cons_of_mem _ he), by rw [← e2, List.append_assoc]; rfl, by simp only [List.length_append, List.length_cons, List.length_nil] at *; omega, by rw [upM_upM, List.map_append (l₁ := done ++ [(l, c)])]; rfl, rfl⟩
end
end LW

set_option Elab.async false
set_option linter.all false
set_option maxRecDepth 100000
set_option maxHeartbeats 4000000
namespace LW
open PySem PySem.Spec L2 DL
local macro_rules | `(tactic| walk_at "mem") => `(tactic| ((repeat rw [upM_ne (by assumption)]); first | exact upM_same | assumption))
local macro_rules | `(tactic| walk_at "look") => `(tactic| first | rfl | assumption | exact atI_map0 | exact atI_map1 | walk_at "mem" | (with_reducible apply lsOf_m; walk_at "mem") | (with_reducible apply sqOf_m; walk_at "mem") | (with_reducible apply rlOf_m; walk_at "mem") | (with_reducible apply sqOf'_m; walk_at "mem") | (with_reducible apply tru_l; walk_at "mem") | (with_reducible apply tru_d; walk_at "mem") | ((simp (discharger := assumption) only [sqOf, sqOf', rlOf, lsOf, tru, upM_same, upM_ne]) <;> rfl))
local macro_rules | `(tactic| walk_at "set") => `(tactic| (simp only [wipeD, List.set_cons_zero, List.set_cons_succ, List.set_nil]; rfl))
local macro_rules | `(tactic| walk_at "side") => `(tactic| first | omega | (simp only [List.length_map, List.length_cons, List.length_nil]; omega) | assumption | rfl | decide | exact ⟨by omega, by omega⟩ | exact Nat.le_of_ble_eq_true rfl)
local macro_rules | `(tactic| walk_at "head") => `(tactic| with_reducible conv => whnf)
local macro_rules | `(tactic| walk_at "step") => `(tactic| (walk_at "head"; first
  | ((with_reducible apply gN_go); (focus walk_at "set"))
  | ((with_reducible apply e1s); (focus rfl))
  | ((with_reducible apply e1); (focus walk_at "look"))
  | ((with_reducible apply e2); (focus walk_at "look"); (focus walk_at "look"))
  | ((with_reducible apply l1); (focus walk_at "look"))
  | ((with_reducible apply l2); (focus walk_at "look"); (focus walk_at "look"))
  | ((with_reducible apply e3); (focus walk_at "look"); (focus walk_at "look"); (focus walk_at "look"))
  | ((with_reducible apply e0a); (focus walk_at "look"))
  | ((with_reducible apply And.intro); (focus walk_at "side"))
  | ((with_reducible apply d1); (focus walk_at "look"))
  | ((with_reducible apply d2); (focus walk_at "look"); (focus walk_at "look"))
  | ((with_reducible apply d3); (focus walk_at "look"); (focus walk_at "look"); (focus walk_at "look"))
  | ((with_reducible apply d0); (focus walk_at "look"))
  | ((with_reducible apply lk1); (focus walk_at "look"))
  | with_reducible apply gw2_go
  | with_reducible apply gw3_go
  | with_reducible apply gs_go
  | with_reducible apply gt2_go
  | with_reducible apply gt3_go
  | with_reducible apply gt1_go
  | with_reducible apply gt4_go
  | with_reducible apply gt5_go
  | with_reducible apply gt6_go
  | with_reducible apply gt7_go
  | with_reducible apply gt8_go
  | with_reducible apply ift_go
  | with_reducible apply iff_go
  | ((with_reducible apply ifT_go); (focus rfl))
  | ((with_reducible apply ifF_go); (focus rfl))))
local macro_rules | `(tactic| walk_at "run") => `(tactic| (repeat walk_at "step"); walk_at "head")
local macro_rules | `(tactic| walk_at "start") => `(tactic| simp only [startD, List.map_cons, List.map_nil, List.length_cons, List.length_nil, List.replicate, List.cons_append, List.nil_append, Nat.reduceAdd, Nat.reduceSub, bodyK])
local macro_rules | `(tactic| walk_at "side") => `(tactic| (rw [kS_len, sizeLine_eq]; omega))
/-- the last one up to n -/
def rep (qs : List Rc) (p n : Int) : Int × PyData := (((vers qs p).filter fun e => decide (e.1 ≤ n)).getLast?).getD (0, first p)
def cn_replay : Cn := fun rs M R => ∃ (qs : List Rc) (p n : Int), rs = [.d (.tuple (qs.map Rc.d)), .i p, .i n] ∧ (∀ q ∈ qs, q.Ok) ∧ vlog qs p ∧ 0 ≤ n ∧ R (.d (imgD (rep qs p n))) M
abbrev mS : List (Int × (Int × PyData)) → KS := kS fun e => Sl.d (imgD e)
/-- the pages that change, with their last images -/
def imgs : Int → List Rc → List (Int × (Int × PyData)) → List (Int × (Int × PyData))
  | _, [], t => t
  | n, q :: r, t => match q.page with
    | none => imgs (n + 1) r t
    | some p => imgs (n + 1) r (putA p (n, layD ((getA p t).getD (0, first p)).2 q) t)
def IOk : Int → List Rc → List (Int × (Int × PyData)) → Prop
  | _, [], _ => True
  | n, q :: r, t => match q.page with
    | none => IOk (n + 1) r t
    | some p => LayOk ((getA p t).getD (0, first p)).2 q ∧ IOk (n + 1) r (putA p (n, layD ((getA p t).getD (0, first p)).2 q) t)
def cn_imgs : Cn := fun rs M R => ∃ (qs : List Rc), rs = [.d (.tuple (qs.map Rc.d))] ∧ (∀ q ∈ qs, q.Ok) ∧ qs.length ≤ 8000 ∧ IOk 1 qs [] ∧ ∀ a, M a = none → R (.v (.ref a)) (upM M a (.dic (mS (imgs 1 qs []))))
theorem fm_filter (n : Int) : ∀ l : List (Int × PyData), (l.filterMap fun e => if e.1 ≤ n then some (Sl.d (imgD e)) else none) = ((l.filter fun e => decide (e.1 ≤ n)).map imgD).map Sl.d
  | [] => rfl
  | e :: r => by
    have ih := fm_filter n r
    by_cases h : e.1 ≤ n
    · rw [List.filterMap_cons_some (b := Sl.d (imgD e)) (by rw [if_pos h]), List.filter_cons_of_pos (by exact decide_eq_true h), ih]; rfl
    · rw [List.filterMap_cons_none (by rw [if_neg h]), List.filter_cons_of_neg (by simpa using h), ih]
section
variable {P : Program} {w : World} {K : PySem.W.Frag} {mg : Str → Option Value} {base : Heap} {C : Addr}
theorem ok_replay (T : Tx K mg) (H_versions : Has P w K mg base 11 "versions" s_versions ["log", "page"] (cn_logI (fun qs p => .list ((vers qs p).map imgD)) vlog)) {f : Addr} {fd : FuncData} (Fu : Fun K "replay" "replay" s_replay f fd) :
    FnD P w K mg base 12 f fd ["log", "page", "lsn"] cn_replay := by
  refine fnD_of Fu sc_replay (fun rs M R h => ?_) fun cdv A outer s H hgd hr => ⟨_, (pdb_one (pds_ret (pd_ix (pd_lc (own := [("image", 3)]) rfl sc_replay.nd (pdi_seq (pd_fn H_versions hgd (hr.mono (by first | decide | omega)) (by rfl) (pda_cons (pd_var 0) (pda_cons (pd_var 1) pda_nil)))) (blkOk_by (N := N_replay) (sc := defScope s_replay) (by decide +kernel)) (fun _ _ _ _ _ => (pdgw_name 3 sc_replay.nd)) (fun _ _ _ _ _ => (pdts_one (pdt_cmp o_le (pd_ix (pd_var 3) pd_int) (pd_var 2) (nomark _)))) (fun _ _ _ _ _ => (pd_var 3))) (pd_neg pd_int)))), ?_⟩
  · obtain ⟨p, n, l, rfl, _⟩ := h
    rfl
  · rintro rs M R ⟨qs, p, n, rfl, ok, hv, h0, hk⟩
    walk_at "start"
    walk_at "run"
    refine ⟨qs, p, rfl, ok, Nat.le_trans hv.1 (by decide), hv, ?_⟩
    walk_at "run"
    rw [← mapD_d]
    have lv : (vers qs p).length ≤ 8001 := by
      have h1 : ∀ (cs : List (Int × Rc)) c, (verL c cs).length = cs.length := fun cs => by
        induction cs with
        | nil => intro c; rfl
        | cons e r ih => intro c; rw [verL, List.length_cons, List.length_cons, ih]
      have := chg_len p qs 1
      have := hv.1
      unfold vers
      rw [List.length_cons, h1]
      omega
    refine lc_fm (vers qs p) _ (fun e => if e.1 ≤ n then some (.d (imgD e)) else none) trivial (by rw [sizeLine_eq]; omega) (fun e he k1 k0 h1 h0 => ?_) ?_
    · rw [show imgD e = .tuple [.int e.1, e.2] from rfl] at *
      walk_at "run"
      apply ifd_go
      · intro e2
        walk_at "run"
        exact h1 _ (if_pos e2)
      · intro e2
        exact h0 (if_neg e2)
    · rw [fm_filter]
      refine ⟨_, datOf_map _, ?_⟩
      walk_at "run"
      refine ⟨_, .d (imgD (rep qs p n)), rfl, atI_last ?_, upR.of hk⟩
      rw [List.getLast?_map, List.getLast?_map]
      have e : ((vers qs p).filter fun e => decide (e.1 ≤ n)) = (0, first p) :: ((verL (first p) (chg p 1 qs)).filter fun e => decide (e.1 ≤ n)) := by
        unfold vers
        rw [List.filter_cons_of_pos (by exact decide_eq_true h0)]
      unfold rep
      rw [e, List.getLast?_cons]
      rfl
theorem ok_images (T : Tx K mg) (H_tupled : Has P w K mg base 9 "tupled" s_tupled ["thing"] (cn_deep tpD 8)) (H_page_of : Has P w K mg base 1 "page_of" s_page_of ["record"] cn_page) (H_first_image : Has P w K mg base 1 "first_image" s_first_image ["page"] cn_first) (H_laid : Has P w K mg base 10 "laid" s_laid ["content", "record"] cn_laid)
    {f : Addr} {fd : FuncData} (Fu : Fun K "images_after" "images_after" s_images_after f fd) : FnD P w K mg base 11 f fd ["log"] cn_imgs := by
  refine fnD_of Fu sc_images_after (fun rs M R h => ?_) fun cdv A outer s H hgd hr => ⟨_, (pdb_cons (pds_set 1 sc_images_after.nd pd_dict0)
      (pdb_cons (pds_for PassesOwn.never rfl (pdi_enumT (by rfl) T.z_enumerate (pda_cons (pd_fn H_tupled hgd (hr.mono (by first | decide | omega)) (by rfl) (pda_cons (pd_var 0) pda_nil)) pda_nil)) (pdg_tup (n := 2) rfl (pdgs_cons (pdg_name 2 sc_images_after.nd) (pdgs_cons (pdg_name 3 sc_images_after.nd) pdgs_nil))) (pdb_cons (pds_set 4 sc_images_after.nd (pd_fn H_page_of hgd (hr.mono (by first | decide | omega)) (by rfl) (pda_cons (pd_var 3) pda_nil)))
      (pdb_one (pds_if (pdt_cmp o_notN (pd_var 4) pd_non (nomark _)) (pdb_one (pds_dput (hu_of hr) (pd_var 1) (pd_var 4) (pd_tup (pda_cons (pd_op o_plus (pd_var 2) pd_int) (pda_cons (pd_fn H_laid hgd (hr.mono (by first | decide | omega)) (by rfl) (pda_cons (pd_ix (pd_get2 (hu_of hr) (pd_var 1) (pd_var 4) (pd_fn H_first_image hgd (hr.mono (by first | decide | omega)) (by rfl) (pda_cons (pd_var 4) pda_nil))) pd_int) (pda_cons (pd_var 3) pda_nil))) pda_nil))))) pdb_nil))))
      (pdb_one (pds_ret (pd_var 1))))), ?_⟩
  · obtain ⟨p, rfl, _⟩ := h
    rfl
  · rintro rs M R ⟨qs, rfl, ok, hl, io, hk⟩
    walk_at "start"
    walk_at "run"
    intro a ha
    walk_at "run"
    refine ⟨_, rfl, dep_log ok, sz_log ok hl, ?_⟩
    rw [tp_id (tup_log ok)]
    walk_at "run"
    rw [show enumS (qs.map Rc.d) = (qs.zipIdx 0).map fun e : Rc × Nat => Sl.w [.int (e.2 : Int), e.1.d] from by unfold enumS; rw [List.zipIdx_map, List.map_map]; rfl]
    refine for_ind (fun rest dl M' => ∃ (qr : List Rc) (n : Nat) (t : List (Int × (Int × PyData))) (x2 x3 x4 : Option Sl), rest = (qr.zipIdx n).map (fun e : Rc × Nat => Sl.w [.int (e.2 : Int), e.1.d]) ∧ IOk (n + 1) qr t ∧ (∀ q ∈ qr, q.Ok) ∧ imgs (n + 1) qr t = imgs 1 qs [] ∧ t.length + qr.length ≤ 8000 ∧ NdA t ∧ M' = upM M a (.dic (mS t)) ∧ dl = [some (.d (.tuple (qs.map Rc.d))), some (.v (.ref a)), x2, x3, x4]) ?_ ?_ ⟨qs, 0, [], _, _, _, rfl, by rw [show ((0 : Nat) : Int) + 1 = 1 from rfl]; exact io, ok, by rw [show ((0 : Nat) : Int) + 1 = 1 from rfl], by simp only [List.length_nil]; omega, List.nodup_nil, rfl, rfl⟩
    · rintro dl M' ⟨qr, n, t, x2, x3, x4, e1, i1, o1, e2, l1, nt, rfl, rfl⟩
      cases qr with
      | cons z cs => cases e1
      | nil =>
        refine ⟨trivial, ?_⟩
        walk_at "run"
        have e2 : t = imgs 1 qs [] := e2
        rw [e2]
        exact upR.of (hk a ha)
    · rintro z xs nx dl M' hnx ⟨qr, n, t, x2, x3, x4, e1, i1, o1, e2, l1, nt, rfl, rfl⟩
      cases qr with
      | nil => cases e1
      | cons q cs =>
        cases e1
        refine ⟨trivial, ?_⟩
        walk_at "run"
        refine ⟨q, rfl, ?_⟩
        cases hp : q.page with
        | none =>
          rw [show oD none = PyData.none from rfl]
          walk_at "run"
          rw [IOk, hp] at i1
          rw [imgs, hp] at e2
          have ec : ((n + 1 : Nat) : Int) = n + 1 := by omega
          exact hnx _ _ ⟨cs, n + 1, t, _, _, _, rfl, by rw [ec]; exact i1, fun x hx => o1 x (List.mem_cons_of_mem _ hx), by rw [ec]; exact e2, by simp only [List.length_cons] at l1; omega, nt, rfl, rfl⟩
        | some p =>
          rw [show oD (some p) = PyData.int p from rfl]
          walk_at "run"
          refine ⟨p, rfl, mS t, .inl p, _, upM_same, rfl, rfl, ?_⟩
          rw [IOk, hp] at i1
          rw [imgs, hp] at e2
          have eg : ((valS (mS t) (.inl p)).getD (Sl.d (imgD (0, first p)))) = .d (imgD ((getA p t).getD (0, first p))) := by
            rw [valS_k]
            cases getA p t <;> rfl
          rw [eg]
          have i1 : LayOk ((getA p t).getD (0, first p)).2 q ∧ IOk (n + 1 + 1) cs (putA p (n + 1, layD ((getA p t).getD (0, first p)).2 q) t) := i1
          have e2 : imgs (n + 1 + 1) cs (putA p (n + 1, layD ((getA p t).getD (0, first p)).2 q) t) = imgs 1 qs [] := e2
          generalize (getA p t).getD (0, first p) = g at *
          obtain ⟨lk, i2⟩ := i1
          have oq := o1 _ (List.mem_cons_self ..)
          have lt : t.length ≤ 8000 := by omega
          rw [show imgD g = .tuple [.int g.1, g.2] from rfl]
          walk_at "run"
          refine ⟨g.2, q.d, layD g.2 q, rfl, lk.g.dep, Nat.le_trans oq.dep (by decide), lk.g.size, Nat.le_trans oq.size (by decide), by rw [tp_id lk.g.tup, tp_id oq.tup]; exact lk.l, ?_⟩
          walk_at "run"
          have ec : ((n + 1 : Nat) : Int) = n + 1 := by omega
          refine hnx _ _ ⟨cs, n + 1, putA p ((n : Int) + 1, layD g.2 q) t, _, _, _, rfl, by rw [ec]; exact i2, fun x hx => o1 x (List.mem_cons_of_mem _ hx), by rw [ec]; exact e2, ?_, nt.put, ?_, rfl⟩
          · have := len_put (k := p) (a := ((n : Int) + 1, layD g.2 q)) t
            simp only [List.length_cons] at l1
            omega
          · rw [upM_upM]
            exact congrArg (fun z => upM M a (.dic z)) (putS_k (f := fun e => Sl.d (imgD e)) (k := p) (a := ((n : Int) + 1, layD g.2 q)) nt)
def treeM (qs : List Rc) : List (Int × (Int × PyData)) := (imgs 1 qs []).foldl (fun t e => putA e.1 e.2 t) [(0, (0, bareD))]
def insA {A : Type} (x : Int × A) : List (Int × A) → List (Int × A)
  | [] => [x]
  | y :: r => if x.1 ≤ y.1 then x :: y :: r else y :: insA x r
def srtA {A : Type} : List (Int × A) → List (Int × A)
  | [] => []
  | x :: r => insA x (srtA r)
theorem insA_map {A : Type} (f : A → PyData) (x : Int × A) : ∀ l : List (Int × A), insE (x.1, f x.2) (l.map fun e => (e.1, f e.2)) = (insA x l).map fun e => (e.1, f e.2)
  | [] => rfl
  | y :: r => by
    have ih := insA_map f x r
    rw [List.map_cons, insE, insA]
    by_cases h : x.1 ≤ y.1
    · rw [if_pos h, if_pos h]; rfl
    · rw [if_neg h, if_neg h, ih]; rfl
theorem srtA_map {A : Type} (f : A → PyData) : ∀ l : List (Int × A), srtE (l.map fun e => (e.1, f e.2)) = (srtA l).map fun e => (e.1, f e.2)
  | [] => rfl
  | x :: r => by rw [List.map_cons, srtE, srtA_map f r, insA_map]; rfl
theorem insA_len {A : Type} (x : Int × A) : ∀ l : List (Int × A), (insA x l).length = l.length + 1
  | [] => rfl
  | y :: r => by
    rw [insA]
    split
    · rfl
    · rw [List.length_cons, insA_len x r, List.length_cons]
theorem srtA_len {A : Type} : ∀ l : List (Int × A), (srtA l).length = l.length
  | [] => rfl
  | x :: r => by rw [srtA, insA_len, srtA_len r, List.length_cons]
def treeT (qs : List Rc) : List (Int × (Int × PyData)) := srtA (treeM qs)
def treeD (qs : List Rc) : List PyData := ((treeT qs).filter fun e => !(e.2.2.eqv freeD)).map fun e => .tuple [.int e.1, e.2.2]
theorem fm_tree : ∀ l : List (Int × (Int × PyData)), (l.filterMap fun e => if e.2.2.eqv freeD = true then none else some (Sl.d (.tuple [.int e.1, e.2.2]))) = ((l.filter fun e => !(e.2.2.eqv freeD)).map fun e => PyData.tuple [.int e.1, e.2.2]).map Sl.d
  | [] => rfl
  | e :: r => by
    have ih := fm_tree r
    cases h : e.2.2.eqv freeD with
    | false => rw [List.filterMap_cons_some (b := Sl.d (.tuple [.int e.1, e.2.2])) (by rw [h]; rfl), List.filter_cons_of_pos (by rw [h]; rfl), ih]; rfl
    | true => rw [List.filterMap_cons_none (by rw [h]; rfl), List.filter_cons_of_neg (by rw [h]; decide), ih]
theorem entD_m : ∀ t : List (Int × (Int × PyData)), DL.entD (mS t) = some ((t.map fun e => (e.1, imgD e.2)).map enE)
  | [] => rfl
  | (i, x) :: r => by
    have ih := entD_m r
    unfold mS kS at ih ⊢
    rw [List.map_cons, DL.entD, ih]
    rfl
theorem foldA_nd {A : Type} : ∀ (m t : List (Int × A)), NdA t → NdA (m.foldl (fun t e => putA e.1 e.2 t) t)
  | [], _, h => h
  | e :: r, t, h => foldA_nd r _ h.put
theorem foldA_len {A : Type} : ∀ (m t : List (Int × A)), (m.foldl (fun t e => putA e.1 e.2 t) t).length ≤ t.length + m.length
  | [], _ => Nat.le_refl _
  | e :: r, t => by
    have h1 := foldA_len r (putA e.1 e.2 t)
    have h2 := len_put (k := e.1) (a := e.2) t
    rw [List.foldl_cons, List.length_cons]
    omega
theorem merge_m : ∀ (m t : List (Int × (Int × PyData))), NdA t → mergeS (mS t) (mS m) = mS (m.foldl (fun t e => putA e.1 e.2 t) t)
  | [], _, _ => rfl
  | (i, x) :: r, t, h => by
    have ih := merge_m r _ (h.put (k := i) (a := x))
    have e := putS_k (f := fun e => Sl.d (imgD e)) (k := i) (a := x) h
    show mergeS (putS (mS t) (.inl i) (.d (imgD x))) (mS r) = _
    rw [show putS (mS t) (.inl i) (.d (imgD x)) = mS (putA i x t) from e, ih]
    rfl
theorem imgs_len : ∀ (qs : List Rc) (n : Int) (t : List (Int × (Int × PyData))), (imgs n qs t).length ≤ t.length + qs.length
  | [], _, _ => Nat.le_refl _
  | q :: r, n, t => by
    rw [imgs]
    split
    · have := imgs_len r (n + 1) t; simp only [List.length_cons]; omega
    · rename_i p _
      have h1 := imgs_len r (n + 1) (putA p (n, layD ((getA p t).getD (0, first p)).2 q) t)
      have h2 := len_put (k := p) (a := (n, layD ((getA p t).getD (0, first p)).2 q)) t
      simp only [List.length_cons]; omega
def cn_treeof : Cn := fun rs M R => ∃ (qs : List Rc), rs = [.d (.tuple (qs.map Rc.d))] ∧ (∀ q ∈ qs, q.Ok) ∧ qs.length ≤ 8000 ∧ IOk 1 qs [] ∧ (∀ e ∈ treeT qs, (∃ xs, e.2.2 = .tuple xs) ∧ SeqAt.shaped e.2.2 = true) ∧ R (.d (.tuple (treeD qs))) M
theorem ok_tree (T : Tx K mg) (H_first_image : Has P w K mg base 1 "first_image" s_first_image ["page"] cn_first) (H_images_after : Has P w K mg base 11 "images_after" s_images_after ["log"] cn_imgs) {f : Addr} {fd : FuncData} (Fu : Fun K "tree_of" "tree_of" s_tree_of f fd) :
    FnD P w K mg base 12 f fd ["log"] cn_treeof := by
  refine fnD_of Fu sc_tree_of (fun rs M R h => ?_) fun cdv A outer s H hgd hr => ⟨_, (pdb_cons (pds_set 1 sc_tree_of.nd (pd_disp (pdp_cons (pd_gI (by rfl) T.c_ROOT) (pd_fn H_first_image hgd (hr.mono (by first | decide | omega)) (by rfl) (pda_cons (pd_gI (by rfl) T.c_ROOT) pda_nil)) pdp_nil)))
      (pdb_cons (pds_expr (pd_update (pd_var 1) (pda_cons (pd_fn H_images_after hgd (hr.mono (by first | decide | omega)) (by rfl) (pda_cons (pd_var 0) pda_nil)) pda_nil)))
      (pdb_one (pds_ret (pd_callT c_tuple (by rfl) T.z_tuple (by decide +kernel) (pda_cons (pd_lc (own := [("page", 2), ("lsn", 3), ("content", 4)]) rfl sc_tree_of.nd (pdi_seq (pd_sortIt rfl (by rfl) T.z_sorted (pd_var 1))) (blkOk_by (N := N_tree_of) (sc := defScope s_tree_of) (by decide +kernel)) (fun _ _ _ _ _ => (pdgw_tup (n := 2) rfl (pdgsw_cons (pdgw_name 2 sc_tree_of.nd) (pdgsw_cons (pdgw_tup (n := 2) rfl (pdgsw_cons (pdgw_name 3 sc_tree_of.nd) (pdgsw_cons (pdgw_name 4 sc_tree_of.nd) pdgsw_nil))) pdgsw_nil)))) (fun _ _ _ _ _ => (pdts_one (pdt_cmp (o_ne hr.units) (pd_var 4) (pd_gD (by rfl) T.c_FREE) (nomark _)))) (fun _ _ _ _ _ => (pd_tup (pda_cons (pd_var 2) (pda_cons (pd_var 4) pda_nil))))) pda_nil)))))), ?_⟩
  · obtain ⟨p, rfl, _⟩ := h
    rfl
  · rintro rs M R ⟨qs, rfl, ok, hl, io, sh, hk⟩
    walk_at "start"
    walk_at "run"
    intro a ha
    walk_at "run"
    refine ⟨0, rfl, ?_⟩
    walk_at "run"
    refine ⟨upM_same, (show 1 ≤ 15 by decide), ?_⟩
    rw [upM_upM, show mergeS [] [(Sum.inl 0, Sl.d (imgD (0, first 0)))] = mS [(0, (0, bareD))] from rfl]
    have le0 := Le.up (o := .dic (mS [(0, (0, bareD))])) (Le.refl M) ha
    have m1 : upM M a (.dic (mS [(0, (0, bareD))])) a = some (.dic (mS [(0, (0, bareD))])) := upM_same
    generalize upM M a (.dic (mS [(0, (0, bareD))])) = M1 at *
    walk_at "run"
    refine ⟨qs, rfl, ok, hl, io, fun b hb => ?_⟩
    have nab := neM m1 hb
    have li := imgs_len qs 1 []
    have nt0 : NdA [((0 : Int), ((0 : Int), bareD))] := by unfold NdA; simp
    have lt : (treeM qs).length ≤ 8001 := by
      have := foldA_len (imgs 1 qs []) [((0 : Int), ((0 : Int), bareD))]
      simp only [List.length_cons, List.length_nil] at *
      unfold treeM
      omega
    have ndT : NdA (treeM qs) := foldA_nd _ _ nt0
    walk_at "run"
    refine ⟨_, _, (upM_ne nab).trans m1, upM_same, nab, by rw [kS_len, kS_len, sizeLine_eq]; simp only [List.length_cons, List.length_nil] at *; omega, ?_⟩
    rw [merge_m _ _ nt0, show (imgs 1 qs []).foldl (fun t e => putA e.1 e.2 t) [((0 : Int), ((0 : Int), bareD))] = treeM qs from rfl]
    have le1 : Le M (upM (upM M1 b (.dic (mS (imgs 1 qs [])))) a (.dic (mS (treeM qs)))) := fun c u e => by
      rw [upM_ne (neM e ha), upM_ne (neM (le0 c u e) hb)]; exact le0 c u e
    have m2 : upM (upM M1 b (.dic (mS (imgs 1 qs [])))) a (.dic (mS (treeM qs))) a = some (.dic (mS (treeM qs))) := upM_same
    clear m1 le0 hb
    generalize upM (upM M1 b (.dic (mS (imgs 1 qs [])))) a (.dic (mS (treeM qs))) = M2 at *
    walk_at "run"
    refine ⟨_, _, m2, entD_m _, ?_, ?_⟩
    · rw [List.map_map, List.map_map]; exact ndT
    rw [srtD_en, srtA_map, List.map_map, show srtA (treeM qs) = treeT qs from rfl]
    walk_at "run"
    rw [show ((treeT qs).map (enE ∘ fun e => (e.1, imgD e.2))).map Sl.d = (treeT qs).map fun e => Sl.d (.tuple [.int e.1, .tuple [.int e.2.1, e.2.2]]) from by rw [List.map_map]; rfl]
    have lt2 : (treeT qs).length ≤ 8001 := by unfold treeT; rw [srtA_len]; exact lt
    refine lc_fm (treeT qs) _ (fun e => if e.2.2.eqv freeD = true then none else some (.d (.tuple [.int e.1, e.2.2]))) trivial (by rw [sizeLine_eq]; omega) (fun e he k1 k0 h1 h0 => ?_) ?_
    · obtain ⟨⟨xs, hx⟩, hs⟩ := sh e he
      obtain ⟨i, l, c⟩ := e
      have hx : c = .tuple xs := hx
      subst hx
      have h0 : (if (PyData.tuple xs).eqv freeD = true then none else some (Sl.d (.tuple [.int i, .tuple xs]))) = none → k0 M2 := h0
      have h1 : ∀ y, (if (PyData.tuple xs).eqv freeD = true then none else some (Sl.d (.tuple [.int i, .tuple xs]))) = some y → k1 y M2 := h1
      walk_at "run"
      refine ⟨shaped_free, ?_⟩
      rw [show (PyData.tuple [PyData.str "free"]) = freeD from rfl]
      cases h : (PyData.tuple xs).eqv freeD with
      | true =>
        rw [h] at h0
        rw [show (!true) = false from rfl]
        walk_at "head"
        exact h0 rfl
      | false =>
        rw [h] at h1
        rw [show (!false) = true from rfl]
        have h1 := h1 _ rfl
        walk_at "run"
        exact h1
    · rw [fm_tree]
      refine e1 (datOf_map _) ?_
      walk_at "run"
      exact ⟨_, _, rfl, datOf_map _, upR.le hk le1⟩
end
end LW

set_option Elab.async false
set_option linter.all false
set_option maxRecDepth 100000
set_option maxHeartbeats 4000000
namespace LW
open PySem PySem.Spec L2 DL
/-! ### the ledger's tables, each by itself -/
def lastF : List Rc → Int → List (Int × Int) → List (Int × Int)
  | [], _, t => t
  | q :: r, n, t => match q.owner n with
    | none => lastF r (n + 1) t
    | some o => lastF r (n + 1) (putA o n t)
def opnF : List Rc → Int → KeyL → KeyL
  | [], _, t => t
  | .beg :: r, n, t => opnF r (n + 1) (putA n () t)
  | .commit o _ :: r, n, t => opnF r (n + 1) (dropA o t)
  | .fin o _ :: r, n, t => opnF r (n + 1) (dropA o t)
  | _ :: r, n, t => opnF r (n + 1) t
def holdF : List Rc → List (Int × KeyL) → List (Int × Int) → List (Int × Int)
  | [], _, h => h
  | .put o _ _ k _ _ :: r, ks, h => holdF r (putA o (putA k () ((getA o ks).getD [])) ks) (putA k o h)
  | .commit o _ :: r, ks, h => holdF r (dropA o ks) (freed ((getA o ks).getD []) h)
  | .fin o _ :: r, ks, h => holdF r (dropA o ks) (freed ((getA o ks).getD []) h)
  | _ :: r, ks, h => holdF r ks h
theorem len_add (L : Lg) (q : Rc) : ((L.add q).recs.length : Int) + 1 = (L.recs.length : Int) + 1 + 1 := by rw [Lg.add_recs, List.length_append]; simp
theorem fold_last : ∀ (qs : List Rc) (L : Lg), (qs.foldl Lg.add L).last = lastF qs (L.recs.length + 1) L.last
  | [], _ => rfl
  | q :: r, L => by
    rw [List.foldl_cons, fold_last r, len_add, lastF]
    unfold Lg.add
    cases h : q.owner (L.recs.length + 1) with
    | none => rfl
    | some o => simp only [Lg.note_last]
theorem fold_opn : ∀ (qs : List Rc) (L : Lg), (qs.foldl Lg.add L).opn = opnF qs (L.recs.length + 1) L.opn
  | [], _ => rfl
  | q :: r, L => by
    rw [List.foldl_cons, fold_opn r, len_add]
    cases q <;> rfl
theorem fold_hold : ∀ (qs : List Rc) (L : Lg), (qs.foldl Lg.add L).hold = holdF qs L.keys L.hold
  | [], _ => rfl
  | q :: r, L => by
    rw [List.foldl_cons, fold_hold r]
    cases q <;> rfl
theorem of_last (qs : List Rc) : (Lg.of qs).last = lastF qs 1 [] := fold_last qs .nil
theorem of_opn (qs : List Rc) : (Lg.of qs).opn = opnF qs 1 [] := fold_opn qs .nil
theorem of_hold (qs : List Rc) : (Lg.of qs).hold = holdF qs [] [] := fold_hold qs .nil
def todoF (qs : List Rc) (o : Int) : Int := match (getA o (lastF qs 1 [])).getD 0 with
  | 0 => 0
  | n => (qs.getD (n - 1).toNat .check).todo n
theorem of_lastOf (qs : List Rc) (o : Int) : (Lg.of qs).lastOf o = (getA o (lastF qs 1 [])).getD 0 := by unfold Lg.lastOf; rw [of_last]
theorem of_todo (qs : List Rc) (o : Int) : (Lg.of qs).todo o = (let n := (getA o (lastF qs 1 [])).getD 0; if n = 0 then 0 else (qs.getD (n - 1).toNat .check).todo n) := by
  unfold Lg.todo Lg.todoAt Lg.recA
  rw [of_lastOf, Lg.of_recs]
end LW

set_option Elab.async false
set_option linter.all false
set_option maxRecDepth 100000
set_option maxHeartbeats 4000000
namespace LW
open PySem PySem.Spec L2 DL
local macro_rules | `(tactic| walk_at "mem") => `(tactic| ((repeat rw [upM_ne (by assumption)]); first | exact upM_same | assumption))
local macro_rules | `(tactic| walk_at "look") => `(tactic| first | rfl | assumption | exact atI_map0 | exact atI_map1 | walk_at "mem" | (with_reducible apply lsOf_m; walk_at "mem") | (with_reducible apply sqOf_m; walk_at "mem") | (with_reducible apply rlOf_m; walk_at "mem") | (with_reducible apply sqOf'_m; walk_at "mem") | (with_reducible apply tru_l; walk_at "mem") | (with_reducible apply tru_d; walk_at "mem") | ((simp (discharger := assumption) only [sqOf, sqOf', rlOf, lsOf, tru, upM_same, upM_ne]) <;> rfl))
local macro_rules | `(tactic| walk_at "set") => `(tactic| (simp only [wipeD, List.set_cons_zero, List.set_cons_succ, List.set_nil]; rfl))
local macro_rules | `(tactic| walk_at "side") => `(tactic| first | omega | (simp only [List.length_map, List.length_cons, List.length_nil]; omega) | assumption | rfl | decide | exact ⟨by omega, by omega⟩ | exact Nat.le_of_ble_eq_true rfl)
local macro_rules | `(tactic| walk_at "head") => `(tactic| with_reducible conv => whnf)
local macro_rules | `(tactic| walk_at "step") => `(tactic| (walk_at "head"; first
  | ((with_reducible apply gN_go); (focus walk_at "set"))
  | ((with_reducible apply e1s); (focus rfl))
  | ((with_reducible apply e1); (focus walk_at "look"))
  | ((with_reducible apply e2); (focus walk_at "look"); (focus walk_at "look"))
  | ((with_reducible apply l1); (focus walk_at "look"))
  | ((with_reducible apply l2); (focus walk_at "look"); (focus walk_at "look"))
  | ((with_reducible apply e3); (focus walk_at "look"); (focus walk_at "look"); (focus walk_at "look"))
  | ((with_reducible apply e0a); (focus walk_at "look"))
  | ((with_reducible apply And.intro); (focus walk_at "side"))
  | ((with_reducible apply d1); (focus walk_at "look"))
  | ((with_reducible apply d2); (focus walk_at "look"); (focus walk_at "look"))
  | ((with_reducible apply d3); (focus walk_at "look"); (focus walk_at "look"); (focus walk_at "look"))
  | ((with_reducible apply d0); (focus walk_at "look"))
  | ((with_reducible apply lk1); (focus walk_at "look"))
  | with_reducible apply gw2_go
  | with_reducible apply gw3_go
  | with_reducible apply gs_go
  | with_reducible apply gt2_go
  | with_reducible apply gt3_go
  | with_reducible apply gt1_go
  | with_reducible apply gt4_go
  | with_reducible apply gt5_go
  | with_reducible apply gt6_go
  | with_reducible apply gt7_go
  | with_reducible apply gt8_go
  | with_reducible apply ift_go
  | with_reducible apply iff_go
  | ((with_reducible apply ifT_go); (focus rfl))
  | ((with_reducible apply ifF_go); (focus rfl))))
local macro_rules | `(tactic| walk_at "run") => `(tactic| (repeat walk_at "step"); walk_at "head")
local macro_rules | `(tactic| walk_at "start") => `(tactic| simp only [startD, List.map_cons, List.map_nil, List.length_cons, List.length_nil, List.replicate, List.cons_append, List.nil_append, Nat.reduceAdd, Nat.reduceSub, bodyK])
def lfD (es : List (Int × PyData)) : PyData := .tuple [.str "leaf", .tuple (es.map enE)]
section
variable (a b c d e : Int)
def lowD : PyData := lfD [(a, .int 1), (b, .int 2)]
def highD : PyData := lfD [(d, .int 3), (e, .int 4)]
def fullD : PyData := lfD [(a, .int 1), (b, .int 2), (d, .int 3), (e, .int 4)]
def inD : PyData := .tuple [.str "inner", .tuple [.tuple [.none, .int 1], .tuple [.int d, .int 2]]]
def firstR : List Rc := [.beg, .put 1 1 0 a .none (.int 1), .put 1 2 0 b .none (.int 2), .beg, .put 4 4 0 d .none (.int 3), .put 1 3 0 e .none (.int 4), .room 1 6 c 6,
  .shape 1 7 1 freeD (lowD a b), .shape 1 8 2 freeD (highD d e), .shape 1 9 0 (fullD a b d e) (inD d), .closed 1 10 6, .put 1 11 1 c .none (.int 5)]
def wholeR : List Rc := firstR a b c d e ++ [.undo 4 5 2 d .none 0, .fin 4 13, .undo 1 12 1 c .none 6, .undo 1 15 2 e .none 3]
end
def cn_lfirst : Cn := fun rs M R => ∃ a b c d e : Int, rs = [.i a, .i b, .i c, .i d, .i e] ∧ R (.d (.tuple ((firstR a b c d e).map Rc.d))) M
/-- the keys as they are drawn -/
structure Kys (a b c d e : Int) : Prop where
  a0 : 0 ≤ a
  ab : a < b
  bc : b < c
  cd : c < d
  de : d < e
  e1 : e < 10000
def cn_wright : Cn := fun rs M R => ∃ a b c d e : Int, rs = [.i a, .i b, .i c, .i d, .i e] ∧ Kys a b c d e ∧ R (.b true) M
theorem sz_i {i : Int} (h0 : 0 ≤ i) (h1 : i < 10000000) : sz WD (.int i) = 40 := by rw [sz, if_pos (by omega)]
theorem sz_w {s : Str} (h : s ∈ WD) : sz WD (.str s) = 40 := by rw [sz, if_pos h]
theorem sz_t (xs : List PyData) : sz WD (.tuple xs) = 4 + szs WD xs := by rw [sz]
theorem sz_l (xs : List PyData) : sz WD (.list xs) = 4 + szs WD xs := by rw [sz]
theorem sz_n : sz WD .none = 8 := by rw [sz]
theorem szs_0 : szs WD [] = 0 := by rw [szs]
theorem szs_c (x : PyData) (xs : List PyData) : szs WD (x :: xs) = 2 + sz WD x + szs WD xs := by rw [szs]
theorem w_leaf : sz WD (.str "leaf") = 40 := sz_w (by decide)
theorem w_inner : sz WD (.str "inner") = 40 := sz_w (by decide)
theorem w_free : sz WD (.str "free") = 40 := sz_w (by decide)
theorem w_begin : sz WD (.str "begin") = 40 := sz_w (by decide)
theorem w_put : sz WD (.str "put") = 40 := sz_w (by decide)
theorem w_undo : sz WD (.str "undo") = 40 := sz_w (by decide)
theorem w_room : sz WD (.str "room") = 40 := sz_w (by decide)
theorem w_shape : sz WD (.str "shape") = 40 := sz_w (by decide)
theorem w_unshape : sz WD (.str "unshape") = 40 := sz_w (by decide)
theorem w_closed : sz WD (.str "closed") = 40 := sz_w (by decide)
theorem w_commit : sz WD (.str "commit") = 40 := sz_w (by decide)
theorem w_end : sz WD (.str "end") = 40 := sz_w (by decide)
theorem w_check : sz WD (.str "check") = 40 := sz_w (by decide)
theorem w_restart : sz WD (.str "restart") = 40 := sz_w (by decide)
theorem Kys.sizes {a b c d e : Int} (k : Kys a b c d e) : sz WD (.int a) = 40 ∧ sz WD (.int b) = 40 ∧ sz WD (.int c) = 40 ∧ sz WD (.int d) = 40 ∧ sz WD (.int e) = 40 := by
  obtain ⟨_, _, _, _, _, _⟩ := k
  exact ⟨sz_i (by omega) (by omega), sz_i (by omega) (by omega), sz_i (by omega) (by omega), sz_i (by omega) (by omega), sz_i (by omega) (by omega)⟩
theorem whole_ok {a b c d e : Int} (k : Kys a b c d e) : ∀ q ∈ wholeR a b c d e, q.Ok := by
  intro q hq
  simp only [wholeR, firstR, List.cons_append, List.nil_append, List.mem_cons, List.not_mem_nil, or_false] at hq
  rcases hq with rfl | rfl | rfl | rfl | rfl | rfl | rfl | rfl | rfl | rfl | rfl | rfl | rfl | rfl | rfl | rfl
  all_goals exact ⟨rfl, Nat.le_of_ble_eq_true rfl, by (obtain ⟨ha, hb, hc, hd, he⟩ := k.sizes; simp [sz_t, sz_l, sz_n, szs_0, szs_c, sz_i, ha, hb, hc, hd, he, w_leaf, w_inner, w_free, w_begin, w_put, w_undo, w_room, w_shape, w_unshape, w_closed, w_commit, w_end, w_check, w_restart, lfD, freeD, bareD, lowD, highD, fullD, inD, enE, Rc.d, imgD])⟩
theorem whole_todo (a b c d e : Int) : (List.range 16).map (fun n => (Lg.of ((wholeR a b c d e).take (n + 1))).todo 1) = [0, 2, 3, 3, 3, 6, 6, 8, 9, 10, 6, 12, 12, 12, 6, 3] := by
  simp only [of_todo]
  rfl
theorem whole_open (a b c d e : Int) : [4, 9, 13, 14, 16].map (fun n => PyData.list (Lg.of ((wholeR a b c d e).take n)).opensD) =
    [.list [.tuple [.int 1, .int 3, .int 3], .tuple [.int 4, .int 4, .int 0]], .list [.tuple [.int 1, .int 9, .int 9], .tuple [.int 4, .int 5, .int 5]], .list [.tuple [.int 1, .int 12, .int 12], .tuple [.int 4, .int 13, .int 0]], .list [.tuple [.int 1, .int 12, .int 12]], .list [.tuple [.int 1, .int 16, .int 3]]] := by
  unfold Lg.opensD Lg.opens Lg.isOpen
  simp only [of_todo, of_lastOf, of_opn]
  rfl
theorem Kys.facts {a b c d e : Int} (k : Kys a b c d e) : (a ≠ b ∧ a ≠ c ∧ a ≠ d ∧ a ≠ e ∧ b ≠ c ∧ b ≠ d ∧ b ≠ e ∧ c ≠ d ∧ c ≠ e ∧ d ≠ e) ∧ (b ≠ a ∧ c ≠ a ∧ d ≠ a ∧ e ≠ a ∧ c ≠ b ∧ d ≠ b ∧ e ≠ b ∧ d ≠ c ∧ e ≠ c ∧ e ≠ d) ∧ (a ≤ b ∧ a ≤ c ∧ a ≤ d ∧ a ≤ e ∧ b ≤ c ∧ b ≤ d ∧ b ≤ e ∧ c ≤ d ∧ c ≤ e ∧ d ≤ e) ∧ (¬ b ≤ a ∧ ¬ c ≤ a ∧ ¬ d ≤ a ∧ ¬ e ≤ a ∧ ¬ c ≤ b ∧ ¬ d ≤ b ∧ ¬ e ≤ b ∧ ¬ d ≤ c ∧ ¬ e ≤ c ∧ ¬ e ≤ d) := by
  obtain ⟨_, _, _, _, _, _⟩ := k
  omega
theorem whole_hold {a b c d e : Int} (k : Kys a b c d e) : [5, 7, 13, 16].map (fun n => PyData.list (Lg.of ((wholeR a b c d e).take n)).holdD) =
    [.list [.tuple [.int a, .int 1], .tuple [.int b, .int 1], .tuple [.int d, .int 4]], .list [.tuple [.int a, .int 1], .tuple [.int b, .int 1], .tuple [.int d, .int 4], .tuple [.int e, .int 1]], .list [.tuple [.int a, .int 1], .tuple [.int b, .int 1], .tuple [.int c, .int 1], .tuple [.int d, .int 4], .tuple [.int e, .int 1]], .list [.tuple [.int a, .int 1], .tuple [.int b, .int 1], .tuple [.int c, .int 1], .tuple [.int e, .int 1]]] := by
  obtain ⟨h1, h2, h3, h4⟩ := k.facts
  unfold Lg.holdD
  simp only [of_hold]
  simp [wholeR, firstR, holdF, putA, getA, dropA, freed, srtD, insD, keyD, h1, h2, h3, h4]

theorem esOf_lf (es : List (Int × PyData)) : esOf (lfD es) = es := by
  show (es.map enE).filterMap (fun x => match x with
    | .tuple [.int k, s] => some (k, s)
    | _ => none) = es
  induction es with
  | nil => rfl
  | cons e r ih =>
    rw [List.map_cons, List.filterMap_cons, ih]
theorem lay_put {es : List (Int × PyData)} {t l p k : Int} {o n : PyData} (g : CtG (lfD es)) (hl : es.length ≤ 1000) (nd : (es.map (·.1)).Nodup) : LayOk (lfD es) (.put t l p k o n) :=
  ⟨g, by show Lays _ _ (leafE (wsE (esOf (lfD es)) k n)); rw [esOf_lf]; exact Lays.put hl nd⟩
theorem lay_undo {es : List (Int × PyData)} {t l p k u : Int} {o : PyData} (g : CtG (lfD es)) (hl : es.length ≤ 1000) (nd : (es.map (·.1)).Nodup) : LayOk (lfD es) (.undo t l p k o u) :=
  ⟨g, by show Lays _ _ (leafE (wsE (esOf (lfD es)) k o)); rw [esOf_lf]; exact Lays.undo hl nd⟩
theorem lay_shape {c b a : PyData} {t l p : Int} (g : CtG c) : LayOk c (.shape t l p b a) := ⟨g, Lays.shape⟩
theorem lay_unshape {c b : PyData} {t l p u : Int} (g : CtG c) : LayOk c (.unshape t l p b u) := ⟨g, Lays.unshape⟩
theorem laid_put {es : List (Int × PyData)} {t l p k : Int} {o n : PyData} : layD (lfD es) (.put t l p k o n) = lfD (wsE es k n) := by show leafE (wsE (esOf (lfD es)) k n) = _; rw [esOf_lf]; rfl
theorem laid_undo {es : List (Int × PyData)} {t l p k u : Int} {o : PyData} : layD (lfD es) (.undo t l p k o u) = lfD (wsE es k o) := by show leafE (wsE (esOf (lfD es)) k o) = _; rw [esOf_lf]; rfl
theorem laid_shape {c b a : PyData} {t l p : Int} : layD c (.shape t l p b a) = a := rfl
theorem laid_unshape {c b : PyData} {t l p u : Int} : layD c (.unshape t l p b u) = b := rfl
theorem bare_lf : bareD = lfD [] := rfl
theorem ctg_free : CtG freeD := ⟨rfl, Nat.le_of_ble_eq_true rfl, by decide +kernel⟩
theorem chg_w2 (a b c d e : Int) : chg 2 1 (wholeR a b c d e) = [(9, .shape 1 8 2 freeD (highD d e)), (13, .undo 4 5 2 d .none 0), (16, .undo 1 15 2 e .none 3)] := rfl
theorem chg_w1 (a b c d e : Int) : chg 1 1 (wholeR a b c d e) = [(8, .shape 1 7 1 freeD (lowD a b)), (12, .put 1 11 1 c .none (.int 5)), (15, .undo 1 12 1 c .none 6)] := rfl
theorem chg_w0 (a b c d e : Int) : chg 0 1 (wholeR a b c d e) = [(2, .put 1 1 0 a .none (.int 1)), (3, .put 1 2 0 b .none (.int 2)), (5, .put 4 4 0 d .none (.int 3)), (6, .put 1 3 0 e .none (.int 4)), (10, .shape 1 9 0 (fullD a b d e) (inD d))] := rfl
section
variable {a b c d e : Int} (k : Kys a b c d e)
include k
theorem ws_d : wsE [(d, PyData.int 3), (e, .int 4)] d .none = [(e, .int 4)] := by
  obtain ⟨h1, h2, h3, h4⟩ := k.facts
  simp [wsE, srtE, insE, isN, h1, h2, h3, h4]
theorem ws_e : wsE [(e, PyData.int 4)] e .none = [] := by simp [wsE, srtE, insE, isN]
theorem ws_c : wsE [(a, PyData.int 1), (b, .int 2)] c (.int 5) = [(a, .int 1), (b, .int 2), (c, .int 5)] := by
  obtain ⟨h1, h2, h3, h4⟩ := k.facts
  simp [wsE, srtE, insE, isN, h1, h2, h3, h4]
theorem ws_c' : wsE [(a, PyData.int 1), (b, .int 2), (c, .int 5)] c .none = [(a, .int 1), (b, .int 2)] := by
  obtain ⟨h1, h2, h3, h4⟩ := k.facts
  simp [wsE, srtE, insE, isN, h1, h2, h3, h4]
theorem ws_0a : wsE [] a (.int 1) = [(a, .int 1)] := by simp [wsE, srtE, insE, isN]
theorem ws_0b : wsE [(a, PyData.int 1)] b (.int 2) = [(a, .int 1), (b, .int 2)] := by
  obtain ⟨h1, h2, h3, h4⟩ := k.facts
  simp [wsE, srtE, insE, isN, h1, h2, h3, h4]
theorem ws_0d : wsE [(a, PyData.int 1), (b, .int 2)] d (.int 3) = [(a, .int 1), (b, .int 2), (d, .int 3)] := by
  obtain ⟨h1, h2, h3, h4⟩ := k.facts
  simp [wsE, srtE, insE, isN, h1, h2, h3, h4]
theorem ws_0e : wsE [(a, PyData.int 1), (b, .int 2), (d, .int 3)] e (.int 4) = [(a, .int 1), (b, .int 2), (d, .int 3), (e, .int 4)] := by
  obtain ⟨h1, h2, h3, h4⟩ := k.facts
  simp [wsE, srtE, insE, isN, h1, h2, h3, h4]
theorem vers_w2 : vers (wholeR a b c d e) 2 = [(0, freeD), (9, highD d e), (13, lfD [(e, .int 4)]), (16, lfD [])] := by
  unfold vers
  rw [chg_w2, show first 2 = freeD from rfl]
  simp only [verL, laid_shape, highD, laid_undo, ws_d k, ws_e k]
theorem vers_w1 : vers (wholeR a b c d e) 1 = [(0, freeD), (8, lowD a b), (12, lfD [(a, .int 1), (b, .int 2), (c, .int 5)]), (15, lfD [(a, .int 1), (b, .int 2)])] := by
  unfold vers
  rw [chg_w1, show first 1 = freeD from rfl]
  simp only [verL, laid_shape, lowD, laid_put, laid_undo, ws_c k, ws_c' k]
theorem vers_w0 : vers (wholeR a b c d e) 0 = [(0, bareD), (2, lfD [(a, .int 1)]), (3, lfD [(a, .int 1), (b, .int 2)]), (5, lfD [(a, .int 1), (b, .int 2), (d, .int 3)]), (6, fullD a b d e), (10, inD d)] := by
  unfold vers
  rw [chg_w0, show first 0 = bareD from rfl, bare_lf]
  simp only [verL, laid_shape, laid_put, ws_0a k, ws_0b k, ws_0d k, ws_0e k, fullD]
theorem vlog_w2 : vlog (wholeR a b c d e) 2 := by
  obtain ⟨h1, h2, h3, h4⟩ := k.facts
  refine ⟨Nat.le_of_ble_eq_true rfl, ?_⟩
  rw [chg_w2, show first 2 = freeD from rfl]
  simp only [VOk, laid_shape, highD, laid_undo, ws_d k, ws_e k]
  exact ⟨lay_shape ctg_free, lay_undo ⟨rfl, Nat.le_of_ble_eq_true rfl, by (obtain ⟨ha, hb, hc, hd, he⟩ := k.sizes; simp [sz_t, sz_l, sz_n, szs_0, szs_c, sz_i, ha, hb, hc, hd, he, w_leaf, w_inner, w_free, w_begin, w_put, w_undo, w_room, w_shape, w_unshape, w_closed, w_commit, w_end, w_check, w_restart, lfD, freeD, bareD, lowD, highD, fullD, inD, enE, Rc.d, imgD])⟩ (Nat.le_of_ble_eq_true rfl) (by simp [h1, h2]), lay_undo ⟨rfl, Nat.le_of_ble_eq_true rfl, by (obtain ⟨ha, hb, hc, hd, he⟩ := k.sizes; simp [sz_t, sz_l, sz_n, szs_0, szs_c, sz_i, ha, hb, hc, hd, he, w_leaf, w_inner, w_free, w_begin, w_put, w_undo, w_room, w_shape, w_unshape, w_closed, w_commit, w_end, w_check, w_restart, lfD, freeD, bareD, lowD, highD, fullD, inD, enE, Rc.d, imgD])⟩ (Nat.le_of_ble_eq_true rfl) (by simp), trivial⟩
theorem vlog_w1 : vlog (wholeR a b c d e) 1 := by
  obtain ⟨h1, h2, h3, h4⟩ := k.facts
  refine ⟨Nat.le_of_ble_eq_true rfl, ?_⟩
  rw [chg_w1, show first 1 = freeD from rfl]
  simp only [VOk, laid_shape, lowD, laid_put, laid_undo, ws_c k, ws_c' k]
  exact ⟨lay_shape ctg_free, lay_put ⟨rfl, Nat.le_of_ble_eq_true rfl, by (obtain ⟨ha, hb, hc, hd, he⟩ := k.sizes; simp [sz_t, sz_l, sz_n, szs_0, szs_c, sz_i, ha, hb, hc, hd, he, w_leaf, w_inner, w_free, w_begin, w_put, w_undo, w_room, w_shape, w_unshape, w_closed, w_commit, w_end, w_check, w_restart, lfD, freeD, bareD, lowD, highD, fullD, inD, enE, Rc.d, imgD])⟩ (Nat.le_of_ble_eq_true rfl) (by simp [h1, h2]), lay_undo ⟨rfl, Nat.le_of_ble_eq_true rfl, by (obtain ⟨ha, hb, hc, hd, he⟩ := k.sizes; simp [sz_t, sz_l, sz_n, szs_0, szs_c, sz_i, ha, hb, hc, hd, he, w_leaf, w_inner, w_free, w_begin, w_put, w_undo, w_room, w_shape, w_unshape, w_closed, w_commit, w_end, w_check, w_restart, lfD, freeD, bareD, lowD, highD, fullD, inD, enE, Rc.d, imgD])⟩ (Nat.le_of_ble_eq_true rfl) (by simp [h1, h2]), trivial⟩
theorem vlog_w0 : vlog (wholeR a b c d e) 0 := by
  obtain ⟨h1, h2, h3, h4⟩ := k.facts
  refine ⟨Nat.le_of_ble_eq_true rfl, ?_⟩
  rw [chg_w0, show first 0 = bareD from rfl, bare_lf]
  simp only [VOk, laid_shape, laid_put, ws_0a k, ws_0b k, ws_0d k, ws_0e k]
  exact ⟨lay_put ⟨rfl, Nat.le_of_ble_eq_true rfl, by (obtain ⟨ha, hb, hc, hd, he⟩ := k.sizes; simp [sz_t, sz_l, sz_n, szs_0, szs_c, sz_i, ha, hb, hc, hd, he, w_leaf, w_inner, w_free, w_begin, w_put, w_undo, w_room, w_shape, w_unshape, w_closed, w_commit, w_end, w_check, w_restart, lfD, freeD, bareD, lowD, highD, fullD, inD, enE, Rc.d, imgD])⟩ (Nat.le_of_ble_eq_true rfl) (by simp), lay_put ⟨rfl, Nat.le_of_ble_eq_true rfl, by (obtain ⟨ha, hb, hc, hd, he⟩ := k.sizes; simp [sz_t, sz_l, sz_n, szs_0, szs_c, sz_i, ha, hb, hc, hd, he, w_leaf, w_inner, w_free, w_begin, w_put, w_undo, w_room, w_shape, w_unshape, w_closed, w_commit, w_end, w_check, w_restart, lfD, freeD, bareD, lowD, highD, fullD, inD, enE, Rc.d, imgD])⟩ (Nat.le_of_ble_eq_true rfl) (by simp), lay_put ⟨rfl, Nat.le_of_ble_eq_true rfl, by (obtain ⟨ha, hb, hc, hd, he⟩ := k.sizes; simp [sz_t, sz_l, sz_n, szs_0, szs_c, sz_i, ha, hb, hc, hd, he, w_leaf, w_inner, w_free, w_begin, w_put, w_undo, w_room, w_shape, w_unshape, w_closed, w_commit, w_end, w_check, w_restart, lfD, freeD, bareD, lowD, highD, fullD, inD, enE, Rc.d, imgD])⟩ (Nat.le_of_ble_eq_true rfl) (by simp [h1, h2]), lay_put ⟨rfl, Nat.le_of_ble_eq_true rfl, by (obtain ⟨ha, hb, hc, hd, he⟩ := k.sizes; simp [sz_t, sz_l, sz_n, szs_0, szs_c, sz_i, ha, hb, hc, hd, he, w_leaf, w_inner, w_free, w_begin, w_put, w_undo, w_room, w_shape, w_unshape, w_closed, w_commit, w_end, w_check, w_restart, lfD, freeD, bareD, lowD, highD, fullD, inD, enE, Rc.d, imgD])⟩ (Nat.le_of_ble_eq_true rfl) (by simp [h1, h2]), lay_shape ⟨rfl, Nat.le_of_ble_eq_true rfl, by (obtain ⟨ha, hb, hc, hd, he⟩ := k.sizes; simp [sz_t, sz_l, sz_n, szs_0, szs_c, sz_i, ha, hb, hc, hd, he, w_leaf, w_inner, w_free, w_begin, w_put, w_undo, w_room, w_shape, w_unshape, w_closed, w_commit, w_end, w_check, w_restart, lfD, freeD, bareD, lowD, highD, fullD, inD, enE, Rc.d, imgD])⟩, trivial⟩
theorem rep_w0 : rep (wholeR a b c d e) 0 9 = (6, fullD a b d e) := by unfold rep; rw [vers_w0 k]; rfl
theorem rep_w1 : rep (wholeR a b c d e) 1 14 = (12, lfD [(a, .int 1), (b, .int 2), (c, .int 5)]) := by unfold rep; rw [vers_w1 k]; rfl
theorem imgs_w : imgs 1 (wholeR a b c d e) [] = [(0, (10, inD d)), (1, (15, lfD [(a, .int 1), (b, .int 2)])), (2, (16, lfD []))] := by
  simp only [wholeR, firstR, List.cons_append, List.nil_append, imgs, Rc.page, getA, putA, Option.getD, first, bare_lf, laid_put, laid_shape, laid_undo, ws_0a k, ws_0b k, ws_0d k, ws_0e k, highD, lowD, fullD]
  simp [imgs, Rc.page, getA, putA, laid_put, laid_shape, laid_undo, ws_0a k, ws_0b k, ws_0d k, ws_0e k, ws_c k, ws_c' k, ws_d k, ws_e k]
theorem treeT_w : treeT (wholeR a b c d e) = [(0, (10, inD d)), (1, (15, lfD [(a, .int 1), (b, .int 2)])), (2, (16, lfD []))] := by unfold treeT treeM; rw [imgs_w k]; rfl
theorem treeD_w : treeD (wholeR a b c d e) = [.tuple [.int 0, inD d], .tuple [.int 1, lfD [(a, .int 1), (b, .int 2)]], .tuple [.int 2, lfD []]] := by unfold treeD; rw [treeT_w k]; rfl
theorem iok_w : IOk 1 (wholeR a b c d e) [] := by
  obtain ⟨h1, h2, h3, h4⟩ := k.facts
  have p0 : LayOk (lfD []) (.put 1 1 0 a .none (.int 1)) := lay_put ⟨rfl, Nat.le_of_ble_eq_true rfl, by (obtain ⟨ha, hb, hc, hd, he⟩ := k.sizes; simp [sz_t, sz_l, sz_n, szs_0, szs_c, sz_i, ha, hb, hc, hd, he, w_leaf, w_inner, w_free, w_begin, w_put, w_undo, w_room, w_shape, w_unshape, w_closed, w_commit, w_end, w_check, w_restart, lfD, freeD, bareD, lowD, highD, fullD, inD, enE, Rc.d, imgD])⟩ (Nat.le_of_ble_eq_true rfl) (by simp)
  have p1 : LayOk (lfD [(a, .int 1)]) (.put 1 2 0 b .none (.int 2)) := lay_put ⟨rfl, Nat.le_of_ble_eq_true rfl, by (obtain ⟨ha, hb, hc, hd, he⟩ := k.sizes; simp [sz_t, sz_l, sz_n, szs_0, szs_c, sz_i, ha, hb, hc, hd, he, w_leaf, w_inner, w_free, w_begin, w_put, w_undo, w_room, w_shape, w_unshape, w_closed, w_commit, w_end, w_check, w_restart, lfD, freeD, bareD, lowD, highD, fullD, inD, enE, Rc.d, imgD])⟩ (Nat.le_of_ble_eq_true rfl) (by simp)
  have p2 : LayOk (lfD [(a, .int 1), (b, .int 2)]) (.put 4 4 0 d .none (.int 3)) := lay_put ⟨rfl, Nat.le_of_ble_eq_true rfl, by (obtain ⟨ha, hb, hc, hd, he⟩ := k.sizes; simp [sz_t, sz_l, sz_n, szs_0, szs_c, sz_i, ha, hb, hc, hd, he, w_leaf, w_inner, w_free, w_begin, w_put, w_undo, w_room, w_shape, w_unshape, w_closed, w_commit, w_end, w_check, w_restart, lfD, freeD, bareD, lowD, highD, fullD, inD, enE, Rc.d, imgD])⟩ (Nat.le_of_ble_eq_true rfl) (by simp [h1, h2])
  have p3 : LayOk (lfD [(a, .int 1), (b, .int 2), (d, .int 3)]) (.put 1 3 0 e .none (.int 4)) := lay_put ⟨rfl, Nat.le_of_ble_eq_true rfl, by (obtain ⟨ha, hb, hc, hd, he⟩ := k.sizes; simp [sz_t, sz_l, sz_n, szs_0, szs_c, sz_i, ha, hb, hc, hd, he, w_leaf, w_inner, w_free, w_begin, w_put, w_undo, w_room, w_shape, w_unshape, w_closed, w_commit, w_end, w_check, w_restart, lfD, freeD, bareD, lowD, highD, fullD, inD, enE, Rc.d, imgD])⟩ (Nat.le_of_ble_eq_true rfl) (by simp [h1, h2])
  have p4 : LayOk freeD (.shape 1 7 1 freeD (lfD [(a, .int 1), (b, .int 2)])) := lay_shape ctg_free
  have p5 : LayOk freeD (.shape 1 8 2 freeD (lfD [(d, .int 3), (e, .int 4)])) := lay_shape ctg_free
  have p6 : LayOk (lfD [(a, .int 1), (b, .int 2), (d, .int 3), (e, .int 4)]) (.shape 1 9 0 (lfD [(a, .int 1), (b, .int 2), (d, .int 3), (e, .int 4)]) (inD d)) := lay_shape ⟨rfl, Nat.le_of_ble_eq_true rfl, by (obtain ⟨ha, hb, hc, hd, he⟩ := k.sizes; simp [sz_t, sz_l, sz_n, szs_0, szs_c, sz_i, ha, hb, hc, hd, he, w_leaf, w_inner, w_free, w_begin, w_put, w_undo, w_room, w_shape, w_unshape, w_closed, w_commit, w_end, w_check, w_restart, lfD, freeD, bareD, lowD, highD, fullD, inD, enE, Rc.d, imgD])⟩
  have p7 : LayOk (lfD [(a, .int 1), (b, .int 2)]) (.put 1 11 1 c .none (.int 5)) := lay_put ⟨rfl, Nat.le_of_ble_eq_true rfl, by (obtain ⟨ha, hb, hc, hd, he⟩ := k.sizes; simp [sz_t, sz_l, sz_n, szs_0, szs_c, sz_i, ha, hb, hc, hd, he, w_leaf, w_inner, w_free, w_begin, w_put, w_undo, w_room, w_shape, w_unshape, w_closed, w_commit, w_end, w_check, w_restart, lfD, freeD, bareD, lowD, highD, fullD, inD, enE, Rc.d, imgD])⟩ (Nat.le_of_ble_eq_true rfl) (by simp [h1, h2])
  have p8 : LayOk (lfD [(d, .int 3), (e, .int 4)]) (.undo 4 5 2 d .none 0) := lay_undo ⟨rfl, Nat.le_of_ble_eq_true rfl, by (obtain ⟨ha, hb, hc, hd, he⟩ := k.sizes; simp [sz_t, sz_l, sz_n, szs_0, szs_c, sz_i, ha, hb, hc, hd, he, w_leaf, w_inner, w_free, w_begin, w_put, w_undo, w_room, w_shape, w_unshape, w_closed, w_commit, w_end, w_check, w_restart, lfD, freeD, bareD, lowD, highD, fullD, inD, enE, Rc.d, imgD])⟩ (Nat.le_of_ble_eq_true rfl) (by simp [h1, h2])
  have p9 : LayOk (lfD [(a, .int 1), (b, .int 2), (c, .int 5)]) (.undo 1 12 1 c .none 6) := lay_undo ⟨rfl, Nat.le_of_ble_eq_true rfl, by (obtain ⟨ha, hb, hc, hd, he⟩ := k.sizes; simp [sz_t, sz_l, sz_n, szs_0, szs_c, sz_i, ha, hb, hc, hd, he, w_leaf, w_inner, w_free, w_begin, w_put, w_undo, w_room, w_shape, w_unshape, w_closed, w_commit, w_end, w_check, w_restart, lfD, freeD, bareD, lowD, highD, fullD, inD, enE, Rc.d, imgD])⟩ (Nat.le_of_ble_eq_true rfl) (by simp [h1, h2])
  have p10 : LayOk (lfD [(e, .int 4)]) (.undo 1 15 2 e .none 3) := lay_undo ⟨rfl, Nat.le_of_ble_eq_true rfl, by (obtain ⟨ha, hb, hc, hd, he⟩ := k.sizes; simp [sz_t, sz_l, sz_n, szs_0, szs_c, sz_i, ha, hb, hc, hd, he, w_leaf, w_inner, w_free, w_begin, w_put, w_undo, w_room, w_shape, w_unshape, w_closed, w_commit, w_end, w_check, w_restart, lfD, freeD, bareD, lowD, highD, fullD, inD, enE, Rc.d, imgD])⟩ (Nat.le_of_ble_eq_true rfl) (by simp)
  simp only [wholeR, firstR, List.cons_append, List.nil_append, IOk, Rc.page, getA, putA, Option.getD, first, bare_lf, laid_put, laid_shape, laid_undo, ws_0a k, ws_0b k, ws_0d k, ws_0e k, highD, lowD, fullD]
  simp [IOk, Rc.page, getA, putA, laid_put, laid_shape, laid_undo, ws_0a k, ws_0b k, ws_0d k, ws_0e k, ws_c k, ws_c' k, ws_d k, ws_e k, p0, p1, p2, p3, p4, p5, p6, p7, p8, p9, p10]
end
section
variable {P : Program} {w : World} {K : PySem.W.Frag} {mg : Str → Option Value} {base : Heap} {C : Addr}
theorem ok_lfirst (T : Tx K mg) {f : Addr} {fd : FuncData} (Fu : Fun K "_law_first" "_law_first" s__law_first f fd) : FnD P w K mg base 1 f fd ["_law_a", "_law_b", "_law_c", "_law_d", "_law_e"] cn_lfirst := by
  refine fnD_of Fu sc__law_first (fun rs M R h => ?_) fun cdv A outer s H hgd hr => ⟨_, (pdb_cons (pds_set 5 sc__law_first.nd (pd_tup (pda_cons pd_str (pda_cons (pd_tup (pda_cons (pd_tup (pda_cons (pd_var 0) (pda_cons pd_int pda_nil))) (pda_cons (pd_tup (pda_cons (pd_var 1) (pda_cons pd_int pda_nil))) (pda_cons (pd_tup (pda_cons (pd_var 3) (pda_cons pd_int pda_nil))) (pda_cons (pd_tup (pda_cons (pd_var 4) (pda_cons pd_int pda_nil))) pda_nil))))) pda_nil))))
      (pdb_cons (pds_par 7 8 rfl sc__law_first.nd (by decide) (pda_cons (pd_tup (pda_cons pd_str (pda_cons (pd_tup (pda_cons (pd_tup (pda_cons (pd_var 0) (pda_cons pd_int pda_nil))) (pda_cons (pd_tup (pda_cons (pd_var 1) (pda_cons pd_int pda_nil))) pda_nil))) pda_nil))) (pda_cons (pd_tup (pda_cons pd_str (pda_cons (pd_tup (pda_cons (pd_tup (pda_cons (pd_var 3) (pda_cons pd_int pda_nil))) (pda_cons (pd_tup (pda_cons (pd_var 4) (pda_cons pd_int pda_nil))) pda_nil))) pda_nil))) pda_nil)))
      (pdb_cons (pds_set 6 sc__law_first.nd (pd_tup (pda_cons (pd_tup (pda_cons pd_str pda_nil)) (pda_cons (pd_tup (pda_cons pd_str (pda_cons pd_int (pda_cons pd_int (pda_cons pd_int (pda_cons (pd_var 0) (pda_cons pd_non (pda_cons pd_int pda_nil)))))))) (pda_cons (pd_tup (pda_cons pd_str (pda_cons pd_int (pda_cons pd_int (pda_cons pd_int (pda_cons (pd_var 1) (pda_cons pd_non (pda_cons pd_int pda_nil)))))))) (pda_cons (pd_tup (pda_cons pd_str pda_nil)) pda_nil))))))
      (pdb_cons (pds_set 6 sc__law_first.nd (pd_op o_plus (pd_var 6) (pd_tup (pda_cons (pd_tup (pda_cons pd_str (pda_cons pd_int (pda_cons pd_int (pda_cons pd_int (pda_cons (pd_var 3) (pda_cons pd_non (pda_cons pd_int pda_nil)))))))) (pda_cons (pd_tup (pda_cons pd_str (pda_cons pd_int (pda_cons pd_int (pda_cons pd_int (pda_cons (pd_var 4) (pda_cons pd_non (pda_cons pd_int pda_nil)))))))) (pda_cons (pd_tup (pda_cons pd_str (pda_cons pd_int (pda_cons pd_int (pda_cons (pd_var 2) (pda_cons pd_int pda_nil)))))) pda_nil))))))
      (pdb_cons (pds_set 6 sc__law_first.nd (pd_op o_plus (pd_var 6) (pd_tup (pda_cons (pd_tup (pda_cons pd_str (pda_cons pd_int (pda_cons pd_int (pda_cons pd_int (pda_cons (pd_tup (pda_cons pd_str pda_nil)) (pda_cons (pd_var 7) pda_nil))))))) (pda_cons (pd_tup (pda_cons pd_str (pda_cons pd_int (pda_cons pd_int (pda_cons pd_int (pda_cons (pd_tup (pda_cons pd_str pda_nil)) (pda_cons (pd_var 8) pda_nil))))))) pda_nil)))))
      (pdb_cons (pds_set 6 sc__law_first.nd (pd_op o_plus (pd_var 6) (pd_tup (pda_cons (pd_tup (pda_cons pd_str (pda_cons pd_int (pda_cons pd_int (pda_cons pd_int (pda_cons (pd_var 5) (pda_cons (pd_tup (pda_cons pd_str (pda_cons (pd_tup (pda_cons (pd_tup (pda_cons pd_non (pda_cons pd_int pda_nil))) (pda_cons (pd_tup (pda_cons (pd_var 3) (pda_cons pd_int pda_nil))) pda_nil))) pda_nil))) pda_nil))))))) (pda_cons (pd_tup (pda_cons pd_str (pda_cons pd_int (pda_cons pd_int (pda_cons pd_int pda_nil))))) pda_nil)))))
      (pdb_one (pds_ret (pd_op o_plus (pd_var 6) (pd_tup (pda_cons (pd_tup (pda_cons pd_str (pda_cons pd_int (pda_cons pd_int (pda_cons pd_int (pda_cons (pd_var 2) (pda_cons pd_non (pda_cons pd_int pda_nil)))))))) pda_nil))))))))))), ?_⟩
  · obtain ⟨a, b, c, d, e, rfl, _⟩ := h
    rfl
  · rintro rs M R ⟨a, b, c, d, e, rfl, hk⟩
    walk_at "start"
    walk_at "run"
    exact upR.of hk
theorem ok_whole (T : Tx K mg) (H__law_same : Has P w K mg base 1 "_law_same" s__law_same ["_law_found", "_law_due_so"] cn_same) (H__law_first : Has P w K mg base 1 "_law_first" s__law_first ["_law_a", "_law_b", "_law_c", "_law_d", "_law_e"] cn_lfirst)
    (H_todo_of : Has P w K mg base 13 "todo_of" s_todo_of ["log", "t"] (cn_logI (fun qs t => .int ((Lg.of qs).todo t)) fun _ _ => True)) (H_open_ones : Has P w K mg base 13 "open_ones" s_open_ones ["log"] (cn_log fun qs => .list (Lg.of qs).opensD)) (H_holders : Has P w K mg base 13 "holders" s_holders ["log"] (cn_log fun qs => .list (Lg.of qs).holdD))
    (H_versions : Has P w K mg base 11 "versions" s_versions ["log", "page"] (cn_logI (fun qs p => .list ((vers qs p).map imgD)) vlog)) (H_replay : Has P w K mg base 12 "replay" s_replay ["log", "page", "lsn"] cn_replay) (H_tree_of : Has P w K mg base 12 "tree_of" s_tree_of ["log"] cn_treeof)
    {f : Addr} {fd : FuncData} (Fu : Fun K "_law_whole_right" "_law_whole_right" s__law_whole_right f fd) : FnD P w K mg base 14 f fd ["_law_a", "_law_b", "_law_c", "_law_d", "_law_e"] cn_wright := by
  refine fnD_of Fu sc__law_whole_right (fun rs M R h => ?_) fun cdv A outer s H hgd hr => ⟨_, (pdb_cons (pds_set 5 sc__law_whole_right.nd (pd_fn H__law_first hgd (hr.mono (by first | decide | omega)) (by rfl) (pda_cons (pd_var 0) (pda_cons (pd_var 1) (pda_cons (pd_var 2) (pda_cons (pd_var 3) (pda_cons (pd_var 4) pda_nil)))))))
      (pdb_cons (pds_set 5 sc__law_whole_right.nd (pd_op o_plus (pd_var 5) (pd_tup (pda_cons (pd_tup (pda_cons pd_str (pda_cons pd_int (pda_cons pd_int (pda_cons pd_int (pda_cons (pd_var 3) (pda_cons pd_non (pda_cons pd_int pda_nil)))))))) (pda_cons (pd_tup (pda_cons pd_str (pda_cons pd_int (pda_cons pd_int pda_nil)))) (pda_cons (pd_tup (pda_cons pd_str (pda_cons pd_int (pda_cons pd_int (pda_cons pd_int (pda_cons (pd_var 2) (pda_cons pd_non (pda_cons pd_int pda_nil)))))))) pda_nil))))))
      (pdb_cons (pds_set 5 sc__law_whole_right.nd (pd_op o_plus (pd_var 5) (pd_tup (pda_cons (pd_tup (pda_cons pd_str (pda_cons pd_int (pda_cons pd_int (pda_cons pd_int (pda_cons (pd_var 4) (pda_cons pd_non (pda_cons pd_int pda_nil)))))))) pda_nil))))
      (pdb_cons (pds_setLc 6 (own := [("_law_many", 11)]) rfl sc__law_whole_right.nd rfl rfl (sw_true rfl rfl rfl (by decide +kernel)) (pdi_range2 (by rfl) T.z_range (pda_cons pd_int (pda_cons pd_int pda_nil))) (blkOk_by (N := N__law_whole_right) (sc := defScope s__law_whole_right) (by decide +kernel)) (fun _ _ _ _ _ => (pdgw_name 11 sc__law_whole_right.nd)) (fun _ _ _ _ _ => pdts_nil) (fun _ _ _ _ _ => (pd_fn H_todo_of hgd (hr.mono (by first | decide | omega)) (by rfl) (pda_cons (pd_slice (pd_var 5) pdo_none (pdo_some (pd_var 11))) (pda_cons pd_int pda_nil)))))
      (pdb_cons (pds_if (pdt_not (pdt_tru (pd_fn H__law_same hgd (hr.mono (by first | decide | omega)) (by rfl) (pda_cons (pd_var 6) (pda_cons (pd_lst (pda_cons pd_int (pda_cons pd_int (pda_cons pd_int (pda_cons pd_int (pda_cons pd_int (pda_cons pd_int (pda_cons pd_int (pda_cons pd_int (pda_cons pd_int (pda_cons pd_int (pda_cons pd_int (pda_cons pd_int (pda_cons pd_int (pda_cons pd_int (pda_cons pd_int (pda_cons pd_int pda_nil))))))))))))))))) pda_nil))))) (pdb_one (pds_ret pd_bl)) pdb_nil)
      (pdb_cons (pds_setLc 6 (own := [("_law_many", 11)]) rfl sc__law_whole_right.nd rfl rfl (sw_true rfl rfl rfl (by decide +kernel)) (pdi_seq (pd_tup (pda_cons pd_int (pda_cons pd_int (pda_cons pd_int (pda_cons pd_int (pda_cons pd_int pda_nil))))))) (blkOk_by (N := N__law_whole_right) (sc := defScope s__law_whole_right) (by decide +kernel)) (fun _ _ _ _ _ => (pdgw_name 11 sc__law_whole_right.nd)) (fun _ _ _ _ _ => pdts_nil) (fun _ _ _ _ _ => (pd_fn H_open_ones hgd (hr.mono (by first | decide | omega)) (by rfl) (pda_cons (pd_slice (pd_var 5) pdo_none (pdo_some (pd_var 11))) pda_nil))))
      (pdb_cons (pds_set 7 sc__law_whole_right.nd (pd_lst (pda_cons (pd_lst (pda_cons (pd_tup (pda_cons pd_int (pda_cons pd_int (pda_cons pd_int pda_nil)))) (pda_cons (pd_tup (pda_cons pd_int (pda_cons pd_int (pda_cons pd_int pda_nil)))) pda_nil))) (pda_cons (pd_lst (pda_cons (pd_tup (pda_cons pd_int (pda_cons pd_int (pda_cons pd_int pda_nil)))) (pda_cons (pd_tup (pda_cons pd_int (pda_cons pd_int (pda_cons pd_int pda_nil)))) pda_nil))) (pda_cons (pd_lst (pda_cons (pd_tup (pda_cons pd_int (pda_cons pd_int (pda_cons pd_int pda_nil)))) (pda_cons (pd_tup (pda_cons pd_int (pda_cons pd_int (pda_cons pd_int pda_nil)))) pda_nil))) (pda_cons (pd_lst (pda_cons (pd_tup (pda_cons pd_int (pda_cons pd_int (pda_cons pd_int pda_nil)))) pda_nil)) (pda_cons (pd_lst (pda_cons (pd_tup (pda_cons pd_int (pda_cons pd_int (pda_cons pd_int pda_nil)))) pda_nil)) pda_nil)))))))
      (pdb_cons (pds_if (pdt_not (pdt_tru (pd_fn H__law_same hgd (hr.mono (by first | decide | omega)) (by rfl) (pda_cons (pd_var 6) (pda_cons (pd_var 7) pda_nil))))) (pdb_one (pds_ret pd_bl)) pdb_nil)
      (pdb_cons (pds_setLc 6 (own := [("_law_many", 11)]) rfl sc__law_whole_right.nd rfl rfl (sw_true rfl rfl rfl (by decide +kernel)) (pdi_seq (pd_tup (pda_cons pd_int (pda_cons pd_int (pda_cons pd_int (pda_cons pd_int pda_nil)))))) (blkOk_by (N := N__law_whole_right) (sc := defScope s__law_whole_right) (by decide +kernel)) (fun _ _ _ _ _ => (pdgw_name 11 sc__law_whole_right.nd)) (fun _ _ _ _ _ => pdts_nil) (fun _ _ _ _ _ => (pd_fn H_holders hgd (hr.mono (by first | decide | omega)) (by rfl) (pda_cons (pd_slice (pd_var 5) pdo_none (pdo_some (pd_var 11))) pda_nil))))
      (pdb_cons (pds_set 7 sc__law_whole_right.nd (pd_lst (pda_cons (pd_lst (pda_cons (pd_tup (pda_cons (pd_var 0) (pda_cons pd_int pda_nil))) (pda_cons (pd_tup (pda_cons (pd_var 1) (pda_cons pd_int pda_nil))) (pda_cons (pd_tup (pda_cons (pd_var 3) (pda_cons pd_int pda_nil))) pda_nil)))) (pda_cons (pd_lst (pda_cons (pd_tup (pda_cons (pd_var 0) (pda_cons pd_int pda_nil))) (pda_cons (pd_tup (pda_cons (pd_var 1) (pda_cons pd_int pda_nil))) (pda_cons (pd_tup (pda_cons (pd_var 3) (pda_cons pd_int pda_nil))) (pda_cons (pd_tup (pda_cons (pd_var 4) (pda_cons pd_int pda_nil))) pda_nil))))) pda_nil))))
      (pdb_cons (pds_set 7 sc__law_whole_right.nd (pd_op o_plus (pd_var 7) (pd_lst (pda_cons (pd_lst (pda_cons (pd_tup (pda_cons (pd_var 0) (pda_cons pd_int pda_nil))) (pda_cons (pd_tup (pda_cons (pd_var 1) (pda_cons pd_int pda_nil))) (pda_cons (pd_tup (pda_cons (pd_var 2) (pda_cons pd_int pda_nil))) (pda_cons (pd_tup (pda_cons (pd_var 3) (pda_cons pd_int pda_nil))) (pda_cons (pd_tup (pda_cons (pd_var 4) (pda_cons pd_int pda_nil))) pda_nil)))))) (pda_cons (pd_lst (pda_cons (pd_tup (pda_cons (pd_var 0) (pda_cons pd_int pda_nil))) (pda_cons (pd_tup (pda_cons (pd_var 1) (pda_cons pd_int pda_nil))) (pda_cons (pd_tup (pda_cons (pd_var 2) (pda_cons pd_int pda_nil))) (pda_cons (pd_tup (pda_cons (pd_var 4) (pda_cons pd_int pda_nil))) pda_nil))))) pda_nil)))))
      (pdb_cons (pds_if (pdt_not (pdt_tru (pd_fn H__law_same hgd (hr.mono (by first | decide | omega)) (by rfl) (pda_cons (pd_var 6) (pda_cons (pd_var 7) pda_nil))))) (pdb_one (pds_ret pd_bl)) pdb_nil)
      (pdb_cons (pds_set 6 sc__law_whole_right.nd (pd_lst (pda_cons (pd_fn H_versions hgd (hr.mono (by first | decide | omega)) (by rfl) (pda_cons (pd_var 5) (pda_cons pd_int pda_nil))) (pda_cons (pd_ix (pd_fn H_replay hgd (hr.mono (by first | decide | omega)) (by rfl) (pda_cons (pd_var 5) (pda_cons pd_int (pda_cons pd_int pda_nil)))) pd_int) (pda_cons (pd_fn H_replay hgd (hr.mono (by first | decide | omega)) (by rfl) (pda_cons (pd_var 5) (pda_cons pd_int (pda_cons pd_int pda_nil)))) (pda_cons (pd_fn H_tree_of hgd (hr.mono (by first | decide | omega)) (by rfl) (pda_cons (pd_var 5) pda_nil)) pda_nil))))))
      (pdb_cons (pds_set 8 sc__law_whole_right.nd (pd_lst (pda_cons (pd_tup (pda_cons pd_int (pda_cons (pd_tup (pda_cons pd_str pda_nil)) pda_nil))) (pda_cons (pd_tup (pda_cons pd_int (pda_cons (pd_tup (pda_cons pd_str (pda_cons (pd_tup (pda_cons (pd_tup (pda_cons (pd_var 3) (pda_cons pd_int pda_nil))) (pda_cons (pd_tup (pda_cons (pd_var 4) (pda_cons pd_int pda_nil))) pda_nil))) pda_nil))) pda_nil))) (pda_cons (pd_tup (pda_cons pd_int (pda_cons (pd_tup (pda_cons pd_str (pda_cons (pd_tup (pda_cons (pd_tup (pda_cons (pd_var 4) (pda_cons pd_int pda_nil))) pda_nil)) pda_nil))) pda_nil))) (pda_cons (pd_tup (pda_cons pd_int (pda_cons (pd_tup (pda_cons pd_str (pda_cons (pd_tup pda_nil) pda_nil))) pda_nil))) pda_nil))))))
      (pdb_cons (pds_set 9 sc__law_whole_right.nd (pd_tup (pda_cons pd_str (pda_cons (pd_tup (pda_cons (pd_tup (pda_cons (pd_var 0) (pda_cons pd_int pda_nil))) (pda_cons (pd_tup (pda_cons (pd_var 1) (pda_cons pd_int pda_nil))) (pda_cons (pd_tup (pda_cons (pd_var 2) (pda_cons pd_int pda_nil))) pda_nil)))) pda_nil))))
      (pdb_cons (pds_set 10 sc__law_whole_right.nd (pd_tup (pda_cons (pd_tup (pda_cons pd_int (pda_cons (pd_tup (pda_cons pd_str (pda_cons (pd_tup (pda_cons (pd_tup (pda_cons pd_non (pda_cons pd_int pda_nil))) (pda_cons (pd_tup (pda_cons (pd_var 3) (pda_cons pd_int pda_nil))) pda_nil))) pda_nil))) pda_nil))) (pda_cons (pd_tup (pda_cons pd_int (pda_cons (pd_tup (pda_cons pd_str (pda_cons (pd_tup (pda_cons (pd_tup (pda_cons (pd_var 0) (pda_cons pd_int pda_nil))) (pda_cons (pd_tup (pda_cons (pd_var 1) (pda_cons pd_int pda_nil))) pda_nil))) pda_nil))) pda_nil))) (pda_cons (pd_tup (pda_cons pd_int (pda_cons (pd_tup (pda_cons pd_str (pda_cons (pd_tup pda_nil) pda_nil))) pda_nil))) pda_nil)))))
      (pdb_one (pds_ret (pd_fn H__law_same hgd (hr.mono (by first | decide | omega)) (by rfl) (pda_cons (pd_var 6) (pda_cons (pd_lst (pda_cons (pd_var 8) (pda_cons pd_int (pda_cons (pd_tup (pda_cons pd_int (pda_cons (pd_var 9) pda_nil))) (pda_cons (pd_var 10) pda_nil))))) pda_nil))))))))))))))))))))), ?_⟩
  · obtain ⟨a, b, c, d, e, rfl, _⟩ := h
    rfl
  · rintro rs M R ⟨a, b, c, d, e, rfl, ky, hk⟩
    walk_at "start"
    walk_at "run"
    refine ⟨a, b, c, d, e, rfl, ?_⟩
    walk_at "run"
    rw [show List.map Rc.d (firstR a b c d e) ++ [PyData.tuple [.str "undo", .int 4, .int 5, .int 2, .int d, .none, .int 0], .tuple [.str "end", .int 4, .int 13], .tuple [.str "undo", .int 1, .int 12, .int 1, .int c, .none, .int 6]] ++ [.tuple [.str "undo", .int 1, .int 15, .int 2, .int e, .none, .int 3]] = (wholeR a b c d e).map Rc.d from by unfold wholeR; rw [List.map_append, List.append_assoc]; rfl]
    have oW := whole_ok ky
    have tW := whole_todo a b c d e
    have oO := whole_open a b c d e
    have hH := whole_hold ky
    have v0 := vlog_w0 ky
    have v1 := vlog_w1 ky
    have v2 := vlog_w2 ky
    have e2 := vers_w2 ky
    have r0 := rep_w0 ky
    have r1 := rep_w1 ky
    have io := iok_w ky
    have tT := treeT_w ky
    have tD := treeD_w ky
    generalize hW : wholeR a b c d e = W at *
    have lW : W.length = 16 := by rw [← hW]; rfl
    clear hW
    unfold rngS
    refine lc_m (List.range 16) (fun n : Nat => Sl.i (1 + (n : Int))) (fun n : Nat => .i ((Lg.of (W.take (n + 1))).todo 1)) trivial (by rw [sizeLine_eq]; simp) (fun n hn k1 k0 h => ?_) ?_
    · have hn := List.mem_range.mp hn
      walk_at "run"
      rw [cutA_to (by omega), show (1 + (n : Int)).toNat = n + 1 by omega, ← List.map_take]
      exact ⟨W.take (n + 1), 1, rfl, fun q hq => oW q (List.mem_of_mem_take hq), by rw [List.length_take]; omega, trivial, h⟩
    rw [mapD_d, show ((List.range 16).map fun n : Nat => PyData.int ((Lg.of (W.take (n + 1))).todo 1)) = ((List.range 16).map fun n : Nat => (Lg.of (W.take (n + 1))).todo 1).map PyData.int from by rw [List.map_map]; rfl, tW]
    refine ⟨_, datOf_map _, ?_⟩
    walk_at "run"
    refine ⟨_, rfl, shw_of wds (by decide +kernel) (by decide +kernel), ?_⟩
    walk_at "run"
    refine lc_m [4, 9, 13, 14, 16] (fun n : Nat => Sl.i (n : Int)) (fun n : Nat => .d (.list (Lg.of (W.take n)).opensD)) trivial (by rw [sizeLine_eq]; decide) (fun n hn k1 k0 h => ?_) ?_
    · walk_at "run"
      rw [cutA_to (by omega), show ((n : Int)).toNat = n by omega, ← List.map_take]
      exact ⟨W.take n, rfl, fun q hq => oW q (List.mem_of_mem_take hq), by rw [List.length_take]; omega, h⟩
    rw [mapD_d, oO]
    refine ⟨_, datOf_map _, ?_⟩
    walk_at "run"
    refine ⟨_, rfl, shw_of wds (by decide +kernel) (by decide +kernel), ?_⟩
    walk_at "run"
    refine lc_m [5, 7, 13, 16] (fun n : Nat => Sl.i (n : Int)) (fun n : Nat => .d (.list (Lg.of (W.take n)).holdD)) trivial (by rw [sizeLine_eq]; decide) (fun n hn k1 k0 h => ?_) ?_
    · walk_at "run"
      rw [cutA_to (by omega), show ((n : Int)).toNat = n by omega, ← List.map_take]
      exact ⟨W.take n, rfl, fun q hq => oW q (List.mem_of_mem_take hq), by rw [List.length_take]; omega, h⟩
    rw [mapD_d, hH]
    refine ⟨_, datOf_map _, ?_⟩
    walk_at "run"
    refine ⟨_, rfl, shw_of wds (by (obtain ⟨ha, hb, hc, hd, he⟩ := ky.sizes; simp [sz_t, sz_l, sz_n, szs_0, szs_c, sz_i, ha, hb, hc, hd, he, w_leaf, w_inner, w_free, w_begin, w_put, w_undo, w_room, w_shape, w_unshape, w_closed, w_commit, w_end, w_check, w_restart, lfD, freeD, bareD, lowD, highD, fullD, inD, enE, Rc.d, imgD])) (Nat.le_of_ble_eq_true rfl), ?_⟩
    clear tW oO hH
    walk_at "run"
    refine ⟨W, 2, rfl, oW, by omega, v2, ?_⟩
    rw [show (fun (qs : List Rc) (p : Int) => PyData.list ((vers qs p).map imgD)) W 2 = .list ((vers W 2).map imgD) from rfl, e2]
    walk_at "run"
    refine ⟨W, 0, 9, rfl, oW, v0, by decide, ?_⟩
    rw [r0, show imgD (6, fullD a b d e) = .tuple [.int 6, fullD a b d e] from rfl]
    walk_at "run"
    refine ⟨W, 1, 14, rfl, oW, v1, by decide, ?_⟩
    rw [r1]
    walk_at "run"
    refine ⟨W, rfl, oW, by omega, io, ?_, ?_⟩
    · rw [tT]
      intro y hy
      simp only [List.mem_cons, List.not_mem_nil, or_false] at hy
      rcases hy with rfl | rfl | rfl
      · exact ⟨⟨_, rfl⟩, shaped_of wds (by (obtain ⟨ha, hb, hc, hd, he⟩ := ky.sizes; simp [sz_t, sz_l, sz_n, szs_0, szs_c, sz_i, ha, hb, hc, hd, he, w_leaf, w_inner, w_free, w_begin, w_put, w_undo, w_room, w_shape, w_unshape, w_closed, w_commit, w_end, w_check, w_restart, lfD, freeD, bareD, lowD, highD, fullD, inD, enE, Rc.d, imgD])) (Nat.le_of_ble_eq_true rfl)⟩
      · exact ⟨⟨_, rfl⟩, shaped_of wds (by (obtain ⟨ha, hb, hc, hd, he⟩ := ky.sizes; simp [sz_t, sz_l, sz_n, szs_0, szs_c, sz_i, ha, hb, hc, hd, he, w_leaf, w_inner, w_free, w_begin, w_put, w_undo, w_room, w_shape, w_unshape, w_closed, w_commit, w_end, w_check, w_restart, lfD, freeD, bareD, lowD, highD, fullD, inD, enE, Rc.d, imgD])) (Nat.le_of_ble_eq_true rfl)⟩
      · exact ⟨⟨_, rfl⟩, shaped_of wds (by (obtain ⟨ha, hb, hc, hd, he⟩ := ky.sizes; simp [sz_t, sz_l, sz_n, szs_0, szs_c, sz_i, ha, hb, hc, hd, he, w_leaf, w_inner, w_free, w_begin, w_put, w_undo, w_room, w_shape, w_unshape, w_closed, w_commit, w_end, w_check, w_restart, lfD, freeD, bareD, lowD, highD, fullD, inD, enE, Rc.d, imgD])) (Nat.le_of_ble_eq_true rfl)⟩
    rw [tD]
    walk_at "run"
    refine ⟨_, rfl, shw_of wds (by (obtain ⟨ha, hb, hc, hd, he⟩ := ky.sizes; simp [sz_t, sz_l, sz_n, szs_0, szs_c, sz_i, ha, hb, hc, hd, he, w_leaf, w_inner, w_free, w_begin, w_put, w_undo, w_room, w_shape, w_unshape, w_closed, w_commit, w_end, w_check, w_restart, lfD, freeD, bareD, lowD, highD, fullD, inD, enE, Rc.d, imgD])) (Nat.le_of_ble_eq_true rfl), ?_⟩
    exact upR.of hk
end
end LW

set_option Elab.async false
set_option linter.all false
set_option maxRecDepth 100000
set_option maxHeartbeats 4000000
namespace LW
open PySem PySem.Spec L2 DL
local macro_rules | `(tactic| walk_at "mem") => `(tactic| ((repeat rw [upM_ne (by assumption)]); first | exact upM_same | assumption))
local macro_rules | `(tactic| walk_at "look") => `(tactic| first | rfl | assumption | exact atI_map0 | exact atI_map1 | walk_at "mem" | (with_reducible apply lsOf_m; walk_at "mem") | (with_reducible apply sqOf_m; walk_at "mem") | (with_reducible apply rlOf_m; walk_at "mem") | (with_reducible apply sqOf'_m; walk_at "mem") | (with_reducible apply tru_l; walk_at "mem") | (with_reducible apply tru_d; walk_at "mem") | ((simp (discharger := assumption) only [sqOf, sqOf', rlOf, lsOf, tru, upM_same, upM_ne]) <;> rfl))
local macro_rules | `(tactic| walk_at "set") => `(tactic| (simp only [wipeD, List.set_cons_zero, List.set_cons_succ, List.set_nil]; rfl))
local macro_rules | `(tactic| walk_at "side") => `(tactic| first | omega | (simp only [List.length_map, List.length_cons, List.length_nil]; omega) | assumption | rfl | decide | exact ⟨by omega, by omega⟩ | exact Nat.le_of_ble_eq_true rfl)
local macro_rules | `(tactic| walk_at "head") => `(tactic| with_reducible conv => whnf)
local macro_rules | `(tactic| walk_at "step") => `(tactic| (walk_at "head"; first
  | ((with_reducible apply gN_go); (focus walk_at "set"))
  | ((with_reducible apply e1s); (focus rfl))
  | ((with_reducible apply e1); (focus walk_at "look"))
  | ((with_reducible apply e2); (focus walk_at "look"); (focus walk_at "look"))
  | ((with_reducible apply l1); (focus walk_at "look"))
  | ((with_reducible apply l2); (focus walk_at "look"); (focus walk_at "look"))
  | ((with_reducible apply e3); (focus walk_at "look"); (focus walk_at "look"); (focus walk_at "look"))
  | ((with_reducible apply e0a); (focus walk_at "look"))
  | ((with_reducible apply And.intro); (focus walk_at "side"))
  | ((with_reducible apply d1); (focus walk_at "look"))
  | ((with_reducible apply d2); (focus walk_at "look"); (focus walk_at "look"))
  | ((with_reducible apply d3); (focus walk_at "look"); (focus walk_at "look"); (focus walk_at "look"))
  | ((with_reducible apply d0); (focus walk_at "look"))
  | ((with_reducible apply lk1); (focus walk_at "look"))
  | with_reducible apply gw2_go
  | with_reducible apply gw3_go
  | with_reducible apply gs_go
  | with_reducible apply gt2_go
  | with_reducible apply gt3_go
  | with_reducible apply gt1_go
  | with_reducible apply gt4_go
  | with_reducible apply gt5_go
  | with_reducible apply gt6_go
  | with_reducible apply gt7_go
  | with_reducible apply gt8_go
  | with_reducible apply ift_go
  | with_reducible apply iff_go
  | ((with_reducible apply ifT_go); (focus rfl))
  | ((with_reducible apply ifF_go); (focus rfl))))
local macro_rules | `(tactic| walk_at "run") => `(tactic| (repeat walk_at "step"); walk_at "head")
local macro_rules | `(tactic| walk_at "start") => `(tactic| simp only [startD, List.map_cons, List.map_nil, List.length_cons, List.length_nil, List.replicate, List.cons_append, List.nil_append, Nat.reduceAdd, Nat.reduceSub, bodyK])
def cutR (a b c d e : Int) : List Rc := (firstR a b c d e).take 9 ++ [.restart, .unshape 1 9 2 freeD 8, .unshape 1 11 1 freeD 6, .undo 1 12 0 e .none 3, .undo 4 5 0 d .none 0, .fin 4 14]
theorem cut_ok {a b c d e : Int} (k : Kys a b c d e) : ∀ q ∈ cutR a b c d e, q.Ok := by
  intro q hq
  simp only [cutR, firstR, List.take, List.cons_append, List.nil_append, List.mem_cons, List.not_mem_nil, or_false] at hq
  rcases hq with rfl | rfl | rfl | rfl | rfl | rfl | rfl | rfl | rfl | rfl | rfl | rfl | rfl | rfl | rfl
  all_goals exact ⟨rfl, Nat.le_of_ble_eq_true rfl, by (obtain ⟨ha, hb, hc, hd, he⟩ := k.sizes; simp [sz_t, sz_l, sz_n, szs_0, szs_c, sz_i, ha, hb, hc, hd, he, w_leaf, w_inner, w_free, w_begin, w_put, w_undo, w_room, w_shape, w_unshape, w_closed, w_commit, w_end, w_check, w_restart, lfD, freeD, bareD, lowD, highD, fullD, inD, enE, Rc.d, imgD])⟩
theorem cut_open (a b c d e : Int) : [10, 11, 12, 13, 14, 15].map (fun n => PyData.list (Lg.of ((cutR a b c d e).take n)).opensD) =
    [.list [.tuple [.int 1, .int 9, .int 9], .tuple [.int 4, .int 5, .int 5]], .list [.tuple [.int 1, .int 11, .int 8], .tuple [.int 4, .int 5, .int 5]], .list [.tuple [.int 1, .int 12, .int 6], .tuple [.int 4, .int 5, .int 5]], .list [.tuple [.int 1, .int 13, .int 3], .tuple [.int 4, .int 5, .int 5]], .list [.tuple [.int 1, .int 13, .int 3], .tuple [.int 4, .int 14, .int 0]], .list [.tuple [.int 1, .int 13, .int 3]]] := by
  unfold Lg.opensD Lg.opens Lg.isOpen
  simp only [of_todo, of_lastOf, of_opn]
  rfl
theorem cut_hold {a b c d e : Int} (k : Kys a b c d e) : (Lg.of (cutR a b c d e)).holdD = [.tuple [.int a, .int 1], .tuple [.int b, .int 1], .tuple [.int e, .int 1]] := by
  obtain ⟨h1, h2, h3, h4⟩ := k.facts
  unfold Lg.holdD
  simp only [of_hold]
  simp [cutR, firstR, holdF, putA, getA, dropA, freed, srtD, insD, keyD, h1, h2, h3, h4]
theorem chg_c2 (a b c d e : Int) : chg 2 1 (cutR a b c d e) = [(9, .shape 1 8 2 freeD (highD d e)), (11, .unshape 1 9 2 freeD 8)] := rfl
theorem chg_c1 (a b c d e : Int) : chg 1 1 (cutR a b c d e) = [(8, .shape 1 7 1 freeD (lowD a b)), (12, .unshape 1 11 1 freeD 6)] := rfl
section
variable {a b c d e : Int} (k : Kys a b c d e)
include k
theorem ws_1e : wsE [(a, PyData.int 1), (b, .int 2), (d, .int 3), (e, .int 4)] e .none = [(a, .int 1), (b, .int 2), (d, .int 3)] := by
  obtain ⟨h1, h2, h3, h4⟩ := k.facts
  simp [wsE, srtE, insE, isN, h1, h2, h3, h4]
theorem ws_1d : wsE [(a, PyData.int 1), (b, .int 2), (d, .int 3)] d .none = [(a, .int 1), (b, .int 2)] := by
  obtain ⟨h1, h2, h3, h4⟩ := k.facts
  simp [wsE, srtE, insE, isN, h1, h2, h3, h4]
omit k in
theorem vers_c2 : vers (cutR a b c d e) 2 = [(0, freeD), (9, highD d e), (11, freeD)] := by
  unfold vers
  rw [chg_c2, show first 2 = freeD from rfl]
  rfl
omit k in
theorem vers_c1 : vers (cutR a b c d e) 1 = [(0, freeD), (8, lowD a b), (12, freeD)] := by
  unfold vers
  rw [chg_c1, show first 1 = freeD from rfl]
  rfl
theorem vlog_c2 : vlog (cutR a b c d e) 2 := by
  refine ⟨Nat.le_of_ble_eq_true rfl, ?_⟩
  rw [chg_c2, show first 2 = freeD from rfl]
  exact ⟨lay_shape ctg_free, lay_unshape (c := highD d e) ⟨rfl, Nat.le_of_ble_eq_true rfl, by (obtain ⟨ha, hb, hc, hd, he⟩ := k.sizes; simp [sz_t, sz_l, sz_n, szs_0, szs_c, sz_i, ha, hb, hc, hd, he, w_leaf, w_inner, w_free, w_begin, w_put, w_undo, w_room, w_shape, w_unshape, w_closed, w_commit, w_end, w_check, w_restart, lfD, freeD, bareD, lowD, highD, fullD, inD, enE, Rc.d, imgD])⟩, trivial⟩
theorem vlog_c1 : vlog (cutR a b c d e) 1 := by
  refine ⟨Nat.le_of_ble_eq_true rfl, ?_⟩
  rw [chg_c1, show first 1 = freeD from rfl]
  exact ⟨lay_shape ctg_free, lay_unshape (c := lowD a b) ⟨rfl, Nat.le_of_ble_eq_true rfl, by (obtain ⟨ha, hb, hc, hd, he⟩ := k.sizes; simp [sz_t, sz_l, sz_n, szs_0, szs_c, sz_i, ha, hb, hc, hd, he, w_leaf, w_inner, w_free, w_begin, w_put, w_undo, w_room, w_shape, w_unshape, w_closed, w_commit, w_end, w_check, w_restart, lfD, freeD, bareD, lowD, highD, fullD, inD, enE, Rc.d, imgD])⟩, trivial⟩
omit k in
theorem rep_c2 : rep (cutR a b c d e) 2 10 = (9, highD d e) := by unfold rep; rw [vers_c2]; rfl
theorem imgs_c : imgs 1 (cutR a b c d e) [] = [(0, (14, lfD [(a, .int 1), (b, .int 2)])), (1, (12, freeD)), (2, (11, freeD))] := by
  simp only [cutR, firstR, List.take, List.cons_append, List.nil_append, imgs, Rc.page, getA, putA, Option.getD, first, bare_lf, laid_put, laid_shape, laid_undo, laid_unshape, ws_0a k, ws_0b k, ws_0d k, ws_0e k, highD, lowD, fullD]
  simp [imgs, Rc.page, getA, putA, laid_put, laid_shape, laid_undo, laid_unshape, ws_0a k, ws_0b k, ws_0d k, ws_0e k, ws_1e k, ws_1d k]
theorem treeT_c : treeT (cutR a b c d e) = [(0, (14, lfD [(a, .int 1), (b, .int 2)])), (1, (12, freeD)), (2, (11, freeD))] := by unfold treeT treeM; rw [imgs_c k]; rfl
theorem treeD_c : treeD (cutR a b c d e) = [.tuple [.int 0, lfD [(a, .int 1), (b, .int 2)]]] := by unfold treeD; rw [treeT_c k]; rfl
theorem iok_c : IOk 1 (cutR a b c d e) [] := by
  obtain ⟨h1, h2, h3, h4⟩ := k.facts
  have p0 : LayOk (lfD []) (.put 1 1 0 a .none (.int 1)) := lay_put ⟨rfl, Nat.le_of_ble_eq_true rfl, by (obtain ⟨ha, hb, hc, hd, he⟩ := k.sizes; simp [sz_t, sz_l, sz_n, szs_0, szs_c, sz_i, ha, hb, hc, hd, he, w_leaf, w_inner, w_free, w_begin, w_put, w_undo, w_room, w_shape, w_unshape, w_closed, w_commit, w_end, w_check, w_restart, lfD, freeD, bareD, lowD, highD, fullD, inD, enE, Rc.d, imgD])⟩ (Nat.le_of_ble_eq_true rfl) (by simp)
  have p1 : LayOk (lfD [(a, .int 1)]) (.put 1 2 0 b .none (.int 2)) := lay_put ⟨rfl, Nat.le_of_ble_eq_true rfl, by (obtain ⟨ha, hb, hc, hd, he⟩ := k.sizes; simp [sz_t, sz_l, sz_n, szs_0, szs_c, sz_i, ha, hb, hc, hd, he, w_leaf, w_inner, w_free, w_begin, w_put, w_undo, w_room, w_shape, w_unshape, w_closed, w_commit, w_end, w_check, w_restart, lfD, freeD, bareD, lowD, highD, fullD, inD, enE, Rc.d, imgD])⟩ (Nat.le_of_ble_eq_true rfl) (by simp)
  have p2 : LayOk (lfD [(a, .int 1), (b, .int 2)]) (.put 4 4 0 d .none (.int 3)) := lay_put ⟨rfl, Nat.le_of_ble_eq_true rfl, by (obtain ⟨ha, hb, hc, hd, he⟩ := k.sizes; simp [sz_t, sz_l, sz_n, szs_0, szs_c, sz_i, ha, hb, hc, hd, he, w_leaf, w_inner, w_free, w_begin, w_put, w_undo, w_room, w_shape, w_unshape, w_closed, w_commit, w_end, w_check, w_restart, lfD, freeD, bareD, lowD, highD, fullD, inD, enE, Rc.d, imgD])⟩ (Nat.le_of_ble_eq_true rfl) (by simp [h1, h2])
  have p3 : LayOk (lfD [(a, .int 1), (b, .int 2), (d, .int 3)]) (.put 1 3 0 e .none (.int 4)) := lay_put ⟨rfl, Nat.le_of_ble_eq_true rfl, by (obtain ⟨ha, hb, hc, hd, he⟩ := k.sizes; simp [sz_t, sz_l, sz_n, szs_0, szs_c, sz_i, ha, hb, hc, hd, he, w_leaf, w_inner, w_free, w_begin, w_put, w_undo, w_room, w_shape, w_unshape, w_closed, w_commit, w_end, w_check, w_restart, lfD, freeD, bareD, lowD, highD, fullD, inD, enE, Rc.d, imgD])⟩ (Nat.le_of_ble_eq_true rfl) (by simp [h1, h2])
  have p4 : LayOk freeD (.shape 1 7 1 freeD (lfD [(a, .int 1), (b, .int 2)])) := lay_shape ctg_free
  have p5 : LayOk freeD (.shape 1 8 2 freeD (lfD [(d, .int 3), (e, .int 4)])) := lay_shape ctg_free
  have p6 : LayOk (lfD [(d, .int 3), (e, .int 4)]) (.unshape 1 9 2 freeD 8) := lay_unshape ⟨rfl, Nat.le_of_ble_eq_true rfl, by (obtain ⟨ha, hb, hc, hd, he⟩ := k.sizes; simp [sz_t, sz_l, sz_n, szs_0, szs_c, sz_i, ha, hb, hc, hd, he, w_leaf, w_inner, w_free, w_begin, w_put, w_undo, w_room, w_shape, w_unshape, w_closed, w_commit, w_end, w_check, w_restart, lfD, freeD, bareD, lowD, highD, fullD, inD, enE, Rc.d, imgD])⟩
  have p7 : LayOk (lfD [(a, .int 1), (b, .int 2)]) (.unshape 1 11 1 freeD 6) := lay_unshape ⟨rfl, Nat.le_of_ble_eq_true rfl, by (obtain ⟨ha, hb, hc, hd, he⟩ := k.sizes; simp [sz_t, sz_l, sz_n, szs_0, szs_c, sz_i, ha, hb, hc, hd, he, w_leaf, w_inner, w_free, w_begin, w_put, w_undo, w_room, w_shape, w_unshape, w_closed, w_commit, w_end, w_check, w_restart, lfD, freeD, bareD, lowD, highD, fullD, inD, enE, Rc.d, imgD])⟩
  have p8 : LayOk (lfD [(a, .int 1), (b, .int 2), (d, .int 3), (e, .int 4)]) (.undo 1 12 0 e .none 3) := lay_undo ⟨rfl, Nat.le_of_ble_eq_true rfl, by (obtain ⟨ha, hb, hc, hd, he⟩ := k.sizes; simp [sz_t, sz_l, sz_n, szs_0, szs_c, sz_i, ha, hb, hc, hd, he, w_leaf, w_inner, w_free, w_begin, w_put, w_undo, w_room, w_shape, w_unshape, w_closed, w_commit, w_end, w_check, w_restart, lfD, freeD, bareD, lowD, highD, fullD, inD, enE, Rc.d, imgD])⟩ (Nat.le_of_ble_eq_true rfl) (by simp [h1, h2])
  have p9 : LayOk (lfD [(a, .int 1), (b, .int 2), (d, .int 3)]) (.undo 4 5 0 d .none 0) := lay_undo ⟨rfl, Nat.le_of_ble_eq_true rfl, by (obtain ⟨ha, hb, hc, hd, he⟩ := k.sizes; simp [sz_t, sz_l, sz_n, szs_0, szs_c, sz_i, ha, hb, hc, hd, he, w_leaf, w_inner, w_free, w_begin, w_put, w_undo, w_room, w_shape, w_unshape, w_closed, w_commit, w_end, w_check, w_restart, lfD, freeD, bareD, lowD, highD, fullD, inD, enE, Rc.d, imgD])⟩ (Nat.le_of_ble_eq_true rfl) (by simp [h1, h2])
  simp only [cutR, firstR, List.take, List.cons_append, List.nil_append, IOk, Rc.page, getA, putA, Option.getD, first, bare_lf, laid_put, laid_shape, laid_undo, laid_unshape, ws_0a k, ws_0b k, ws_0d k, ws_0e k, highD, lowD, fullD]
  simp [IOk, Rc.page, getA, putA, laid_put, laid_shape, laid_undo, laid_unshape, ws_0a k, ws_0b k, ws_0d k, ws_0e k, ws_1e k, ws_1d k, p0, p1, p2, p3, p4, p5, p6, p7, p8, p9]
end
section
variable {P : Program} {w : World} {K : PySem.W.Frag} {mg : Str → Option Value} {base : Heap} {C : Addr}
theorem ok_cut (T : Tx K mg) (H__law_same : Has P w K mg base 1 "_law_same" s__law_same ["_law_found", "_law_due_so"] cn_same) (H__law_first : Has P w K mg base 1 "_law_first" s__law_first ["_law_a", "_law_b", "_law_c", "_law_d", "_law_e"] cn_lfirst)
    (H_open_ones : Has P w K mg base 13 "open_ones" s_open_ones ["log"] (cn_log fun qs => .list (Lg.of qs).opensD)) (H_holders : Has P w K mg base 13 "holders" s_holders ["log"] (cn_log fun qs => .list (Lg.of qs).holdD))
    (H_versions : Has P w K mg base 11 "versions" s_versions ["log", "page"] (cn_logI (fun qs p => .list ((vers qs p).map imgD)) vlog)) (H_replay : Has P w K mg base 12 "replay" s_replay ["log", "page", "lsn"] cn_replay) (H_tree_of : Has P w K mg base 12 "tree_of" s_tree_of ["log"] cn_treeof)
    {f : Addr} {fd : FuncData} (Fu : Fun K "_law_cut_right" "_law_cut_right" s__law_cut_right f fd) : FnD P w K mg base 14 f fd ["_law_a", "_law_b", "_law_c", "_law_d", "_law_e"] cn_wright := by
  refine fnD_of Fu sc__law_cut_right (fun rs M R h => ?_) fun cdv A outer s H hgd hr => ⟨_, (pdb_cons (pds_set 5 sc__law_cut_right.nd (pd_slice (pd_fn H__law_first hgd (hr.mono (by first | decide | omega)) (by rfl) (pda_cons (pd_var 0) (pda_cons (pd_var 1) (pda_cons (pd_var 2) (pda_cons (pd_var 3) (pda_cons (pd_var 4) pda_nil)))))) pdo_none (pdo_some pd_int)))
      (pdb_cons (pds_set 5 sc__law_cut_right.nd (pd_op o_plus (pd_var 5) (pd_tup (pda_cons (pd_tup (pda_cons pd_str pda_nil)) (pda_cons (pd_tup (pda_cons pd_str (pda_cons pd_int (pda_cons pd_int (pda_cons pd_int (pda_cons (pd_tup (pda_cons pd_str pda_nil)) (pda_cons pd_int pda_nil))))))) (pda_cons (pd_tup (pda_cons pd_str (pda_cons pd_int (pda_cons pd_int (pda_cons pd_int (pda_cons (pd_tup (pda_cons pd_str pda_nil)) (pda_cons pd_int pda_nil))))))) pda_nil))))))
      (pdb_cons (pds_set 5 sc__law_cut_right.nd (pd_op o_plus (pd_var 5) (pd_tup (pda_cons (pd_tup (pda_cons pd_str (pda_cons pd_int (pda_cons pd_int (pda_cons pd_int (pda_cons (pd_var 4) (pda_cons pd_non (pda_cons pd_int pda_nil)))))))) (pda_cons (pd_tup (pda_cons pd_str (pda_cons pd_int (pda_cons pd_int (pda_cons pd_int (pda_cons (pd_var 3) (pda_cons pd_non (pda_cons pd_int pda_nil)))))))) (pda_cons (pd_tup (pda_cons pd_str (pda_cons pd_int (pda_cons pd_int pda_nil)))) pda_nil))))))
      (pdb_cons (pds_setLc 6 (own := [("_law_many", 9)]) rfl sc__law_cut_right.nd rfl rfl (sw_true rfl rfl rfl (by decide +kernel)) (pdi_seq (pd_tup (pda_cons pd_int (pda_cons pd_int (pda_cons pd_int (pda_cons pd_int (pda_cons pd_int (pda_cons pd_int pda_nil)))))))) (blkOk_by (N := N__law_cut_right) (sc := defScope s__law_cut_right) (by decide +kernel)) (fun _ _ _ _ _ => (pdgw_name 9 sc__law_cut_right.nd)) (fun _ _ _ _ _ => pdts_nil) (fun _ _ _ _ _ => (pd_fn H_open_ones hgd (hr.mono (by first | decide | omega)) (by rfl) (pda_cons (pd_slice (pd_var 5) pdo_none (pdo_some (pd_var 9))) pda_nil))))
      (pdb_cons (pds_set 7 sc__law_cut_right.nd (pd_lst (pda_cons (pd_lst (pda_cons (pd_tup (pda_cons pd_int (pda_cons pd_int (pda_cons pd_int pda_nil)))) (pda_cons (pd_tup (pda_cons pd_int (pda_cons pd_int (pda_cons pd_int pda_nil)))) pda_nil))) (pda_cons (pd_lst (pda_cons (pd_tup (pda_cons pd_int (pda_cons pd_int (pda_cons pd_int pda_nil)))) (pda_cons (pd_tup (pda_cons pd_int (pda_cons pd_int (pda_cons pd_int pda_nil)))) pda_nil))) (pda_cons (pd_lst (pda_cons (pd_tup (pda_cons pd_int (pda_cons pd_int (pda_cons pd_int pda_nil)))) (pda_cons (pd_tup (pda_cons pd_int (pda_cons pd_int (pda_cons pd_int pda_nil)))) pda_nil))) (pda_cons (pd_lst (pda_cons (pd_tup (pda_cons pd_int (pda_cons pd_int (pda_cons pd_int pda_nil)))) (pda_cons (pd_tup (pda_cons pd_int (pda_cons pd_int (pda_cons pd_int pda_nil)))) pda_nil))) pda_nil))))))
      (pdb_cons (pds_if (pdt_not (pdt_tru (pd_fn H__law_same hgd (hr.mono (by first | decide | omega)) (by rfl) (pda_cons (pd_var 6) (pda_cons (pd_op o_plus (pd_var 7) (pd_lst (pda_cons (pd_lst (pda_cons (pd_tup (pda_cons pd_int (pda_cons pd_int (pda_cons pd_int pda_nil)))) (pda_cons (pd_tup (pda_cons pd_int (pda_cons pd_int (pda_cons pd_int pda_nil)))) pda_nil))) (pda_cons (pd_lst (pda_cons (pd_tup (pda_cons pd_int (pda_cons pd_int (pda_cons pd_int pda_nil)))) pda_nil)) pda_nil)))) pda_nil))))) (pdb_one (pds_ret pd_bl)) pdb_nil)
      (pdb_cons (pds_set 6 sc__law_cut_right.nd (pd_lst (pda_cons (pd_fn H_versions hgd (hr.mono (by first | decide | omega)) (by rfl) (pda_cons (pd_var 5) (pda_cons pd_int pda_nil))) (pda_cons (pd_ix (pd_fn H_replay hgd (hr.mono (by first | decide | omega)) (by rfl) (pda_cons (pd_var 5) (pda_cons pd_int (pda_cons pd_int pda_nil)))) pd_int) (pda_cons (pd_fn H_tree_of hgd (hr.mono (by first | decide | omega)) (by rfl) (pda_cons (pd_var 5) pda_nil)) (pda_cons (pd_fn H_holders hgd (hr.mono (by first | decide | omega)) (by rfl) (pda_cons (pd_var 5) pda_nil)) pda_nil))))))
      (pdb_cons (pds_set 7 sc__law_cut_right.nd (pd_lst (pda_cons (pd_tup (pda_cons pd_int (pda_cons (pd_tup (pda_cons pd_str pda_nil)) pda_nil))) (pda_cons (pd_tup (pda_cons pd_int (pda_cons (pd_tup (pda_cons pd_str (pda_cons (pd_tup (pda_cons (pd_tup (pda_cons (pd_var 0) (pda_cons pd_int pda_nil))) (pda_cons (pd_tup (pda_cons (pd_var 1) (pda_cons pd_int pda_nil))) pda_nil))) pda_nil))) pda_nil))) (pda_cons (pd_tup (pda_cons pd_int (pda_cons (pd_tup (pda_cons pd_str pda_nil)) pda_nil))) pda_nil)))))
      (pdb_cons (pds_set 8 sc__law_cut_right.nd (pd_tup (pda_cons (pd_tup (pda_cons pd_int (pda_cons (pd_tup (pda_cons pd_str (pda_cons (pd_tup (pda_cons (pd_tup (pda_cons (pd_var 0) (pda_cons pd_int pda_nil))) (pda_cons (pd_tup (pda_cons (pd_var 1) (pda_cons pd_int pda_nil))) pda_nil))) pda_nil))) pda_nil))) pda_nil)))
      (pdb_one (pds_ret (pd_fn H__law_same hgd (hr.mono (by first | decide | omega)) (by rfl) (pda_cons (pd_var 6) (pda_cons (pd_lst (pda_cons (pd_var 7) (pda_cons (pd_tup (pda_cons pd_str (pda_cons (pd_tup (pda_cons (pd_tup (pda_cons (pd_var 3) (pda_cons pd_int pda_nil))) (pda_cons (pd_tup (pda_cons (pd_var 4) (pda_cons pd_int pda_nil))) pda_nil))) pda_nil))) (pda_cons (pd_var 8) (pda_cons (pd_lst (pda_cons (pd_tup (pda_cons (pd_var 0) (pda_cons pd_int pda_nil))) (pda_cons (pd_tup (pda_cons (pd_var 1) (pda_cons pd_int pda_nil))) (pda_cons (pd_tup (pda_cons (pd_var 4) (pda_cons pd_int pda_nil))) pda_nil)))) pda_nil))))) pda_nil)))))))))))))), ?_⟩
  · obtain ⟨a, b, c, d, e, rfl, _⟩ := h
    rfl
  · rintro rs M R ⟨a, b, c, d, e, rfl, ky, hk⟩
    walk_at "start"
    walk_at "run"
    refine ⟨a, b, c, d, e, rfl, ?_⟩
    walk_at "run"
    rw [show cutA (List.map Rc.d (firstR a b c d e)) none (some 9) ++ [PyData.tuple [.str "restart"], .tuple [.str "unshape", .int 1, .int 9, .int 2, .tuple [.str "free"], .int 8], .tuple [.str "unshape", .int 1, .int 11, .int 1, .tuple [.str "free"], .int 6]] ++ [.tuple [.str "undo", .int 1, .int 12, .int 0, .int e, .none, .int 3], .tuple [.str "undo", .int 4, .int 5, .int 0, .int d, .none, .int 0], .tuple [.str "end", .int 4, .int 14]] = (cutR a b c d e).map Rc.d from by rw [cutA_to (by decide), ← List.map_take]; unfold cutR; rw [List.map_append, List.append_assoc]; rfl]
    have oW := cut_ok ky
    have oO := cut_open a b c d e
    have hH := cut_hold ky
    have v1 := vlog_c1 ky
    have v2 := vlog_c2 ky
    have e1' := vers_c1 (a := a) (b := b) (c := c) (d := d) (e := e)
    have r2 := rep_c2 (a := a) (b := b) (c := c) (d := d) (e := e)
    have io := iok_c ky
    have tT := treeT_c ky
    have tD := treeD_c ky
    have lW : (cutR a b c d e).length = 15 := rfl
    generalize cutR a b c d e = W at *
    refine lc_m [10, 11, 12, 13, 14, 15] (fun n : Nat => Sl.i (n : Int)) (fun n : Nat => .d (.list (Lg.of (W.take n)).opensD)) trivial (by rw [sizeLine_eq]; decide) (fun n hn k1 k0 h => ?_) ?_
    · walk_at "run"
      rw [cutA_to (by omega), show ((n : Int)).toNat = n by omega, ← List.map_take]
      exact ⟨W.take n, rfl, fun q hq => oW q (List.mem_of_mem_take hq), by rw [List.length_take]; omega, h⟩
    rw [mapD_d, oO]
    refine ⟨_, datOf_map _, ?_⟩
    walk_at "run"
    refine ⟨_, rfl, shw_of wds (by decide +kernel) (by decide +kernel), ?_⟩
    walk_at "run"
    refine ⟨W, 1, rfl, oW, by omega, v1, ?_⟩
    rw [show (fun (qs : List Rc) (p : Int) => PyData.list ((vers qs p).map imgD)) W 1 = .list ((vers W 1).map imgD) from rfl, e1']
    walk_at "run"
    refine ⟨W, 2, 10, rfl, oW, v2, by decide, ?_⟩
    rw [r2, show imgD (9, highD d e) = .tuple [.int 9, highD d e] from rfl]
    walk_at "run"
    refine ⟨W, rfl, oW, by omega, io, ?_, ?_⟩
    · rw [tT]
      intro y hy
      simp only [List.mem_cons, List.not_mem_nil, or_false] at hy
      rcases hy with rfl | rfl | rfl
      · exact ⟨⟨_, rfl⟩, shaped_of wds (by (obtain ⟨ha, hb, hc, hd, he⟩ := ky.sizes; simp [sz_t, sz_l, sz_n, szs_0, szs_c, sz_i, ha, hb, hc, hd, he, w_leaf, w_inner, w_free, w_begin, w_put, w_undo, w_room, w_shape, w_unshape, w_closed, w_commit, w_end, w_check, w_restart, lfD, freeD, bareD, lowD, highD, fullD, inD, enE, Rc.d, imgD])) (Nat.le_of_ble_eq_true rfl)⟩
      · exact ⟨⟨_, rfl⟩, shaped_free⟩
      · exact ⟨⟨_, rfl⟩, shaped_free⟩
    rw [tD]
    walk_at "run"
    refine ⟨W, rfl, oW, by omega, ?_⟩
    rw [show (fun (qs : List Rc) => PyData.list (Lg.of qs).holdD) W = .list (Lg.of W).holdD from rfl, hH]
    walk_at "run"
    refine ⟨_, rfl, shw_of wds (by (obtain ⟨ha, hb, hc, hd, he⟩ := ky.sizes; simp [sz_t, sz_l, sz_n, szs_0, szs_c, sz_i, ha, hb, hc, hd, he, w_leaf, w_inner, w_free, w_begin, w_put, w_undo, w_room, w_shape, w_unshape, w_closed, w_commit, w_end, w_check, w_restart, lfD, freeD, bareD, lowD, highD, fullD, inD, enE, Rc.d, imgD])) (Nat.le_of_ble_eq_true rfl), ?_⟩
    exact upR.of hk
end
end LW

set_option Elab.async false
set_option linter.all false
set_option maxRecDepth 100000
set_option maxHeartbeats 4000000
namespace LW
open PySem PySem.Spec L2 DL
local macro_rules | `(tactic| walk_at "mem") => `(tactic| ((repeat rw [upM_ne (by assumption)]); first | exact upM_same | assumption))
local macro_rules | `(tactic| walk_at "look") => `(tactic| first | rfl | assumption | exact atI_map0 | exact atI_map1 | walk_at "mem" | (with_reducible apply lsOf_m; walk_at "mem") | (with_reducible apply sqOf_m; walk_at "mem") | (with_reducible apply rlOf_m; walk_at "mem") | (with_reducible apply sqOf'_m; walk_at "mem") | (with_reducible apply tru_l; walk_at "mem") | (with_reducible apply tru_d; walk_at "mem") | ((simp (discharger := assumption) only [sqOf, sqOf', rlOf, lsOf, tru, upM_same, upM_ne]) <;> rfl))
local macro_rules | `(tactic| walk_at "set") => `(tactic| (simp only [wipeD, List.set_cons_zero, List.set_cons_succ, List.set_nil]; rfl))
local macro_rules | `(tactic| walk_at "side") => `(tactic| first | omega | (simp only [List.length_map, List.length_cons, List.length_nil]; omega) | assumption | rfl | decide | exact ⟨by omega, by omega⟩ | exact Nat.le_of_ble_eq_true rfl)
local macro_rules | `(tactic| walk_at "head") => `(tactic| with_reducible conv => whnf)
local macro_rules | `(tactic| walk_at "step") => `(tactic| (walk_at "head"; first
  | ((with_reducible apply gN_go); (focus walk_at "set"))
  | ((with_reducible apply e1s); (focus rfl))
  | ((with_reducible apply e1); (focus walk_at "look"))
  | ((with_reducible apply e2); (focus walk_at "look"); (focus walk_at "look"))
  | ((with_reducible apply l1); (focus walk_at "look"))
  | ((with_reducible apply l2); (focus walk_at "look"); (focus walk_at "look"))
  | ((with_reducible apply e3); (focus walk_at "look"); (focus walk_at "look"); (focus walk_at "look"))
  | ((with_reducible apply e0a); (focus walk_at "look"))
  | ((with_reducible apply And.intro); (focus walk_at "side"))
  | ((with_reducible apply d1); (focus walk_at "look"))
  | ((with_reducible apply d2); (focus walk_at "look"); (focus walk_at "look"))
  | ((with_reducible apply d3); (focus walk_at "look"); (focus walk_at "look"); (focus walk_at "look"))
  | ((with_reducible apply d0); (focus walk_at "look"))
  | ((with_reducible apply lk1); (focus walk_at "look"))
  | with_reducible apply gw2_go
  | with_reducible apply gw3_go
  | with_reducible apply gs_go
  | with_reducible apply gt2_go
  | with_reducible apply gt3_go
  | with_reducible apply gt1_go
  | with_reducible apply gt4_go
  | with_reducible apply gt5_go
  | with_reducible apply gt6_go
  | with_reducible apply gt7_go
  | with_reducible apply gt8_go
  | with_reducible apply ift_go
  | with_reducible apply iff_go
  | ((with_reducible apply ifT_go); (focus rfl))
  | ((with_reducible apply ifF_go); (focus rfl))))
local macro_rules | `(tactic| walk_at "run") => `(tactic| (repeat walk_at "step"); walk_at "head")
local macro_rules | `(tactic| walk_at "start") => `(tactic| simp only [startD, List.map_cons, List.map_nil, List.length_cons, List.length_nil, List.replicate, List.cons_append, List.nil_append, Nat.reduceAdd, Nat.reduceSub, bodyK])
abbrev oneD : PyData := .tuple [.str "inner", .tuple [.tuple [.none, .int 2]]]
def freR (a b c d e : Int) : List Rc := firstR a b c d e ++ [.undo 1 12 1 c .none 6, .undo 1 13 2 e .none 3, .undo 1 14 1 b .none 2, .undo 1 15 1 a .none 0, .fin 1 16, .commit 4 5,
  .free 1, .shape 0 19 0 (inD d) oneD, .shape 0 20 1 bareD freeD, .shape 0 21 0 oneD (lfD [(d, .int 3)]), .check, .shape 0 22 2 (lfD [(d, .int 3)]) freeD, .closed 0 24 0]
theorem fre_ok {a b c d e : Int} (k : Kys a b c d e) : ∀ q ∈ freR a b c d e, q.Ok := by
  intro q hq
  simp only [freR, firstR, List.cons_append, List.nil_append, List.mem_cons, List.not_mem_nil, or_false] at hq
  rcases hq with rfl | rfl | rfl | rfl | rfl | rfl | rfl | rfl | rfl | rfl | rfl | rfl | rfl | rfl | rfl | rfl | rfl | rfl | rfl | rfl | rfl | rfl | rfl | rfl | rfl
  all_goals exact ⟨rfl, Nat.le_of_ble_eq_true rfl, by (obtain ⟨ha, hb, hc, hd, he⟩ := k.sizes; simp [sz_t, sz_l, sz_n, szs_0, szs_c, sz_i, ha, hb, hc, hd, he, w_leaf, w_inner, w_free, w_begin, w_put, w_undo, w_room, w_shape, w_unshape, w_closed, w_commit, w_end, w_check, w_restart, lfD, freeD, bareD, lowD, highD, fullD, inD, enE, Rc.d, imgD])⟩
theorem fre_open (a b c d e : Int) : [18, 19, 20, 23, 25].map (fun n => PyData.list (Lg.of ((freR a b c d e).take n)).opensD) =
    [.list [], .list [], .list [.tuple [.int 0, .int 20, .int 20]], .list [.tuple [.int 0, .int 22, .int 22]], .list []] := by
  unfold Lg.opensD Lg.opens Lg.isOpen
  simp only [of_todo, of_lastOf, of_opn]
  rfl
theorem fre_owner (a b c d e : Int) : [17, 18, 19, 20, 23, 25].map (fun n : Nat => oD (((freR a b c d e).getD ((n : Int) - 1).toNat .check).owner n)) = [.int 1, .int 4, .int 0, .int 0, .none, .int 0] := rfl
theorem fre_todo (a b c d e : Int) : (Lg.of ((freR a b c d e).take 24)).todo 0 = 24 ∧ (Lg.of (freR a b c d e)).todo 0 = 0 := by
  simp only [of_todo]
  exact ⟨rfl, rfl⟩
theorem fre_hold {a b c d e : Int} (k : Kys a b c d e) : (Lg.of (freR a b c d e)).holdD = [] := by
  obtain ⟨h1, h2, h3, h4⟩ := k.facts
  unfold Lg.holdD
  simp only [of_hold]
  simp [freR, firstR, holdF, putA, getA, dropA, freed, srtD, insD, keyD, h1, h2, h3, h4]
theorem chg_f2 (a b c d e : Int) : chg 2 1 (freR a b c d e) = [(9, .shape 1 8 2 freeD (highD d e)), (14, .undo 1 13 2 e .none 3), (24, .shape 0 22 2 (lfD [(d, .int 3)]) freeD)] := rfl
theorem chg_f1 (a b c d e : Int) : chg 1 1 (freR a b c d e) = [(8, .shape 1 7 1 freeD (lowD a b)), (12, .put 1 11 1 c .none (.int 5)), (13, .undo 1 12 1 c .none 6), (15, .undo 1 14 1 b .none 2), (16, .undo 1 15 1 a .none 0), (21, .shape 0 20 1 bareD freeD)] := rfl
section
variable {a b c d e : Int} (k : Kys a b c d e)
include k
theorem ws_2e : wsE [(d, PyData.int 3), (e, .int 4)] e .none = [(d, .int 3)] := by
  obtain ⟨h1, h2, h3, h4⟩ := k.facts
  simp [wsE, srtE, insE, isN, h1, h2, h3, h4]
theorem ws_2b : wsE [(a, PyData.int 1), (b, .int 2)] b .none = [(a, .int 1)] := by
  obtain ⟨h1, h2, h3, h4⟩ := k.facts
  simp [wsE, srtE, insE, isN, h1, h2, h3, h4]
theorem ws_2a : wsE [(a, PyData.int 1)] a .none = [] := by simp [wsE, srtE, insE, isN]
theorem vers_f2 : vers (freR a b c d e) 2 = [(0, freeD), (9, highD d e), (14, lfD [(d, .int 3)]), (24, freeD)] := by
  unfold vers
  rw [chg_f2, show first 2 = freeD from rfl]
  simp only [verL, laid_shape, highD, laid_undo, ws_2e k]
theorem vers_f1 : vers (freR a b c d e) 1 = [(0, freeD), (8, lowD a b), (12, lfD [(a, .int 1), (b, .int 2), (c, .int 5)]), (13, lfD [(a, .int 1), (b, .int 2)]), (15, lfD [(a, .int 1)]), (16, lfD []), (21, freeD)] := by
  unfold vers
  rw [chg_f1, show first 1 = freeD from rfl]
  simp only [verL, laid_shape, lowD, laid_put, laid_undo, ws_c k, ws_c' k, ws_2b k, ws_2a k]
theorem vlog_f2 : vlog (freR a b c d e) 2 := by
  obtain ⟨h1, h2, h3, h4⟩ := k.facts
  refine ⟨Nat.le_of_ble_eq_true rfl, ?_⟩
  rw [chg_f2, show first 2 = freeD from rfl]
  simp only [VOk, laid_shape, highD, laid_undo, ws_2e k]
  exact ⟨lay_shape ctg_free, lay_undo ⟨rfl, Nat.le_of_ble_eq_true rfl, by (obtain ⟨ha, hb, hc, hd, he⟩ := k.sizes; simp [sz_t, sz_l, sz_n, szs_0, szs_c, sz_i, ha, hb, hc, hd, he, w_leaf, w_inner, w_free, w_begin, w_put, w_undo, w_room, w_shape, w_unshape, w_closed, w_commit, w_end, w_check, w_restart, lfD, freeD, bareD, lowD, highD, fullD, inD, enE, Rc.d, imgD])⟩ (Nat.le_of_ble_eq_true rfl) (by simp [h1, h2]), lay_shape ⟨rfl, Nat.le_of_ble_eq_true rfl, by (obtain ⟨ha, hb, hc, hd, he⟩ := k.sizes; simp [sz_t, sz_l, sz_n, szs_0, szs_c, sz_i, ha, hb, hc, hd, he, w_leaf, w_inner, w_free, w_begin, w_put, w_undo, w_room, w_shape, w_unshape, w_closed, w_commit, w_end, w_check, w_restart, lfD, freeD, bareD, lowD, highD, fullD, inD, enE, Rc.d, imgD])⟩, trivial⟩
theorem vlog_f1 : vlog (freR a b c d e) 1 := by
  obtain ⟨h1, h2, h3, h4⟩ := k.facts
  refine ⟨Nat.le_of_ble_eq_true rfl, ?_⟩
  rw [chg_f1, show first 1 = freeD from rfl]
  simp only [VOk, laid_shape, lowD, laid_put, laid_undo, ws_c k, ws_c' k, ws_2b k, ws_2a k]
  exact ⟨lay_shape ctg_free, lay_put ⟨rfl, Nat.le_of_ble_eq_true rfl, by (obtain ⟨ha, hb, hc, hd, he⟩ := k.sizes; simp [sz_t, sz_l, sz_n, szs_0, szs_c, sz_i, ha, hb, hc, hd, he, w_leaf, w_inner, w_free, w_begin, w_put, w_undo, w_room, w_shape, w_unshape, w_closed, w_commit, w_end, w_check, w_restart, lfD, freeD, bareD, lowD, highD, fullD, inD, enE, Rc.d, imgD])⟩ (Nat.le_of_ble_eq_true rfl) (by simp [h1, h2]), lay_undo ⟨rfl, Nat.le_of_ble_eq_true rfl, by (obtain ⟨ha, hb, hc, hd, he⟩ := k.sizes; simp [sz_t, sz_l, sz_n, szs_0, szs_c, sz_i, ha, hb, hc, hd, he, w_leaf, w_inner, w_free, w_begin, w_put, w_undo, w_room, w_shape, w_unshape, w_closed, w_commit, w_end, w_check, w_restart, lfD, freeD, bareD, lowD, highD, fullD, inD, enE, Rc.d, imgD])⟩ (Nat.le_of_ble_eq_true rfl) (by simp [h1, h2]), lay_undo ⟨rfl, Nat.le_of_ble_eq_true rfl, by (obtain ⟨ha, hb, hc, hd, he⟩ := k.sizes; simp [sz_t, sz_l, sz_n, szs_0, szs_c, sz_i, ha, hb, hc, hd, he, w_leaf, w_inner, w_free, w_begin, w_put, w_undo, w_room, w_shape, w_unshape, w_closed, w_commit, w_end, w_check, w_restart, lfD, freeD, bareD, lowD, highD, fullD, inD, enE, Rc.d, imgD])⟩ (Nat.le_of_ble_eq_true rfl) (by simp [h1, h2]), lay_undo ⟨rfl, Nat.le_of_ble_eq_true rfl, by (obtain ⟨ha, hb, hc, hd, he⟩ := k.sizes; simp [sz_t, sz_l, sz_n, szs_0, szs_c, sz_i, ha, hb, hc, hd, he, w_leaf, w_inner, w_free, w_begin, w_put, w_undo, w_room, w_shape, w_unshape, w_closed, w_commit, w_end, w_check, w_restart, lfD, freeD, bareD, lowD, highD, fullD, inD, enE, Rc.d, imgD])⟩ (Nat.le_of_ble_eq_true rfl) (by simp), lay_shape ⟨rfl, Nat.le_of_ble_eq_true rfl, by (obtain ⟨ha, hb, hc, hd, he⟩ := k.sizes; simp [sz_t, sz_l, sz_n, szs_0, szs_c, sz_i, ha, hb, hc, hd, he, w_leaf, w_inner, w_free, w_begin, w_put, w_undo, w_room, w_shape, w_unshape, w_closed, w_commit, w_end, w_check, w_restart, lfD, freeD, bareD, lowD, highD, fullD, inD, enE, Rc.d, imgD])⟩, trivial⟩
theorem imgs_f : imgs 1 (freR a b c d e) [] = [(0, (22, lfD [(d, .int 3)])), (1, (21, freeD)), (2, (24, freeD))] := by
  simp only [freR, firstR, List.cons_append, List.nil_append, imgs, Rc.page, getA, putA, Option.getD, first, bare_lf, laid_put, laid_shape, laid_undo, laid_unshape, ws_0a k, ws_0b k, ws_0d k, ws_0e k, highD, lowD, fullD]
  simp [imgs, Rc.page, getA, putA, laid_put, laid_shape, laid_undo, laid_unshape, ws_0a k, ws_0b k, ws_0d k, ws_0e k, ws_c k, ws_c' k, ws_2e k, ws_2b k, ws_2a k]
theorem treeT_f : treeT (freR a b c d e) = [(0, (22, lfD [(d, .int 3)])), (1, (21, freeD)), (2, (24, freeD))] := by unfold treeT treeM; rw [imgs_f k]; rfl
theorem treeD_f : treeD (freR a b c d e) = [.tuple [.int 0, lfD [(d, .int 3)]]] := by unfold treeD; rw [treeT_f k]; rfl
theorem iok_f : IOk 1 (freR a b c d e) [] := by
  obtain ⟨h1, h2, h3, h4⟩ := k.facts
  have p0 : LayOk (lfD []) (.put 1 1 0 a .none (.int 1)) := lay_put ⟨rfl, Nat.le_of_ble_eq_true rfl, by (obtain ⟨ha, hb, hc, hd, he⟩ := k.sizes; simp [sz_t, sz_l, sz_n, szs_0, szs_c, sz_i, ha, hb, hc, hd, he, w_leaf, w_inner, w_free, w_begin, w_put, w_undo, w_room, w_shape, w_unshape, w_closed, w_commit, w_end, w_check, w_restart, lfD, freeD, bareD, lowD, highD, fullD, inD, enE, Rc.d, imgD])⟩ (Nat.le_of_ble_eq_true rfl) (by simp)
  have p1 : LayOk (lfD [(a, .int 1)]) (.put 1 2 0 b .none (.int 2)) := lay_put ⟨rfl, Nat.le_of_ble_eq_true rfl, by (obtain ⟨ha, hb, hc, hd, he⟩ := k.sizes; simp [sz_t, sz_l, sz_n, szs_0, szs_c, sz_i, ha, hb, hc, hd, he, w_leaf, w_inner, w_free, w_begin, w_put, w_undo, w_room, w_shape, w_unshape, w_closed, w_commit, w_end, w_check, w_restart, lfD, freeD, bareD, lowD, highD, fullD, inD, enE, Rc.d, imgD])⟩ (Nat.le_of_ble_eq_true rfl) (by simp)
  have p2 : LayOk (lfD [(a, .int 1), (b, .int 2)]) (.put 4 4 0 d .none (.int 3)) := lay_put ⟨rfl, Nat.le_of_ble_eq_true rfl, by (obtain ⟨ha, hb, hc, hd, he⟩ := k.sizes; simp [sz_t, sz_l, sz_n, szs_0, szs_c, sz_i, ha, hb, hc, hd, he, w_leaf, w_inner, w_free, w_begin, w_put, w_undo, w_room, w_shape, w_unshape, w_closed, w_commit, w_end, w_check, w_restart, lfD, freeD, bareD, lowD, highD, fullD, inD, enE, Rc.d, imgD])⟩ (Nat.le_of_ble_eq_true rfl) (by simp [h1, h2])
  have p3 : LayOk (lfD [(a, .int 1), (b, .int 2), (d, .int 3)]) (.put 1 3 0 e .none (.int 4)) := lay_put ⟨rfl, Nat.le_of_ble_eq_true rfl, by (obtain ⟨ha, hb, hc, hd, he⟩ := k.sizes; simp [sz_t, sz_l, sz_n, szs_0, szs_c, sz_i, ha, hb, hc, hd, he, w_leaf, w_inner, w_free, w_begin, w_put, w_undo, w_room, w_shape, w_unshape, w_closed, w_commit, w_end, w_check, w_restart, lfD, freeD, bareD, lowD, highD, fullD, inD, enE, Rc.d, imgD])⟩ (Nat.le_of_ble_eq_true rfl) (by simp [h1, h2])
  have p4 : ∀ {t l p : Int} {x y : PyData}, LayOk freeD (.shape t l p x y) := lay_shape ctg_free
  have p5 : ∀ {t l p : Int} {x y : PyData}, LayOk (lfD [(a, .int 1), (b, .int 2), (d, .int 3), (e, .int 4)]) (.shape t l p x y) := lay_shape ⟨rfl, Nat.le_of_ble_eq_true rfl, by (obtain ⟨ha, hb, hc, hd, he⟩ := k.sizes; simp [sz_t, sz_l, sz_n, szs_0, szs_c, sz_i, ha, hb, hc, hd, he, w_leaf, w_inner, w_free, w_begin, w_put, w_undo, w_room, w_shape, w_unshape, w_closed, w_commit, w_end, w_check, w_restart, lfD, freeD, bareD, lowD, highD, fullD, inD, enE, Rc.d, imgD])⟩
  have p7 : LayOk (lfD [(a, .int 1), (b, .int 2)]) (.put 1 11 1 c .none (.int 5)) := lay_put ⟨rfl, Nat.le_of_ble_eq_true rfl, by (obtain ⟨ha, hb, hc, hd, he⟩ := k.sizes; simp [sz_t, sz_l, sz_n, szs_0, szs_c, sz_i, ha, hb, hc, hd, he, w_leaf, w_inner, w_free, w_begin, w_put, w_undo, w_room, w_shape, w_unshape, w_closed, w_commit, w_end, w_check, w_restart, lfD, freeD, bareD, lowD, highD, fullD, inD, enE, Rc.d, imgD])⟩ (Nat.le_of_ble_eq_true rfl) (by simp [h1, h2])
  have p8 : LayOk (lfD [(d, .int 3), (e, .int 4)]) (.undo 1 13 2 e .none 3) := lay_undo ⟨rfl, Nat.le_of_ble_eq_true rfl, by (obtain ⟨ha, hb, hc, hd, he⟩ := k.sizes; simp [sz_t, sz_l, sz_n, szs_0, szs_c, sz_i, ha, hb, hc, hd, he, w_leaf, w_inner, w_free, w_begin, w_put, w_undo, w_room, w_shape, w_unshape, w_closed, w_commit, w_end, w_check, w_restart, lfD, freeD, bareD, lowD, highD, fullD, inD, enE, Rc.d, imgD])⟩ (Nat.le_of_ble_eq_true rfl) (by simp [h1, h2])
  have p9 : LayOk (lfD [(a, .int 1), (b, .int 2), (c, .int 5)]) (.undo 1 12 1 c .none 6) := lay_undo ⟨rfl, Nat.le_of_ble_eq_true rfl, by (obtain ⟨ha, hb, hc, hd, he⟩ := k.sizes; simp [sz_t, sz_l, sz_n, szs_0, szs_c, sz_i, ha, hb, hc, hd, he, w_leaf, w_inner, w_free, w_begin, w_put, w_undo, w_room, w_shape, w_unshape, w_closed, w_commit, w_end, w_check, w_restart, lfD, freeD, bareD, lowD, highD, fullD, inD, enE, Rc.d, imgD])⟩ (Nat.le_of_ble_eq_true rfl) (by simp [h1, h2])
  have p10 : LayOk (lfD [(a, .int 1), (b, .int 2)]) (.undo 1 14 1 b .none 2) := lay_undo ⟨rfl, Nat.le_of_ble_eq_true rfl, by (obtain ⟨ha, hb, hc, hd, he⟩ := k.sizes; simp [sz_t, sz_l, sz_n, szs_0, szs_c, sz_i, ha, hb, hc, hd, he, w_leaf, w_inner, w_free, w_begin, w_put, w_undo, w_room, w_shape, w_unshape, w_closed, w_commit, w_end, w_check, w_restart, lfD, freeD, bareD, lowD, highD, fullD, inD, enE, Rc.d, imgD])⟩ (Nat.le_of_ble_eq_true rfl) (by simp [h1, h2])
  have p11 : LayOk (lfD [(a, .int 1)]) (.undo 1 15 1 a .none 0) := lay_undo ⟨rfl, Nat.le_of_ble_eq_true rfl, by (obtain ⟨ha, hb, hc, hd, he⟩ := k.sizes; simp [sz_t, sz_l, sz_n, szs_0, szs_c, sz_i, ha, hb, hc, hd, he, w_leaf, w_inner, w_free, w_begin, w_put, w_undo, w_room, w_shape, w_unshape, w_closed, w_commit, w_end, w_check, w_restart, lfD, freeD, bareD, lowD, highD, fullD, inD, enE, Rc.d, imgD])⟩ (Nat.le_of_ble_eq_true rfl) (by simp)
  have p12 : ∀ {t l p : Int} {x y : PyData}, LayOk (inD d) (.shape t l p x y) := lay_shape ⟨rfl, Nat.le_of_ble_eq_true rfl, by (obtain ⟨ha, hb, hc, hd, he⟩ := k.sizes; simp [sz_t, sz_l, sz_n, szs_0, szs_c, sz_i, ha, hb, hc, hd, he, w_leaf, w_inner, w_free, w_begin, w_put, w_undo, w_room, w_shape, w_unshape, w_closed, w_commit, w_end, w_check, w_restart, lfD, freeD, bareD, lowD, highD, fullD, inD, enE, Rc.d, imgD])⟩
  have p13 : ∀ {t l p : Int} {x y : PyData}, LayOk (lfD []) (.shape t l p x y) := lay_shape ⟨rfl, Nat.le_of_ble_eq_true rfl, by (obtain ⟨ha, hb, hc, hd, he⟩ := k.sizes; simp [sz_t, sz_l, sz_n, szs_0, szs_c, sz_i, ha, hb, hc, hd, he, w_leaf, w_inner, w_free, w_begin, w_put, w_undo, w_room, w_shape, w_unshape, w_closed, w_commit, w_end, w_check, w_restart, lfD, freeD, bareD, lowD, highD, fullD, inD, enE, Rc.d, imgD])⟩
  have p14 : ∀ {t l p : Int} {x y : PyData}, LayOk oneD (.shape t l p x y) := lay_shape ⟨rfl, Nat.le_of_ble_eq_true rfl, by (obtain ⟨ha, hb, hc, hd, he⟩ := k.sizes; simp [sz_t, sz_l, sz_n, szs_0, szs_c, sz_i, ha, hb, hc, hd, he, w_leaf, w_inner, w_free, w_begin, w_put, w_undo, w_room, w_shape, w_unshape, w_closed, w_commit, w_end, w_check, w_restart, lfD, freeD, bareD, lowD, highD, fullD, inD, enE, Rc.d, imgD])⟩
  have p15 : ∀ {t l p : Int} {x y : PyData}, LayOk (lfD [(d, .int 3)]) (.shape t l p x y) := lay_shape ⟨rfl, Nat.le_of_ble_eq_true rfl, by (obtain ⟨ha, hb, hc, hd, he⟩ := k.sizes; simp [sz_t, sz_l, sz_n, szs_0, szs_c, sz_i, ha, hb, hc, hd, he, w_leaf, w_inner, w_free, w_begin, w_put, w_undo, w_room, w_shape, w_unshape, w_closed, w_commit, w_end, w_check, w_restart, lfD, freeD, bareD, lowD, highD, fullD, inD, enE, Rc.d, imgD])⟩
  simp only [freR, firstR, List.cons_append, List.nil_append, IOk, Rc.page, getA, putA, Option.getD, first, bare_lf, laid_put, laid_shape, laid_undo, laid_unshape, ws_0a k, ws_0b k, ws_0d k, ws_0e k, highD, lowD, fullD]
  simp [IOk, Rc.page, getA, putA, laid_put, laid_shape, laid_undo, laid_unshape, ws_0a k, ws_0b k, ws_0d k, ws_0e k, ws_c k, ws_c' k, ws_2e k, ws_2b k, ws_2a k, p0, p1, p2, p3, p4, p5, p7, p8, p9, p10, p11, p12, p13, p14, p15]
end
end LW

set_option Elab.async false
set_option linter.all false
set_option maxRecDepth 100000
set_option maxHeartbeats 4000000
namespace LW
open PySem PySem.Spec L2 DL
local macro_rules | `(tactic| walk_at "mem") => `(tactic| ((repeat rw [upM_ne (by assumption)]); first | exact upM_same | assumption))
local macro_rules | `(tactic| walk_at "look") => `(tactic| first | rfl | assumption | exact atI_map0 | exact atI_map1 | walk_at "mem" | (with_reducible apply lsOf_m; walk_at "mem") | (with_reducible apply sqOf_m; walk_at "mem") | (with_reducible apply rlOf_m; walk_at "mem") | (with_reducible apply sqOf'_m; walk_at "mem") | (with_reducible apply tru_l; walk_at "mem") | (with_reducible apply tru_d; walk_at "mem") | ((simp (discharger := assumption) only [sqOf, sqOf', rlOf, lsOf, tru, upM_same, upM_ne]) <;> rfl))
local macro_rules | `(tactic| walk_at "set") => `(tactic| (simp only [wipeD, List.set_cons_zero, List.set_cons_succ, List.set_nil]; rfl))
local macro_rules | `(tactic| walk_at "side") => `(tactic| first | omega | (simp only [List.length_map, List.length_cons, List.length_nil]; omega) | assumption | rfl | decide | exact ⟨by omega, by omega⟩ | exact Nat.le_of_ble_eq_true rfl)
local macro_rules | `(tactic| walk_at "head") => `(tactic| with_reducible conv => whnf)
local macro_rules | `(tactic| walk_at "step") => `(tactic| (walk_at "head"; first
  | ((with_reducible apply gN_go); (focus walk_at "set"))
  | ((with_reducible apply e1s); (focus rfl))
  | ((with_reducible apply e1); (focus walk_at "look"))
  | ((with_reducible apply e2); (focus walk_at "look"); (focus walk_at "look"))
  | ((with_reducible apply l1); (focus walk_at "look"))
  | ((with_reducible apply l2); (focus walk_at "look"); (focus walk_at "look"))
  | ((with_reducible apply e3); (focus walk_at "look"); (focus walk_at "look"); (focus walk_at "look"))
  | ((with_reducible apply e0a); (focus walk_at "look"))
  | ((with_reducible apply And.intro); (focus walk_at "side"))
  | ((with_reducible apply d1); (focus walk_at "look"))
  | ((with_reducible apply d2); (focus walk_at "look"); (focus walk_at "look"))
  | ((with_reducible apply d3); (focus walk_at "look"); (focus walk_at "look"); (focus walk_at "look"))
  | ((with_reducible apply d0); (focus walk_at "look"))
  | ((with_reducible apply lk1); (focus walk_at "look"))
  | with_reducible apply gw2_go
  | with_reducible apply gw3_go
  | with_reducible apply gs_go
  | with_reducible apply gt2_go
  | with_reducible apply gt3_go
  | with_reducible apply gt1_go
  | with_reducible apply gt4_go
  | with_reducible apply gt5_go
  | with_reducible apply gt6_go
  | with_reducible apply gt7_go
  | with_reducible apply gt8_go
  | with_reducible apply ift_go
  | with_reducible apply iff_go
  | ((with_reducible apply ifT_go); (focus rfl))
  | ((with_reducible apply ifF_go); (focus rfl))))
local macro_rules | `(tactic| walk_at "run") => `(tactic| (repeat walk_at "step"); walk_at "head")
local macro_rules | `(tactic| walk_at "start") => `(tactic| simp only [startD, List.map_cons, List.map_nil, List.length_cons, List.length_nil, List.replicate, List.cons_append, List.nil_append, Nat.reduceAdd, Nat.reduceSub, bodyK])
section
variable {P : Program} {w : World} {K : PySem.W.Frag} {mg : Str → Option Value} {base : Heap} {C : Addr}
theorem ok_freed (T : Tx K mg) (H__law_same : Has P w K mg base 1 "_law_same" s__law_same ["_law_found", "_law_due_so"] cn_same) (H__law_first : Has P w K mg base 1 "_law_first" s__law_first ["_law_a", "_law_b", "_law_c", "_law_d", "_law_e"] cn_lfirst)
    (H_owner_of : Has P w K mg base 10 "owner_of" s_owner_of ["log", "lsn"] (cn_logI (fun qs n => oD ((qs.getD (n - 1).toNat .check).owner n)) fun qs n => 1 ≤ n ∧ n ≤ qs.length)) (H_todo_of : Has P w K mg base 13 "todo_of" s_todo_of ["log", "t"] (cn_logI (fun qs t => .int ((Lg.of qs).todo t)) fun _ _ => True))
    (H_open_ones : Has P w K mg base 13 "open_ones" s_open_ones ["log"] (cn_log fun qs => .list (Lg.of qs).opensD)) (H_holders : Has P w K mg base 13 "holders" s_holders ["log"] (cn_log fun qs => .list (Lg.of qs).holdD))
    (H_versions : Has P w K mg base 11 "versions" s_versions ["log", "page"] (cn_logI (fun qs p => .list ((vers qs p).map imgD)) vlog)) (H_tree_of : Has P w K mg base 12 "tree_of" s_tree_of ["log"] cn_treeof)
    {f : Addr} {fd : FuncData} (Fu : Fun K "_law_freed_right" "_law_freed_right" s__law_freed_right f fd) : FnD P w K mg base 14 f fd ["_law_a", "_law_b", "_law_c", "_law_d", "_law_e"] cn_wright := by
  refine fnD_of Fu sc__law_freed_right (fun rs M R h => ?_) fun cdv A outer s H hgd hr => ⟨_, (pdb_cons (pds_set 5 sc__law_freed_right.nd (pd_op o_plus (pd_fn H__law_first hgd (hr.mono (by first | decide | omega)) (by rfl) (pda_cons (pd_var 0) (pda_cons (pd_var 1) (pda_cons (pd_var 2) (pda_cons (pd_var 3) (pda_cons (pd_var 4) pda_nil)))))) (pd_tup (pda_cons (pd_tup (pda_cons pd_str (pda_cons pd_int (pda_cons pd_int (pda_cons pd_int (pda_cons (pd_var 2) (pda_cons pd_non (pda_cons pd_int pda_nil)))))))) (pda_cons (pd_tup (pda_cons pd_str (pda_cons pd_int (pda_cons pd_int (pda_cons pd_int (pda_cons (pd_var 4) (pda_cons pd_non (pda_cons pd_int pda_nil)))))))) pda_nil)))))
      (pdb_cons (pds_set 5 sc__law_freed_right.nd (pd_op o_plus (pd_var 5) (pd_tup (pda_cons (pd_tup (pda_cons pd_str (pda_cons pd_int (pda_cons pd_int (pda_cons pd_int (pda_cons (pd_var 1) (pda_cons pd_non (pda_cons pd_int pda_nil)))))))) (pda_cons (pd_tup (pda_cons pd_str (pda_cons pd_int (pda_cons pd_int (pda_cons pd_int (pda_cons (pd_var 0) (pda_cons pd_non (pda_cons pd_int pda_nil)))))))) (pda_cons (pd_tup (pda_cons pd_str (pda_cons pd_int (pda_cons pd_int pda_nil)))) pda_nil))))))
      (pdb_cons (pds_set 5 sc__law_freed_right.nd (pd_op o_plus (pd_var 5) (pd_tup (pda_cons (pd_tup (pda_cons pd_str (pda_cons pd_int (pda_cons pd_int pda_nil)))) pda_nil))))
      (pdb_cons (pds_par 8 9 rfl sc__law_freed_right.nd (by decide) (pda_cons (pd_tup (pda_cons pd_str (pda_cons (pd_tup (pda_cons (pd_tup (pda_cons pd_non (pda_cons pd_int pda_nil))) (pda_cons (pd_tup (pda_cons (pd_var 3) (pda_cons pd_int pda_nil))) pda_nil))) pda_nil))) (pda_cons (pd_tup (pda_cons pd_str (pda_cons (pd_tup (pda_cons (pd_tup (pda_cons (pd_var 3) (pda_cons pd_int pda_nil))) pda_nil)) pda_nil))) pda_nil)))
      (pdb_cons (pds_set 5 sc__law_freed_right.nd (pd_op o_plus (pd_var 5) (pd_tup (pda_cons (pd_tup (pda_cons pd_str (pda_cons pd_int pda_nil))) (pda_cons (pd_tup (pda_cons pd_str (pda_cons pd_int (pda_cons pd_int (pda_cons pd_int (pda_cons (pd_var 8) (pda_cons (pd_tup (pda_cons pd_str (pda_cons (pd_tup (pda_cons (pd_tup (pda_cons pd_non (pda_cons pd_int pda_nil))) pda_nil)) pda_nil))) pda_nil))))))) pda_nil)))))
      (pdb_cons (pds_set 6 sc__law_freed_right.nd (pd_tup (pda_cons pd_str (pda_cons (pd_tup (pda_cons (pd_tup (pda_cons pd_non (pda_cons pd_int pda_nil))) pda_nil)) pda_nil))))
      (pdb_cons (pds_set 5 sc__law_freed_right.nd (pd_op o_plus (pd_var 5) (pd_tup (pda_cons (pd_tup (pda_cons pd_str (pda_cons pd_int (pda_cons pd_int (pda_cons pd_int (pda_cons (pd_tup (pda_cons pd_str (pda_cons (pd_tup pda_nil) pda_nil))) (pda_cons (pd_tup (pda_cons pd_str pda_nil)) pda_nil))))))) (pda_cons (pd_tup (pda_cons pd_str (pda_cons pd_int (pda_cons pd_int (pda_cons pd_int (pda_cons (pd_var 6) (pda_cons (pd_var 9) pda_nil))))))) pda_nil)))))
      (pdb_cons (pds_set 5 sc__law_freed_right.nd (pd_op o_plus (pd_var 5) (pd_tup (pda_cons (pd_tup (pda_cons pd_str pda_nil)) (pda_cons (pd_tup (pda_cons pd_str (pda_cons pd_int (pda_cons pd_int (pda_cons pd_int (pda_cons (pd_var 9) (pda_cons (pd_tup (pda_cons pd_str pda_nil)) pda_nil))))))) (pda_cons (pd_tup (pda_cons pd_str (pda_cons pd_int (pda_cons pd_int (pda_cons pd_int pda_nil))))) pda_nil))))))
      (pdb_cons (pds_setLc 7 (own := [("_law_many", 10)]) rfl sc__law_freed_right.nd rfl rfl (sw_true rfl rfl rfl (by decide +kernel)) (pdi_seq (pd_tup (pda_cons pd_int (pda_cons pd_int (pda_cons pd_int (pda_cons pd_int (pda_cons pd_int pda_nil))))))) (blkOk_by (N := N__law_freed_right) (sc := defScope s__law_freed_right) (by decide +kernel)) (fun _ _ _ _ _ => (pdgw_name 10 sc__law_freed_right.nd)) (fun _ _ _ _ _ => pdts_nil) (fun _ _ _ _ _ => (pd_fn H_open_ones hgd (hr.mono (by first | decide | omega)) (by rfl) (pda_cons (pd_slice (pd_var 5) pdo_none (pdo_some (pd_var 10))) pda_nil))))
      (pdb_cons (pds_if (pdt_not (pdt_tru (pd_fn H__law_same hgd (hr.mono (by first | decide | omega)) (by rfl) (pda_cons (pd_var 7) (pda_cons (pd_lst (pda_cons (pd_lst pda_nil) (pda_cons (pd_lst pda_nil) (pda_cons (pd_lst (pda_cons (pd_tup (pda_cons pd_int (pda_cons pd_int (pda_cons pd_int pda_nil)))) pda_nil)) (pda_cons (pd_lst (pda_cons (pd_tup (pda_cons pd_int (pda_cons pd_int (pda_cons pd_int pda_nil)))) pda_nil)) (pda_cons (pd_lst pda_nil) pda_nil)))))) pda_nil))))) (pdb_one (pds_ret pd_bl)) pdb_nil)
      (pdb_cons (pds_setLc 7 (own := [("_law_at", 11)]) rfl sc__law_freed_right.nd rfl rfl (sw_true rfl rfl rfl (by decide +kernel)) (pdi_seq (pd_tup (pda_cons pd_int (pda_cons pd_int (pda_cons pd_int (pda_cons pd_int (pda_cons pd_int (pda_cons pd_int pda_nil)))))))) (blkOk_by (N := N__law_freed_right) (sc := defScope s__law_freed_right) (by decide +kernel)) (fun _ _ _ _ _ => (pdgw_name 11 sc__law_freed_right.nd)) (fun _ _ _ _ _ => pdts_nil) (fun _ _ _ _ _ => (pd_fn H_owner_of hgd (hr.mono (by first | decide | omega)) (by rfl) (pda_cons (pd_var 5) (pda_cons (pd_var 11) pda_nil)))))
      (pdb_cons (pds_set 7 sc__law_freed_right.nd (pd_op o_plus (pd_var 7) (pd_lst (pda_cons (pd_fn H_todo_of hgd (hr.mono (by first | decide | omega)) (by rfl) (pda_cons (pd_slice (pd_var 5) pdo_none (pdo_some pd_int)) (pda_cons pd_int pda_nil))) (pda_cons (pd_fn H_todo_of hgd (hr.mono (by first | decide | omega)) (by rfl) (pda_cons (pd_var 5) (pda_cons pd_int pda_nil))) pda_nil)))))
      (pdb_cons (pds_if (pdt_not (pdt_tru (pd_fn H__law_same hgd (hr.mono (by first | decide | omega)) (by rfl) (pda_cons (pd_var 7) (pda_cons (pd_lst (pda_cons pd_int (pda_cons pd_int (pda_cons pd_int (pda_cons pd_int (pda_cons pd_non (pda_cons pd_int (pda_cons pd_int (pda_cons pd_int pda_nil))))))))) pda_nil))))) (pdb_one (pds_ret pd_bl)) pdb_nil)
      (pdb_cons (pds_set 7 sc__law_freed_right.nd (pd_lst (pda_cons (pd_fn H_tree_of hgd (hr.mono (by first | decide | omega)) (by rfl) (pda_cons (pd_var 5) pda_nil)) (pda_cons (pd_lc (own := [("_law_own", 12)]) rfl sc__law_freed_right.nd (pdi_seq (pd_fn H_versions hgd (hr.mono (by first | decide | omega)) (by rfl) (pda_cons (pd_var 5) (pda_cons pd_int pda_nil)))) (blkOk_by (N := N__law_freed_right) (sc := defScope s__law_freed_right) (by decide +kernel)) (fun _ _ _ _ _ => (pdgw_name 12 sc__law_freed_right.nd)) (fun _ _ _ _ _ => pdts_nil) (fun _ _ _ _ _ => (pd_ix (pd_var 12) pd_int))) (pda_cons (pd_ix (pd_fn H_versions hgd (hr.mono (by first | decide | omega)) (by rfl) (pda_cons (pd_var 5) (pda_cons pd_int pda_nil))) (pd_neg pd_int)) (pda_cons (pd_fn H_holders hgd (hr.mono (by first | decide | omega)) (by rfl) (pda_cons (pd_var 5) pda_nil)) pda_nil))))))
      (pdb_one (pds_ret (pd_fn H__law_same hgd (hr.mono (by first | decide | omega)) (by rfl) (pda_cons (pd_var 7) (pda_cons (pd_lst (pda_cons (pd_tup (pda_cons (pd_tup (pda_cons pd_int (pda_cons (pd_var 9) pda_nil))) pda_nil)) (pda_cons (pd_lst (pda_cons pd_int (pda_cons pd_int (pda_cons pd_int (pda_cons pd_int (pda_cons pd_int (pda_cons pd_int (pda_cons pd_int pda_nil)))))))) (pda_cons (pd_tup (pda_cons pd_int (pda_cons (pd_tup (pda_cons pd_str pda_nil)) pda_nil))) (pda_cons (pd_lst pda_nil) pda_nil))))) pda_nil))))))))))))))))))), ?_⟩
  · obtain ⟨a, b, c, d, e, rfl, _⟩ := h
    rfl
  · rintro rs M R ⟨a, b, c, d, e, rfl, ky, hk⟩
    walk_at "start"
    walk_at "run"
    refine ⟨a, b, c, d, e, rfl, ?_⟩
    walk_at "run"
    rw [show List.map Rc.d (firstR a b c d e) ++ [PyData.tuple [.str "undo", .int 1, .int 12, .int 1, .int c, .none, .int 6], .tuple [.str "undo", .int 1, .int 13, .int 2, .int e, .none, .int 3]] ++ [PyData.tuple [.str "undo", .int 1, .int 14, .int 1, .int b, .none, .int 2], .tuple [.str "undo", .int 1, .int 15, .int 1, .int a, .none, .int 0], .tuple [.str "end", .int 1, .int 16]] ++ [PyData.tuple [.str "commit", .int 4, .int 5]] ++ [PyData.tuple [.str "free", .int 1], .tuple [.str "shape", .int 0, .int 19, .int 0, .tuple [.str "inner", .tuple [.tuple [.none, .int 1], .tuple [.int d, .int 2]]], .tuple [.str "inner", .tuple [.tuple [.none, .int 2]]]]] ++ [PyData.tuple [.str "shape", .int 0, .int 20, .int 1, .tuple [.str "leaf", .tuple []], .tuple [.str "free"]], .tuple [.str "shape", .int 0, .int 21, .int 0, .tuple [.str "inner", .tuple [.tuple [.none, .int 2]]], .tuple [.str "leaf", .tuple [.tuple [.int d, .int 3]]]]] ++ [PyData.tuple [.str "check"], .tuple [.str "shape", .int 0, .int 22, .int 2, .tuple [.str "leaf", .tuple [.tuple [.int d, .int 3]]], .tuple [.str "free"]], .tuple [.str "closed", .int 0, .int 24, .int 0]] = (freR a b c d e).map Rc.d from by unfold freR; rw [List.map_append]; simp only [List.append_assoc]; rfl]
    have oW := fre_ok ky
    have oO := fre_open a b c d e
    have hO := fre_owner a b c d e
    have hT := fre_todo a b c d e
    have hH := fre_hold ky
    have v1 := vlog_f1 ky
    have v2 := vlog_f2 ky
    have e1' := vers_f1 ky
    have e2' := vers_f2 ky
    have io := iok_f ky
    have tT := treeT_f ky
    have tD := treeD_f ky
    have lW : (freR a b c d e).length = 25 := rfl
    generalize freR a b c d e = W at *
    refine lc_m [18, 19, 20, 23, 25] (fun n : Nat => Sl.i (n : Int)) (fun n : Nat => .d (.list (Lg.of (W.take n)).opensD)) trivial (by rw [sizeLine_eq]; decide) (fun n hn k1 k0 h => ?_) ?_
    · walk_at "run"
      rw [cutA_to (by omega), show ((n : Int)).toNat = n by omega, ← List.map_take]
      exact ⟨W.take n, rfl, fun q hq => oW q (List.mem_of_mem_take hq), by rw [List.length_take]; omega, h⟩
    rw [mapD_d, oO]
    refine ⟨_, datOf_map _, ?_⟩
    walk_at "run"
    refine ⟨_, rfl, shw_of wds (by decide +kernel) (by decide +kernel), ?_⟩
    walk_at "run"
    refine lc_m [17, 18, 19, 20, 23, 25] (fun n : Nat => Sl.i (n : Int)) (fun n : Nat => .d (oD ((W.getD ((n : Int) - 1).toNat .check).owner n))) trivial (by rw [sizeLine_eq]; decide) (fun n hn k1 k0 h => ?_) ?_
    · have hn : 1 ≤ n ∧ n ≤ 25 := by
        simp only [List.mem_cons, List.not_mem_nil, or_false] at hn
        omega
      walk_at "run"
      exact ⟨W, n, rfl, oW, by omega, ⟨by omega, by omega⟩, h⟩
    rw [mapD_d, hO]
    refine ⟨_, datOf_map _, ?_⟩
    walk_at "run"
    rw [cutA_to (by decide), ← List.map_take, show Int.toNat 24 = 24 from rfl]
    refine ⟨W.take 24, 0, rfl, fun q hq => oW q (List.mem_of_mem_take hq), by rw [List.length_take]; omega, trivial, ?_⟩
    rw [show (fun (qs : List Rc) (t : Int) => PyData.int ((Lg.of qs).todo t)) (W.take 24) 0 = .int 24 from congrArg PyData.int hT.1]
    walk_at "run"
    refine ⟨W, 0, rfl, oW, by omega, trivial, ?_⟩
    rw [show (fun (qs : List Rc) (t : Int) => PyData.int ((Lg.of qs).todo t)) W 0 = .int 0 from congrArg PyData.int hT.2]
    walk_at "run"
    refine ⟨_, rfl, shw_of wds (by decide +kernel) (by decide +kernel), ?_⟩
    walk_at "run"
    refine ⟨W, rfl, oW, by omega, io, ?_, ?_⟩
    · rw [tT]
      intro y hy
      simp only [List.mem_cons, List.not_mem_nil, or_false] at hy
      rcases hy with rfl | rfl | rfl
      · exact ⟨⟨_, rfl⟩, shaped_of wds (by (obtain ⟨ha, hb, hc, hd, he⟩ := ky.sizes; simp [sz_t, sz_l, sz_n, szs_0, szs_c, sz_i, ha, hb, hc, hd, he, w_leaf, w_inner, w_free, w_begin, w_put, w_undo, w_room, w_shape, w_unshape, w_closed, w_commit, w_end, w_check, w_restart, lfD, freeD, bareD, lowD, highD, fullD, inD, enE, Rc.d, imgD])) (Nat.le_of_ble_eq_true rfl)⟩
      · exact ⟨⟨_, rfl⟩, shaped_free⟩
      · exact ⟨⟨_, rfl⟩, shaped_free⟩
    rw [tD]
    walk_at "run"
    refine ⟨W, 1, rfl, oW, by omega, v1, ?_⟩
    rw [show (fun (qs : List Rc) (p : Int) => PyData.list ((vers qs p).map imgD)) W 1 = .list ((vers W 1).map imgD) from rfl]
    walk_at "run"
    rw [← mapD_d]
    refine lc_m (vers W 1) (fun e => Sl.d (imgD e)) (fun e => .i e.1) trivial (by rw [e1', sizeLine_eq]; exact (show 7 ≤ 16777216 by decide)) (fun y hy k1 k0 h => ?_) ?_
    · rw [show imgD y = .tuple [.int y.1, y.2] from rfl]
      walk_at "run"
      exact h
    rw [e1']
    walk_at "run"
    refine ⟨W, 2, rfl, oW, by omega, v2, ?_⟩
    rw [show (fun (qs : List Rc) (p : Int) => PyData.list ((vers qs p).map imgD)) W 2 = .list ((vers W 2).map imgD) from rfl, e2']
    walk_at "run"
    refine ⟨W, rfl, oW, by omega, ?_⟩
    rw [show (fun (qs : List Rc) => PyData.list (Lg.of qs).holdD) W = .list (Lg.of W).holdD from rfl, hH]
    walk_at "run"
    refine ⟨_, rfl, shw_of wds (by (obtain ⟨ha, hb, hc, hd, he⟩ := ky.sizes; simp [sz_t, sz_l, sz_n, szs_0, szs_c, sz_i, ha, hb, hc, hd, he, w_leaf, w_inner, w_free, w_begin, w_put, w_undo, w_room, w_shape, w_unshape, w_closed, w_commit, w_end, w_check, w_restart, lfD, freeD, bareD, lowD, highD, fullD, inD, enE, Rc.d, imgD])) (Nat.le_of_ble_eq_true rfl), ?_⟩
    exact upR.of hk
end
end LW

set_option Elab.async false
set_option linter.all false
set_option maxRecDepth 100000
set_option maxHeartbeats 4000000
namespace LW
open PySem PySem.Spec L2 DL
local macro_rules | `(tactic| walk_at "mem") => `(tactic| ((repeat rw [upM_ne (by assumption)]); first | exact upM_same | assumption))
local macro_rules | `(tactic| walk_at "look") => `(tactic| first | rfl | assumption | exact atI_map0 | exact atI_map1 | walk_at "mem" | (with_reducible apply lsOf_m; walk_at "mem") | (with_reducible apply sqOf_m; walk_at "mem") | (with_reducible apply rlOf_m; walk_at "mem") | (with_reducible apply sqOf'_m; walk_at "mem") | (with_reducible apply tru_l; walk_at "mem") | (with_reducible apply tru_d; walk_at "mem") | ((simp (discharger := assumption) only [sqOf, sqOf', rlOf, lsOf, tru, upM_same, upM_ne]) <;> rfl))
local macro_rules | `(tactic| walk_at "set") => `(tactic| (simp only [wipeD, List.set_cons_zero, List.set_cons_succ, List.set_nil]; rfl))
local macro_rules | `(tactic| walk_at "side") => `(tactic| first | omega | (simp only [List.length_map, List.length_cons, List.length_nil]; omega) | assumption | rfl | decide | exact ⟨by omega, by omega⟩ | exact Nat.le_of_ble_eq_true rfl)
local macro_rules | `(tactic| walk_at "head") => `(tactic| with_reducible conv => whnf)
local macro_rules | `(tactic| walk_at "step") => `(tactic| (walk_at "head"; first
  | ((with_reducible apply gN_go); (focus walk_at "set"))
  | ((with_reducible apply e1s); (focus rfl))
  | ((with_reducible apply e1); (focus walk_at "look"))
  | ((with_reducible apply e2); (focus walk_at "look"); (focus walk_at "look"))
  | ((with_reducible apply l1); (focus walk_at "look"))
  | ((with_reducible apply l2); (focus walk_at "look"); (focus walk_at "look"))
  | ((with_reducible apply e3); (focus walk_at "look"); (focus walk_at "look"); (focus walk_at "look"))
  | ((with_reducible apply e0a); (focus walk_at "look"))
  | ((with_reducible apply And.intro); (focus walk_at "side"))
  | ((with_reducible apply d1); (focus walk_at "look"))
  | ((with_reducible apply d2); (focus walk_at "look"); (focus walk_at "look"))
  | ((with_reducible apply d3); (focus walk_at "look"); (focus walk_at "look"); (focus walk_at "look"))
  | ((with_reducible apply d0); (focus walk_at "look"))
  | ((with_reducible apply lk1); (focus walk_at "look"))
  | with_reducible apply gw2_go
  | with_reducible apply gw3_go
  | with_reducible apply gs_go
  | with_reducible apply gt2_go
  | with_reducible apply gt3_go
  | with_reducible apply gt1_go
  | with_reducible apply gt4_go
  | with_reducible apply gt5_go
  | with_reducible apply gt6_go
  | with_reducible apply gt7_go
  | with_reducible apply gt8_go
  | with_reducible apply ift_go
  | with_reducible apply iff_go
  | ((with_reducible apply ifT_go); (focus rfl))
  | ((with_reducible apply ifF_go); (focus rfl))))
local macro_rules | `(tactic| walk_at "run") => `(tactic| (repeat walk_at "step"); walk_at "head")
local macro_rules | `(tactic| walk_at "start") => `(tactic| simp only [startD, List.map_cons, List.map_nil, List.length_cons, List.length_nil, List.replicate, List.cons_append, List.nil_append, Nat.reduceAdd, Nat.reduceSub, bodyK])
def cn_boxR : Cn := fun rs M R => ∃ ns k, rs = [.r ns, .i k] ∧ 0 ≤ k ∧ k < 100 ∧ ∀ b B, M b = none → Bx.Ok B (2 ^ 49) → R (.v (.ref b)) (upM M b B.mo)
def cn_right : Cn := fun rs M R => ∃ b B m, rs = [.v (.ref b)] ∧ M b = some B.mo ∧ Bx.Ok B (m + 10) ∧ ∀ B', Bx.Ok B' m → R (.b true) (upM M b B'.mo)
def cn_law : Cn := fun rs M R => ∃ ns : List Int, rs = [.r ns] ∧ R (.b true) M
theorem bls_true : ∀ {acc : List Sl}, (∀ y ∈ acc, y = .b true) → ∃ n, datOf acc = some ((List.replicate n true).map PyData.bool)
  | [], _ => ⟨0, rfl⟩
  | y :: r, h => by
    obtain ⟨n, e⟩ := bls_true (fun z hz => h z (List.mem_cons_of_mem _ hz))
    rw [h y List.mem_cons_self]
    exact ⟨n + 1, by simp only [datOf, e, Option.map_some]; rfl⟩
section
variable {P : Program} {w : World} {K : PySem.W.Frag} {mg : Str → Option Value} {base : Heap}
theorem ok_boxR (T : Tx K mg) {f : Addr} {fd : FuncData} (Fu : Fun K "_law_box" "_law_box" s__law_box f fd) : FnD P w K mg base 1 f fd ["_law_script", "_law_k"] cn_boxR := by
  refine fnD_of Fu sc__law_box (fun rs M R h => ?_) fun cdv A outer s H hgd hr => ⟨_, (pdb_cons (pds_set 2 sc__law_box.nd (pd_if (pdt_cmp o_lt (pd_var 1) (pd_callB c_len (by rfl) T.z_len (by decide +kernel) (pda_cons (pd_var 0) pda_nil)) (nomark _)) (pd_ix (pd_var 0) (pd_var 1)) pd_int))
      (pdb_one (pds_ret (pd_lstM (pda_cons (pd_op o_times (pd_callB c_abs (by rfl) T.z_abs (by decide +kernel) (pda_cons (pd_var 2) pda_nil)) (pd_callT c_int (by rfl) T.z_int (by decide +kernel) (pda_cons (pd_cmp o_ge (pd_callB c_abs (by rfl) T.z_abs (by decide +kernel) (pda_cons (pd_var 2) pda_nil)) (pd_op o_pow pd_int pd_int) (nomark _)) pda_nil))) (pda_cons (pd_op o_plus (pd_op o_plus (pd_op o_mod (pd_callT c_int (by rfl) T.z_int (by decide +kernel) (pda_cons (pd_var 2) pda_nil)) pd_int) (pd_op o_times pd_int (pd_var 1))) pd_int) (pda_cons pd_int pda_nil))))))), ?_⟩
  · obtain ⟨b, B, rfl, _⟩ := h
    rfl
  · rintro rs M R ⟨ns, k, rfl, k0, k1, hk⟩
    walk_at "start"
    refine seq_cut (fun dl M' => M' = M ∧ ∃ c, dl = [some (.r ns), some (.i k), some (.i c)]) ?_ fun nx hnx => ?_
    · rintro _ _ ⟨rfl, c, rfl⟩
      walk_at "run"
      intro p hp
      have hm := Int.emod_nonneg c (show (2305843009213693951 : Int) ≠ 0 by decide)
      have hm2 := Int.emod_lt_of_pos c (show (0 : Int) < 2305843009213693951 by decide)
      refine upR.of (hk p ⟨_, _, 0⟩ hp ⟨?_, ?_, ?_, ?_⟩)
      · show 0 ≤ c % 2305843009213693951 + 39373 * k + 71; omega
      · show c % 2305843009213693951 + 39373 * k + 71 < 2 ^ 62; omega
      · show (0 : Int) ≤ 0; omega
      · show (0 : Int) + ((2 ^ 49 : Nat) : Int) ≤ 2 ^ 50; decide
    · walk_at "run"
      with_reducible apply ifd_go <;> intro hx
      · walk_at "run"
        simp only [List.length_map] at hx
        refine e2 rfl (atI_int k0 (i := k) (x := .i (ns[k.toNat]'(by omega))) ?_) ?_
        · rw [List.getElem?_map, List.getElem?_eq_getElem (by omega)]; rfl
        · walk_at "run"
          exact hnx _ _ ⟨rfl, _, rfl⟩
      · walk_at "run"
        exact hnx _ _ ⟨rfl, _, rfl⟩
theorem five : ∀ {xs : List Int}, xs.length = 5 → (∀ j (h : j < xs.length), (1000 * j : Int) ≤ xs[j] ∧ xs[j] < 1000 * j + 100) → ∃ a b c d e : Int, xs = [a, b, c, d, e] ∧ Kys a b c d e
  | [a, b, c, d, e], _, h => by
    have h0 := h 0 (by simp)
    have h1 := h 1 (by simp)
    have h2 := h 2 (by simp)
    have h3 := h 3 (by simp)
    have h4 := h 4 (by simp)
    simp only [List.getElem_cons_zero, List.getElem_cons_succ] at h0 h1 h2 h3 h4
    exact ⟨a, b, c, d, e, rfl, ⟨by omega, by omega, by omega, by omega, by omega, by omega⟩⟩
theorem ok_right (T : Tx K mg) (H__law_take : Has P w K mg base 1 "_law_take" s__law_take ["_law_box_here", "_law_below"] cn_take) (H__law_whole_right : Has P w K mg base 14 "_law_whole_right" s__law_whole_right ["_law_a", "_law_b", "_law_c", "_law_d", "_law_e"] cn_wright)
    (H__law_cut_right : Has P w K mg base 14 "_law_cut_right" s__law_cut_right ["_law_a", "_law_b", "_law_c", "_law_d", "_law_e"] cn_wright) (H__law_freed_right : Has P w K mg base 14 "_law_freed_right" s__law_freed_right ["_law_a", "_law_b", "_law_c", "_law_d", "_law_e"] cn_wright)
    {f : Addr} {fd : FuncData} (Fu : Fun K "_law_right" "_law_right" s__law_right f fd) : FnD P w K mg base 15 f fd ["_law_box_here"] cn_right := by
  refine fnD_of Fu sc__law_right (fun rs M R h => ?_) fun cdv A outer s H hgd hr => ⟨_, (pdb_cons (pds_setLc 1 (own := [("_law_k", 7)]) rfl sc__law_right.nd rfl rfl (sw_true rfl rfl rfl (by decide +kernel)) (pdi_range1 (by rfl) T.z_range (pda_cons pd_int pda_nil)) (blkOk_by (N := N__law_right) (sc := defScope s__law_right) (by decide +kernel)) (fun _ _ _ _ _ => (pdgw_name 7 sc__law_right.nd)) (fun _ _ _ _ _ => pdts_nil) (fun _ _ _ _ _ => (pd_op o_plus (pd_fn H__law_take hgd (hr.mono (by first | decide | omega)) (by rfl) (pda_cons (pd_var 0) (pda_cons pd_int pda_nil))) (pd_op o_times pd_int (pd_var 7)))))
      (pdb_cons (pds_asg (pd_var 1) (pdg_lst (n := 5) rfl (pdgs_cons (pdg_name 2 sc__law_right.nd) (pdgs_cons (pdg_name 3 sc__law_right.nd) (pdgs_cons (pdg_name 4 sc__law_right.nd) (pdgs_cons (pdg_name 5 sc__law_right.nd) (pdgs_cons (pdg_name 6 sc__law_right.nd) pdgs_nil)))))))
      (pdb_cons (pds_if (PDW.t (pdw_or (pdt_not (pdt_tru (pd_fn H__law_whole_right hgd (hr.mono (by first | decide | omega)) (by rfl) (pda_cons (pd_var 2) (pda_cons (pd_var 3) (pda_cons (pd_var 4) (pda_cons (pd_var 5) (pda_cons (pd_var 6) pda_nil)))))))) (pdw_or1 (pdt_not (pdt_tru (pd_fn H__law_cut_right hgd (hr.mono (by first | decide | omega)) (by rfl) (pda_cons (pd_var 2) (pda_cons (pd_var 3) (pda_cons (pd_var 4) (pda_cons (pd_var 5) (pda_cons (pd_var 6) pda_nil))))))))))) (pdb_one (pds_ret pd_bl)) pdb_nil)
      (pdb_one (pds_ret (pd_fn H__law_freed_right hgd (hr.mono (by first | decide | omega)) (by rfl) (pda_cons (pd_var 2) (pda_cons (pd_var 3) (pda_cons (pd_var 4) (pda_cons (pd_var 5) (pda_cons (pd_var 6) pda_nil))))))))))), ?_⟩
  · obtain ⟨b, B, m, rfl, _⟩ := h
    rfl
  · rintro rs M R ⟨b, B, m, rfl, hb, ok, hk⟩
    rw [← upM_self hb] at hk ⊢
    walk_at "start"
    walk_at "run"
    refine lc_seq (fun i acc M' => ∃ (B' : Bx) (xs : List Int), M' = upM M b (Bx.mo B') ∧ Bx.Ok B' (m + (10 - i)) ∧ acc = xs.map (fun n => Sl.i n) ∧ xs.length = i ∧ ∀ j (h : j < xs.length), (1000 * j : Int) ≤ xs[j] ∧ xs[j] < 1000 * j + 100) (by simp [rngS, sizeLine_eq]) ⟨B, [], rfl, ok, rfl, rfl, fun j h => by cases h⟩ ?_ ?_
    · rintro i x acc M1 nx k0 hx ha ⟨B', xs, rfl, ok', rfl, hl, hxs⟩ hnx
      obtain ⟨hi, rfl⟩ : i < 5 ∧ x = .i (i : Int) := by
        have hi := (List.getElem?_eq_some_iff.mp hx).1
        rw [show (rngS 0 (Int.toNat 5)).length = 5 from rfl] at hi
        refine ⟨hi, ?_⟩
        unfold rngS at hx
        rw [List.getElem?_map, List.getElem?_range (by simpa using hi)] at hx
        simpa using hx.symm
      refine ⟨trivial, ?_⟩
      walk_at "run"
      refine ⟨b, B', 100, m + (10 - (i + 1)), rfl, upM_same, ok'.mono (by omega), by decide, by decide, fun v B2 v0 v1 ok2 => ?_⟩
      walk_at "run"
      rw [upM_upM]
      refine hnx _ _ ⟨B2, xs ++ [v + 1000 * i], rfl, ok2, by simp, by simp [hl], fun j hj => ?_⟩
      by_cases hj2 : j < xs.length
      · rw [List.getElem_append_left hj2]; exact hxs j hj2
      · have : j = i := by simp at hj; omega
        subst this
        rw [List.getElem_append_right (by omega)]
        simp only [hl, Nat.sub_self, List.getElem_cons_zero]
        omega
    · rintro acc M1 ha ⟨B', xs, rfl, ok', rfl, hl, hxs⟩
      refine ⟨trivial, ?_⟩
      obtain ⟨a, b', c, d, e, rfl, ky⟩ := five hl hxs
      refine e1 (show datOf ([a, b', c, d, e].map fun n => Sl.i n) = some [.int a, .int b', .int c, .int d, .int e] from rfl) ?_
      walk_at "run"
      simp only [List.map_cons, List.map_nil]
      walk_at "run"
      refine ⟨a, b', c, d, e, rfl, ky, ?_⟩
      walk_at "run"
      refine ⟨a, b', c, d, e, rfl, ky, ?_⟩
      walk_at "run"
      refine ⟨a, b', c, d, e, rfl, ky, ?_⟩
      have := hk B' (ok'.mono (by omega))
      rw [upM_upM] at this
      exact upR.of this
theorem ok_law (T : Tx K mg) (H__law_box : Has P w K mg base 1 "_law_box" s__law_box ["_law_script", "_law_k"] cn_boxR) (H__law_right : Has P w K mg base 15 "_law_right" s__law_right ["_law_box_here"] cn_right)
    {f : Addr} {fd : FuncData} (Fu : Fun K "law" "law" s_law f fd) : FnD P w K mg base 16 f fd ["_law_script"] cn_law := by
  refine fnD_of Fu sc_law (fun rs M R h => ?_) fun cdv A outer s H hgd hr => ⟨_, (pdb_one (pds_ret (pd_callB (c_all rfl) (by rfl) T.z_all (by decide +kernel) (pda_cons (pd_lc (own := [("_law_k", 1)]) rfl sc_law.nd (pdi_range1 (by rfl) T.z_range (pda_cons (pd_op o_plus pd_int (pd_callB (c_min2 rfl) (by rfl) T.z_min (by decide +kernel) (pda_cons pd_int (pda_cons (pd_callB c_len (by rfl) T.z_len (by decide +kernel) (pda_cons (pd_var 0) pda_nil)) pda_nil)))) pda_nil)) (blkOk_by (N := N_law) (sc := defScope s_law) (by decide +kernel)) (fun _ _ _ _ _ => (pdgw_name 1 sc_law.nd)) (fun _ _ _ _ _ => pdts_nil) (fun _ _ _ _ _ => (pd_fn H__law_right hgd (hr.mono (by first | decide | omega)) (by rfl) (pda_cons (pd_fn H__law_box hgd (hr.mono (by first | decide | omega)) (by rfl) (pda_cons (pd_var 0) (pda_cons (pd_var 1) pda_nil))) pda_nil)))) pda_nil)))), ?_⟩
  · obtain ⟨ns, rfl, _⟩ := h
    rfl
  · rintro rs M R ⟨ns, rfl, k⟩
    walk_at "start"
    walk_at "run"
    have hz : (1 + if ((ns.map fun n => Sl.i n).length : Int) < 3 then ((ns.map fun n => Sl.i n).length : Int) else 3).toNat ≤ 4 := by
      split <;> omega
    generalize hN : (1 + if ((ns.map fun n => Sl.i n).length : Int) < 3 then ((ns.map fun n => Sl.i n).length : Int) else 3).toNat = N at hz ⊢
    have hlen : (rngS 0 N).length = N := by unfold rngS; rw [List.length_map, List.length_range]
    refine lc_seq (fun i acc M' => Le M M' ∧ ∀ y ∈ acc, y = .b true) (by rw [hlen, sizeLine_eq]; omega) ⟨Le.refl M, fun y hy => by cases hy⟩ ?_ ?_
    · rintro i x acc M1 nx k0 hx ha ⟨le, hE⟩ hnx
      obtain ⟨hi, rfl⟩ : i < N ∧ x = .i (i : Int) := by
        have hi := (List.getElem?_eq_some_iff.mp hx).1
        rw [hlen] at hi
        refine ⟨hi, ?_⟩
        unfold rngS at hx
        rw [List.getElem?_map, List.getElem?_range hi] at hx
        simpa using hx.symm
      refine ⟨trivial, ?_⟩
      walk_at "run"
      refine ⟨ns, i, rfl, by omega, by omega, fun b B hb ok => ?_⟩
      walk_at "run"
      refine ⟨b, B, 0, rfl, upM_same, ok.mono (by decide), fun B' ok' => ?_⟩
      rw [upM_upM]
      refine hnx _ _ ⟨fun a o h => by rw [upM_ne (neM (le a o h) hb)]; exact le a o h, fun y hy => ?_⟩
      rcases List.mem_append.mp hy with q | q
      · exact hE y q
      · simp at q; exact q
    · rintro acc M1 ha ⟨le, hE⟩
      refine ⟨trivial, ?_⟩
      obtain ⟨n, e⟩ := bls_true hE
      refine e1 e ?_
      walk_at "head"
      refine e2 rfl (blsOf_map _) ?_
      rw [show (List.replicate n true).all id = true by simp]
      exact upR.le k le
end
end LW

set_option Elab.async false
set_option linter.all false
set_option maxRecDepth 100000
set_option maxHeartbeats 4000000
namespace LW
open PySem PySem.Spec L2 DL
theorem asm {P : Program} {w : World} {K : PySem.W.Frag} {mg : Str → Option Value} {fa : Addr} (hfa : mg "law" = some (.ref fa)) (T : Tx K mg)  (d_Ledger : ∃ C, CL_Ledger K mg C ∧ InitD K C "Ledger.__init__" s_Ledger___init__ ∧ MethAt K C "add" "Ledger.add" s_Ledger_add ∧ MethAt K C "note" "Ledger.note" s_Ledger_note ∧ MethAt K C "records" "Ledger.records" s_Ledger_records ∧ MethAt K C "record" "Ledger.record" s_Ledger_record ∧ MethAt K C "last" "Ledger.last" s_Ledger_last ∧ MethAt K C "todo" "Ledger.todo" s_Ledger_todo ∧ MethAt K C "todo_at" "Ledger.todo_at" s_Ledger_todo_at ∧ MethAt K C "is_open" "Ledger.is_open" s_Ledger_is_open ∧ MethAt K C "opens" "Ledger.opens" s_Ledger_opens ∧ MethAt K C "holder" "Ledger.holder" s_Ledger_holder ∧ MethAt K C "holders" "Ledger.holders" s_Ledger_holders) (d_tupled : DefAt K mg "tupled" s_tupled) (d_first_image : DefAt K mg "first_image" s_first_image) (d_with_state : DefAt K mg "with_state" s_with_state) (d_laid : DefAt K mg "laid" s_laid) (d_page_of : DefAt K mg "page_of" s_page_of) (d_owner_in : DefAt K mg "owner_in" s_owner_in) (d_todo_of_record : DefAt K mg "todo_of_record" s_todo_of_record) (d_owner_of : DefAt K mg "owner_of" s_owner_of) (d_todo_of : DefAt K mg "todo_of" s_todo_of) (d_open_ones : DefAt K mg "open_ones" s_open_ones) (d_holders : DefAt K mg "holders" s_holders) (d_changes_of : DefAt K mg "changes_of" s_changes_of) (d_versions : DefAt K mg "versions" s_versions) (d_replay : DefAt K mg "replay" s_replay) (d_images_after : DefAt K mg "images_after" s_images_after) (d_tree_of : DefAt K mg "tree_of" s_tree_of) (d__law_box : DefAt K mg "_law_box" s__law_box) (d__law_take : DefAt K mg "_law_take" s__law_take) (d__law_same : DefAt K mg "_law_same" s__law_same) (d__law_first : DefAt K mg "_law_first" s__law_first) (d__law_whole_right : DefAt K mg "_law_whole_right" s__law_whole_right) (d__law_cut_right : DefAt K mg "_law_cut_right" s__law_cut_right) (d__law_freed_right : DefAt K mg "_law_freed_right" s__law_freed_right) (d__law_right : DefAt K mg "_law_right" s__law_right) (d_law : DefAt K mg "law" s_law) :
    ∃ fd : FuncData, (∀ (s : Shared) (u : Value), BindsTo s fd ⟨[u], []⟩ [("_law_script", u)]) ∧ ∀ base : Heap, FnD P w K mg base 16 fa fd ["_law_script"] cn_law := by
  obtain ⟨C_Ledger, L_Ledger, ⟨_, _, _, m_Ledger___init__, F_Ledger___init__⟩, ⟨_, _, m_Ledger_add, F_Ledger_add⟩, ⟨_, _, m_Ledger_note, F_Ledger_note⟩, ⟨_, _, m_Ledger_records, F_Ledger_records⟩, ⟨_, _, m_Ledger_record, F_Ledger_record⟩, ⟨_, _, m_Ledger_last, F_Ledger_last⟩, ⟨_, _, m_Ledger_todo, F_Ledger_todo⟩, ⟨_, _, m_Ledger_todo_at, F_Ledger_todo_at⟩, ⟨_, _, m_Ledger_is_open, F_Ledger_is_open⟩, ⟨_, _, m_Ledger_opens, F_Ledger_opens⟩, ⟨_, _, m_Ledger_holder, F_Ledger_holder⟩, ⟨_, _, m_Ledger_holders, F_Ledger_holders⟩⟩ := d_Ledger
  obtain ⟨_, _, m_tupled, F_tupled⟩ := d_tupled
  obtain ⟨_, _, m_first_image, F_first_image⟩ := d_first_image
  obtain ⟨_, _, m_with_state, F_with_state⟩ := d_with_state
  obtain ⟨_, _, m_laid, F_laid⟩ := d_laid
  obtain ⟨_, _, m_page_of, F_page_of⟩ := d_page_of
  obtain ⟨_, _, m_owner_in, F_owner_in⟩ := d_owner_in
  obtain ⟨_, _, m_todo_of_record, F_todo_of_record⟩ := d_todo_of_record
  obtain ⟨_, _, m_owner_of, F_owner_of⟩ := d_owner_of
  obtain ⟨_, _, m_todo_of, F_todo_of⟩ := d_todo_of
  obtain ⟨_, _, m_open_ones, F_open_ones⟩ := d_open_ones
  obtain ⟨_, _, m_holders, F_holders⟩ := d_holders
  obtain ⟨_, _, m_changes_of, F_changes_of⟩ := d_changes_of
  obtain ⟨_, _, m_versions, F_versions⟩ := d_versions
  obtain ⟨_, _, m_replay, F_replay⟩ := d_replay
  obtain ⟨_, _, m_images_after, F_images_after⟩ := d_images_after
  obtain ⟨_, _, m_tree_of, F_tree_of⟩ := d_tree_of
  obtain ⟨_, _, m__law_box, F__law_box⟩ := d__law_box
  obtain ⟨_, _, m__law_take, F__law_take⟩ := d__law_take
  obtain ⟨_, _, m__law_same, F__law_same⟩ := d__law_same
  obtain ⟨_, _, m__law_first, F__law_first⟩ := d__law_first
  obtain ⟨_, _, m__law_whole_right, F__law_whole_right⟩ := d__law_whole_right
  obtain ⟨_, _, m__law_cut_right, F__law_cut_right⟩ := d__law_cut_right
  obtain ⟨_, _, m__law_freed_right, F__law_freed_right⟩ := d__law_freed_right
  obtain ⟨_, _, m__law_right, F__law_right⟩ := d__law_right
  obtain ⟨_, fd, m_law, F_law⟩ := d_law
  cases hfa.symm.trans m_law
  refine ⟨fd, fun s u => ?_, fun base => ?_⟩
  · obtain ⟨oc, od, kV, doc, pm, an, cdv, ct, osl, rfl, lk, hcd⟩ := F_law.ex
    exact .of_eq rfl
  have h__law_take := Has.of (P := P) (w := w) (base := base) m__law_take F__law_take hb__law_take (ok_take T F__law_take)
  have h__law_same := Has.of (P := P) (w := w) (base := base) m__law_same F__law_same hb__law_same (ok_same T F__law_same)
  have h_tupled := Has.of (P := P) (w := w) (base := base) m_tupled F_tupled hb_tupled (ok_tupled T m_tupled F_tupled 8)
  have h_with_state := Has.of (P := P) (w := w) (base := base) m_with_state F_with_state hb_with_state (ok_ws T F_with_state)
  have h_laid := Has.of (P := P) (w := w) (base := base) m_laid F_laid hb_laid (ok_laid T h_tupled h_with_state F_laid)
  have h_page_of := Has.of (P := P) (w := w) (base := base) m_page_of F_page_of hb_page_of (ok_page T F_page_of)
  have h_owner_in := Has.of (P := P) (w := w) (base := base) m_owner_in F_owner_in hb_owner_in (ok_owner T F_owner_in)
  have h_todo_of_record := Has.of (P := P) (w := w) (base := base) m_todo_of_record F_todo_of_record hb_todo_of_record (ok_todoR T F_todo_of_record)
  have hm_Ledger_note := HasM.of (P := P) (w := w) (base := base) m_Ledger_note F_Ledger_note hb_Ledger_note (ok_note T L_Ledger F_Ledger_note)
  have hm_Ledger_add := HasM.of (P := P) (w := w) (base := base) m_Ledger_add F_Ledger_add hb_Ledger_add (ok_add T L_Ledger h_tupled h_owner_in hm_Ledger_note F_Ledger_add)
  have hm_Ledger_last := HasM.of (P := P) (w := w) (base := base) m_Ledger_last F_Ledger_last hb_Ledger_last (ok_last T L_Ledger F_Ledger_last)
  have hm_Ledger_record := HasM.of (P := P) (w := w) (base := base) m_Ledger_record F_Ledger_record hb_Ledger_record (ok_record T L_Ledger F_Ledger_record)
  have hm_Ledger_todo_at := HasM.of (P := P) (w := w) (base := base) m_Ledger_todo_at F_Ledger_todo_at hb_Ledger_todo_at (ok_tat T L_Ledger h_todo_of_record hm_Ledger_record F_Ledger_todo_at)
  have hm_Ledger_todo := HasM.of (P := P) (w := w) (base := base) m_Ledger_todo F_Ledger_todo hb_Ledger_todo (ok_todo T L_Ledger hm_Ledger_last hm_Ledger_todo_at F_Ledger_todo)
  have hk_Ledger := HasK.ofD (P := P) (w := w) (base := base) _ m_Ledger___init__ L_Ledger.gC F_Ledger___init__ hd_Ledger___init__ rfl (ok_init T L_Ledger hm_Ledger_add F_Ledger___init__)
  have hm_Ledger_is_open := HasM.of (P := P) (w := w) (base := base) m_Ledger_is_open F_Ledger_is_open hb_Ledger_is_open (ok_isopen T L_Ledger hm_Ledger_todo F_Ledger_is_open)
  have hm_Ledger_opens := HasM.of (P := P) (w := w) (base := base) m_Ledger_opens F_Ledger_opens hb_Ledger_opens (ok_opens T L_Ledger hm_Ledger_is_open hm_Ledger_last hm_Ledger_todo F_Ledger_opens)
  have hm_Ledger_holders := HasM.of (P := P) (w := w) (base := base) m_Ledger_holders F_Ledger_holders hb_Ledger_holders (ok_mholders T L_Ledger F_Ledger_holders)
  have h_owner_of := Has.of (P := P) (w := w) (base := base) m_owner_of F_owner_of hb_owner_of (ok_owner_of T h_tupled h_owner_in F_owner_of)
  have h_todo_of := Has.of (P := P) (w := w) (base := base) m_todo_of F_todo_of hb_todo_of (ok_todo_of T L_Ledger hk_Ledger hm_Ledger_todo F_todo_of)
  have h_open_ones := Has.of (P := P) (w := w) (base := base) m_open_ones F_open_ones hb_open_ones (ok_open_ones T L_Ledger hk_Ledger hm_Ledger_opens F_open_ones)
  have h_holders := Has.of (P := P) (w := w) (base := base) m_holders F_holders hb_holders (ok_holders T L_Ledger hk_Ledger hm_Ledger_holders F_holders)
  have h_first_image := Has.of (P := P) (w := w) (base := base) m_first_image F_first_image hb_first_image (ok_first T F_first_image)
  have h_changes_of := Has.of (P := P) (w := w) (base := base) m_changes_of F_changes_of hb_changes_of (ok_changes T h_tupled h_page_of F_changes_of)
  have h_versions := Has.of (P := P) (w := w) (base := base) m_versions F_versions hb_versions (ok_versions T h_first_image h_laid h_changes_of F_versions)
  have h_replay := Has.of (P := P) (w := w) (base := base) m_replay F_replay hb_replay (ok_replay T h_versions F_replay)
  have h_images_after := Has.of (P := P) (w := w) (base := base) m_images_after F_images_after hb_images_after (ok_images T h_tupled h_page_of h_first_image h_laid F_images_after)
  have h_tree_of := Has.of (P := P) (w := w) (base := base) m_tree_of F_tree_of hb_tree_of (ok_tree T h_first_image h_images_after F_tree_of)
  have h__law_first := Has.of (P := P) (w := w) (base := base) m__law_first F__law_first hb__law_first (ok_lfirst T F__law_first)
  have h__law_whole_right := Has.of (P := P) (w := w) (base := base) m__law_whole_right F__law_whole_right hb__law_whole_right (ok_whole T h__law_same h__law_first h_todo_of h_open_ones h_holders h_versions h_replay h_tree_of F__law_whole_right)
  have h__law_cut_right := Has.of (P := P) (w := w) (base := base) m__law_cut_right F__law_cut_right hb__law_cut_right (ok_cut T h__law_same h__law_first h_open_ones h_holders h_versions h_replay h_tree_of F__law_cut_right)
  have h__law_freed_right := Has.of (P := P) (w := w) (base := base) m__law_freed_right F__law_freed_right hb__law_freed_right (ok_freed T h__law_same h__law_first h_owner_of h_todo_of h_open_ones h_holders h_versions h_tree_of F__law_freed_right)
  have h__law_box := Has.of (P := P) (w := w) (base := base) m__law_box F__law_box hb__law_box (ok_boxR T F__law_box)
  have h__law_right := Has.of (P := P) (w := w) (base := base) m__law_right F__law_right hb__law_right (ok_right T h__law_take h__law_whole_right h__law_cut_right h__law_freed_right F__law_right)
  exact ok_law T h__law_box h__law_right F_law
def hfs0 : List Ft := [.fa (.free "abs"), .fa (.free "all"), .fa (.free "enumerate"), .fa (.free "int"), .fa (.free "isinstance"), .fa (.free "len"), .fa (.free "list"), .fa (.free "min"), .fa (.free "range"), .fa (.free "repr"), .fa (.free "sorted"), .fa (.free "tuple"), .dat "BARE" (.tuple [(.str "leaf"), (.tuple [])]), .dat "FREE" (.tuple [(.str "free")]), .dat "LAST" (.tuple [(.str "commit"), (.str "end")]), .fa (.str "LEAF" "leaf"), .dat "PAGED" (.tuple [(.str "put"), (.str "undo"), (.str "shape"), (.str "unshape")]), .fa (.int "ROOT" 0), .dat "SKIPPING" (.tuple [(.str "undo"), (.str "room"), (.str "unshape"), (.str "closed")]), .dat "UNDOABLE" (.tuple [(.str "put"), (.str "shape")]), .dat "UNOWNED" (.tuple [(.str "clean"), (.str "check"), (.str "checked"), (.str "restart")]), .fa (.cls "Ledger"), .fa (.glo "Ledger"), .fa (.noat "Ledger" "own_records"), .fa (.noat "Ledger" "own_last"), .fa (.noat "Ledger" "own_open"), .fa (.noat "Ledger" "own_keys"), .fa (.noat "Ledger" "own_holders"), .fa (.noat "Ledger" "own_begun"), .fa (.mkr "Ledger")]
def hfs1 : List Ft := [.fa (.meth "Ledger" "add"), .fa (.meth "Ledger" "note"), .fa (.meth "Ledger" "records"), .fa (.meth "Ledger" "record"), .fa (.meth "Ledger" "last"), .fa (.meth "Ledger" "todo"), .fa (.meth "Ledger" "todo_at"), .fa (.meth "Ledger" "is_open"), .fa (.meth "Ledger" "opens"), .fa (.meth "Ledger" "holder"), .fa (.meth "Ledger" "holders"), .fa (.glo "tupled"), .fa (.glo "first_image"), .fa (.glo "with_state"), .fa (.glo "laid"), .fa (.glo "page_of"), .fa (.glo "owner_in"), .fa (.glo "todo_of_record"), .fa (.glo "owner_of"), .fa (.glo "todo_of"), .fa (.glo "open_ones"), .fa (.glo "holders"), .fa (.glo "changes_of"), .fa (.glo "versions"), .fa (.glo "replay"), .fa (.glo "images_after"), .fa (.glo "tree_of"), .fa (.glo "_law_box"), .fa (.glo "_law_take"), .fa (.glo "_law_same")]
def hfs2 : List Ft := [.fa (.glo "_law_first"), .fa (.glo "_law_whole_right"), .fa (.glo "_law_cut_right"), .fa (.glo "_law_freed_right"), .fa (.glo "_law_right"), .fa (.glo "law")]
def hfs : List Ft := hfs0 ++ hfs1 ++ hfs2
def hfn0 : List He.DefD := [dM1 "Ledger" "__init__" "Ledger.__init__" s_Ledger___init__, dM "Ledger" "add" "Ledger.add" s_Ledger_add, dM "Ledger" "note" "Ledger.note" s_Ledger_note, dM "Ledger" "records" "Ledger.records" s_Ledger_records, dM "Ledger" "record" "Ledger.record" s_Ledger_record, dM "Ledger" "last" "Ledger.last" s_Ledger_last, dM "Ledger" "todo" "Ledger.todo" s_Ledger_todo, dM "Ledger" "todo_at" "Ledger.todo_at" s_Ledger_todo_at, dM "Ledger" "is_open" "Ledger.is_open" s_Ledger_is_open, dM "Ledger" "opens" "Ledger.opens" s_Ledger_opens, dM "Ledger" "holder" "Ledger.holder" s_Ledger_holder, dM "Ledger" "holders" "Ledger.holders" s_Ledger_holders, dF "tupled" s_tupled, dF "first_image" s_first_image, dF "with_state" s_with_state, dF "laid" s_laid, dF "page_of" s_page_of, dF "owner_in" s_owner_in, dF "todo_of_record" s_todo_of_record, dF "owner_of" s_owner_of, dF "todo_of" s_todo_of, dF "open_ones" s_open_ones, dF "holders" s_holders, dF "changes_of" s_changes_of, dF "versions" s_versions, dF "replay" s_replay, dF "images_after" s_images_after, dF "tree_of" s_tree_of, dF "_law_box" s__law_box, dF "_law_take" s__law_take]
def hfn1 : List He.DefD := [dF "_law_same" s__law_same, dF "_law_first" s__law_first, dF "_law_whole_right" s__law_whole_right, dF "_law_cut_right" s__law_cut_right, dF "_law_freed_right" s__law_freed_right, dF "_law_right" s__law_right, dF "law" s_law]
def hfn : List He.DefD := hfn0 ++ hfn1
def hloose0 : List Str := ["_wall", "tupled", "ROOT", "LEAF", "FREE", "BARE", "first_image", "with_state", "laid", "UNOWNED", "LAST", "SKIPPING", "UNDOABLE", "PAGED", "page_of", "owner_in", "todo_of_record", "Ledger", "owner_of", "todo_of", "open_ones", "holders", "changes_of", "versions", "replay", "images_after", "tree_of", "_law_box", "_law_take", "_law_same"]
def hloose1 : List Str := ["_law_first", "_law_whole_right", "_law_cut_right", "_law_freed_right", "_law_right"]
def hloose : List Str := hloose0 ++ hloose1
abbrev RO : PySem.W.OpenRow := PySem.W.OpenLaw.row PySem.Challenge.rw_splitstays_k09_known_logs
abbrev hk : PySem.W.Hook := hookX 5 hfs hfn
def ob (s : PySem.W.SharedT) : He.AlD := obsXG 5 hfs hfn (HandSHeadRun.getT s)
theorem ob_eq (s : PySem.W.SharedT) : ob s = hk.obs s.abs := obsXG_eq (HandSHeadRun.getT_eq s)
theorem run (w : World) : HandSHeadRun.RunEq RO (PySem.W.view RO.prog [40]) hk ob 100000 hloose w := by
  intro os
  kernel_rfl
theorem facts {P : Program} {w : World} {K : PySem.W.Frag} {h : Heap} {mg : Str → Option Value} {fa : Addr} (X : K.In h) (G : h.Ns mainGlobals mg) (hfa : mg ("law" : Str) = some (.ref fa)) (c : SaysX hfs hfn K) :
    ∃ fd : FuncData, (∀ (s : Shared) (u : Value), BindsTo s fd ⟨[u], []⟩ [("_law_script", u)]) ∧ ∀ base : Heap, FnD P w K mg base 16 fa fd ["_law_script"] cn_law :=
  asm hfa ⟨(free_x X G c 0), (free_x X G c 1), (free_x X G c 2), (free_x X G c 3), (free_x X G c 4), (free_x X G c 5), (free_x X G c 6), (free_x X G c 7), (free_x X G c 8), (free_x X G c 9), (free_x X G c 10), (free_x X G c 11), (dat_x X G c 12), (dat_x X G c 13), (dat_x X G c 14), (str_x X G c 15), (dat_x X G c 16), (int_x X G c 17), (dat_x X G c 18), (dat_x X G c 19), (dat_x X G c 20)⟩ ⟨_, ⟨cls_x c 21, glo_x X G c 22, noat_x c 23, noat_x c 24, noat_x c 25, noat_x c 26, noat_x c 27, noat_x c 28⟩, initD_x c 29 0, methAt_x c 30 1, methAt_x c 31 2, methAt_x c 32 3, methAt_x c 33 4, methAt_x c 34 5, methAt_x c 35 6, methAt_x c 36 7, methAt_x c 37 8, methAt_x c 38 9, methAt_x c 39 10, methAt_x c 40 11⟩ (defAt_x X G c 41 12) (defAt_x X G c 42 13) (defAt_x X G c 43 14) (defAt_x X G c 44 15) (defAt_x X G c 45 16) (defAt_x X G c 46 17) (defAt_x X G c 47 18) (defAt_x X G c 48 19) (defAt_x X G c 49 20) (defAt_x X G c 50 21) (defAt_x X G c 51 22) (defAt_x X G c 52 23) (defAt_x X G c 53 24) (defAt_x X G c 54 25) (defAt_x X G c 55 26) (defAt_x X G c 56 27) (defAt_x X G c 57 28) (defAt_x X G c 58 29) (defAt_x X G c 59 30) (defAt_x X G c 60 31) (defAt_x X G c 61 32) (defAt_x X G c 62 33) (defAt_x X G c 63 34) (defAt_x X G c 64 35) (defAt_x X G c 65 36)
end LW
open PySem PySem.W PySem.Calls PyProof.Rows
set_option maxHeartbeats 0 in
theorem PySem.Challenge.cw_splitstays_k09_known_logs_holds : PySem.Challenge.rw_splitstays_k09_known_logs.Holds := by
  w_on; o_law
  refine HandSHeadRun.head_any (r := OpenLaw.row PySem.Challenge.rw_splitstays_k09_known_logs) (q := view (OpenLaw.row PySem.Challenge.rw_splitstays_k09_known_logs).prog [40]) (H := LW.hk) (ob := LW.ob) (M := 100000) (loose := LW.hloose) (d := HandSHeadRun.topDef (OpenLaw.row PySem.Challenge.rw_splitstays_k09_known_logs).prog 40) (kwd := []) LW.ob_eq
    (by kernel_rfl) (fun s => by kernel_rfl) LW.run (by kernel_rfl) (by kernel_rfl) (by kernel_rfl) (by rfl) (by first | assumption | decide +kernel) (by decide +kernel) ⟨rfl, rfl, rfl, rfl, rfl, by decide +kernel⟩ ?hw ?hc
  case hw => w_witness2
  case hc =>
    refine DL.law_endE (l := PySem.Challenge.rw_splitstays_k09_known_logs) (n := 63) (lv := 16) (x := "_law_script") (cn := LW.cn_law) rfl (by decide) (by kernel_rfl) ⟨rfl, by decide, by decide⟩ ?F fun ns _ => ⟨ns, rfl, rfl⟩
    intro w mg fa h Y G hmg0
    obtain ⟨K, KX, c⟩ := Y
    have hmg : mg ("law" : PySem.Str) = some (.ref fa) := by
      have e : (HandSHeadRun.topDef (OpenLaw.row PySem.Challenge.rw_splitstays_k09_known_logs).prog 40).name = ("law" : PySem.Str) := by kernel_rfl
      rw [← e]
      exact hmg0
    exact ⟨K, KX, LW.facts KX G hmg c⟩
