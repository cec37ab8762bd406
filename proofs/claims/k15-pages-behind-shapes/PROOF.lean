import PyProof.Rows.All
import Wide.All
import OpenK.AllK
import Wide.FinOn
import HandS.ForMost
import HandS.Evl
import HandS.Flow
import HandS.IsInst
import HandS.Wide
import HandS.TupAny
import PyProof.ReprRoads
import HandS.Zip
import PyProof.FitsInt
import HandS.SetFor
import HandS.Strs
import HandS.More
import KE.KDictPairs
import KE.KDictZip
import HandS.Conv
import HandS.SortRule
import PyProof.CollectIter
import HandS.Ends
import HandS.Style
import HandS.SortInts
import HandS.Iter
import HandS.DictComp
import KE.GoesEnumKw
import PyProof.Rows.CallKwBuiltin
import HandS.Star
import HandS.TryOnly
import KE.GoesZip
import KE.GoesMore
import PyProof.EnumMake
import HandS.Text
import HandS.TupLe
import PySem.Challenge.RW_splitstays_k15_pages_behind_shapes
set_option Elab.async false
set_option linter.all false
set_option maxRecDepth 100000
set_option maxHeartbeats 4000000
/-! DA: data and memory over the hand layer: what a value is (Sl), what may change (Mem), the readings by data. -/
namespace DL
open PySem L2
open Evl (Ex)

/-- what is known of a value: a datum that never changes, or the value itself -/
inductive Sl where
  | d (x : PyData)
  | v (u : V)
  | r (ns : List Int)
  | w (ds : List PyData)
abbrev Sl.i (n : Int) : Sl := .d (.int n)
abbrev Sl.b (n : Bool) : Sl := .d (.bool n)
abbrev Sl.s (n : Str) : Sl := .d (.str n)
abbrev Sl.n : Sl := .d .none

/-- a tuple, a plain object -/
def TqT (K : PySem.W.Frag) (F : Hp) (a : Addr) (vs : List V) : Prop := (∃ o, F a = some (.frz o (.tup vs)) ∧ o.dict = none) ∨
  ∃ (o : Obj) (ws : Array Value) (n : Nat), K.lookup a = some o ∧ o.cls = .type "tuple" ∧ o.data = .seq ws n ∧ ws.size ≤ sizeLine ∧ Vals vs ws.toList ∧ o.dict = none
theorem TqT.sq {K : PySem.W.Frag} {F : Hp} {a : Addr} {vs : List V} (h : TqT K F a vs) : SqT K F a vs := by
  rcases h with ⟨o, q, _⟩ | ⟨o, ws, n, a1, a2, a3, a4, a5, _⟩
  · exact .inl (.inr ⟨o, q⟩)
  · exact .inr ⟨o, ws, n, a1, a2, a3, a4, a5⟩
theorem TqT.mono {K : PySem.W.Frag} {F F' : Hp} (e : Ex F F') {a : Addr} {vs : List V} (h : TqT K F a vs) : TqT K F' a vs := by
  rcases h with ⟨o, q, z⟩ | q
  · exact .inl ⟨o, e _ _ q, z⟩
  · exact .inr q
mutual
/-- the value v is the datum d, all of whose lists stand in F -/
inductive Dq (K : PySem.W.Frag) (F : Hp) : V → PyData → Prop
  | non : Dq K F .non .none
  | bl (b : Bool) : Dq K F (.bl b) (.bool b)
  | int (i : Int) : Dq K F (.int i) (.int i)
  | str (x : Str) : Dq K F (.str x) (.str x)
  | lst {a : Addr} {vs : List V} {ds : List PyData} : F a = some (.lst vs) → DqAll K F vs ds → Dq K F (.ref a) (.list ds)
  | tup {a : Addr} {vs : List V} {ds : List PyData} : TqT K F a vs → DqAll K F vs ds → Dq K F (.ref a) (.tuple ds)
inductive DqAll (K : PySem.W.Frag) (F : Hp) : List V → List PyData → Prop
  | nil : DqAll K F [] []
  | cons {v : V} {vs : List V} {d : PyData} {ds : List PyData} : Dq K F v d → DqAll K F vs ds → DqAll K F (v :: vs) (d :: ds)
end
mutual
theorem dq_dp {K : PySem.W.Frag} {F : Hp} : ∀ {d : PyData} {v : V}, Dq K F v d → Dp K F v d
  | _, _, .non => .non
  | _, _, .bl b => .bl b
  | _, _, .int i => .int i
  | _, _, .str x => .str x
  | _, _, .lst h1 h2 => .lst (SqL.of h1) (dqAll_dp h2)
  | _, _, .tup h1 h2 => .tup h1.sq (dqAll_dp h2)
theorem dqAll_dp {K : PySem.W.Frag} {F : Hp} : ∀ {ds : List PyData} {vs : List V}, DqAll K F vs ds → DpAll K F vs ds
  | _, _, .nil => .nil
  | _, _, .cons h1 h2 => .cons (dq_dp h1) (dqAll_dp h2)
end
mutual
theorem dq_mono {K : PySem.W.Frag} {F F' : Hp} (e : Ex F F') : ∀ {d : PyData} {v : V}, Dq K F v d → Dq K F' v d
  | _, _, .non => .non
  | _, _, .bl b => .bl b
  | _, _, .int i => .int i
  | _, _, .str x => .str x
  | _, _, .lst h1 h2 => .lst (e _ _ h1) (dqAll_mono e h2)
  | _, _, .tup h1 h2 => .tup (h1.mono e) (dqAll_mono e h2)
theorem dqAll_mono {K : PySem.W.Frag} {F F' : Hp} (e : Ex F F') : ∀ {ds : List PyData} {vs : List V}, DqAll K F vs ds → DqAll K F' vs ds
  | _, _, .nil => .nil
  | _, _, .cons h1 h2 => .cons (dq_mono e h1) (dqAll_mono e h2)
end

def Is (K : PySem.W.Frag) (F : Hp) : Sl → V → Prop
  | .d x, u => Dq K F u x
  | .v w, u => u = w
  | .r ns, u => ∃ a, u = .ref a ∧ SqL K F a (ns.map V.int)
  | .w ds, u => ∃ a vs, u = .ref a ∧ SqT K F a vs ∧ DqAll K F vs ds

theorem ex_l {K : PySem.W.Frag} {F F' : Hp} (e : Ex F F') {a : Addr} {xs : List V} (h : SqL K F a xs) : SqL K F' a xs := by
  rcases h with (q | ⟨o, q⟩) | q
  · exact .inl (.inl (e _ _ q))
  · exact .inl (.inr ⟨o, e _ _ q⟩)
  · exact .inr q
theorem is_mono {K : PySem.W.Frag} {F F' : Hp} (e : Ex F F') : ∀ {r : Sl} {v : V}, Is K F r v → Is K F' r v
  | .d _, _, h => dq_mono e h
  | .v _, _, h => h
  | .r _, _, ⟨a, h1, h2⟩ => ⟨a, h1, ex_l e h2⟩
  | .w _, _, ⟨a, vs, h1, h2, h3⟩ => ⟨a, vs, h1, Evl.ex_t e h2, dqAll_mono e h3⟩

/-- both lists go together -/
inductive All2 {A B : Type} (R : A → B → Prop) : List A → List B → Prop
  | nil : All2 R [] []
  | cons {a : A} {b : B} {as : List A} {bs : List B} : R a b → All2 R as bs → All2 R (a :: as) (b :: bs)
section
variable {A B : Type} {R S : A → B → Prop}
theorem All2.imp (f : ∀ a b, R a b → S a b) : ∀ {as : List A} {bs : List B}, All2 R as bs → All2 S as bs
  | _, _, .nil => .nil
  | _, _, .cons h t => .cons (f _ _ h) (All2.imp f t)
theorem All2.length : ∀ {as : List A} {bs : List B}, All2 R as bs → as.length = bs.length
  | _, _, .nil => rfl
  | _, _, .cons _ t => congrArg (· + 1) t.length
theorem All2.append : ∀ {as cs : List A} {bs ds : List B}, All2 R as bs → All2 R cs ds → All2 R (as ++ cs) (bs ++ ds)
  | _, _, _, _, .nil, h => h
  | _, _, _, _, .cons h t, k => .cons h (t.append k)
theorem All2.get : ∀ {as : List A} {bs : List B} {i : Nat} {a : A}, All2 R as bs → as[i]? = some a → ∃ b, bs[i]? = some b ∧ R a b
  | _, _, _, _, .nil, e => by simp at e
  | _, _, 0, _, .cons h _, e => by simp at e; subst e; exact ⟨_, rfl, h⟩
  | _, _, i + 1, a, .cons _ t, e => by
    obtain ⟨b, h1, h2⟩ := All2.get (i := i) (a := a) t (by simpa using e)
    exact ⟨b, by simpa using h1, h2⟩
theorem All2.get' : ∀ {as : List A} {bs : List B} {i : Nat} {b : B}, All2 R as bs → bs[i]? = some b → ∃ a, as[i]? = some a ∧ R a b
  | _, _, _, _, .nil, e => by simp at e
  | _, _, 0, _, .cons h _, e => by simp at e; subst e; exact ⟨_, rfl, h⟩
  | _, _, i + 1, a, .cons _ t, e => by
    obtain ⟨b, h1, h2⟩ := All2.get' (i := i) (b := a) t (by simpa using e)
    exact ⟨b, by simpa using h1, h2⟩
theorem All2.set {a : A} {b : B} (h : R a b) : ∀ {as : List A} {bs : List B} (i : Nat), All2 R as bs → All2 R (as.set i a) (bs.set i b)
  | _, _, _, .nil => .nil
  | _, _, 0, .cons _ t => .cons h t
  | _, _, i + 1, .cons q t => .cons q (t.set h i)
theorem All2.take : ∀ {as : List A} {bs : List B} (n : Nat), All2 R as bs → All2 R (as.take n) (bs.take n)
  | _, _, 0, _ => .nil
  | _, _, _ + 1, .nil => .nil
  | _, _, n + 1, .cons h t => .cons h (t.take n)
theorem All2.drop : ∀ {as : List A} {bs : List B} (n : Nat), All2 R as bs → All2 R (as.drop n) (bs.drop n)
  | _, _, 0, h => h
  | _, _, _ + 1, .nil => .nil
  | _, _, n + 1, .cons _ t => t.drop n
theorem All2.eraseIdx : ∀ {as : List A} {bs : List B} (n : Nat), All2 R as bs → All2 R (as.eraseIdx n) (bs.eraseIdx n)
  | _, _, _, .nil => .nil
  | _, _, 0, .cons _ t => t
  | _, _, n + 1, .cons h t => .cons h (t.eraseIdx n)
end

abbrev IsAll (K : PySem.W.Frag) (F : Hp) : List Sl → List V → Prop := All2 (Is K F)
theorem isAll_mono {K : PySem.W.Frag} {F F' : Hp} (e : Ex F F') {rs : List Sl} {vs : List V} (h : IsAll K F rs vs) : IsAll K F' rs vs := h.imp fun _ _ q => is_mono e q
theorem isAll_d {K : PySem.W.Frag} {F : Hp} : ∀ {ds : List PyData} {vs : List V}, DqAll K F vs ds → IsAll K F (ds.map Sl.d) vs
  | _, _, .nil => .nil
  | _, _, .cons h t => .cons h (isAll_d t)
theorem dqAll_of {K : PySem.W.Frag} {F : Hp} : ∀ {ds : List PyData} {vs : List V}, IsAll K F (ds.map Sl.d) vs → DqAll K F vs ds
  | [], _, h => by cases h; exact .nil
  | _ :: _, _, h => by cases h with | cons h t => exact .cons h (dqAll_of t)

/-- what may change: a list, a dict -/
inductive MO where
  | lst (ss : List Sl)
  | dic (ks : List (Key × Sl))
  | lok (od : Obj) (kvs : List (Key × V)) (ks : List (Key × Sl))
abbrev Mem := Addr → Option MO
def upM (M : Mem) (a : Addr) (o : MO) : Mem := fun b => if b = a then some o else M b
theorem upM_same {M : Mem} {a : Addr} {o : MO} : upM M a o a = some o := by unfold upM; rw [if_pos rfl]
theorem upM_ne {M : Mem} {a b : Addr} {o : MO} (h : b ≠ a) : upM M a o b = M b := by unfold upM; rw [if_neg h]
theorem upM_upM {M : Mem} {a : Addr} {o u : MO} : upM (upM M a o) a u = upM M a u := by funext b; unfold upM; split <;> rfl
theorem neM {M : Mem} {a b : Addr} {o : MO} (h : M a = some o) (h' : M b = none) : a ≠ b := by intro e; subst e; rw [h] at h'; cases h'
/-- the second one knows all of the first one -/
def Le (M M' : Mem) : Prop := ∀ a o, M a = some o → M' a = some o
theorem Le.refl (M : Mem) : Le M M := fun _ _ h => h
theorem Le.trans {M M1 M2 : Mem} (a : Le M M1) (b : Le M1 M2) : Le M M2 := fun x o h => b x o (a x o h)
theorem Le.up {M M' : Mem} {p : Addr} {o : MO} (e : Le M M') (h : M p = none) : Le M (upM M' p o) := fun a u ha => by
  rw [upM_ne (neM ha h)]; exact e a u ha

abbrev KIs (K : PySem.W.Frag) (F : Hp) : Key × Sl → Key × V → Prop := fun p q => p.1 = q.1 ∧ Is K F p.2 q.2
def MIs (K : PySem.W.Frag) (F H : Hp) (a : Addr) : MO → Prop
  | .lst ss => ∃ vs, H a = some (.lst vs) ∧ IsAll K F ss vs
  | .dic ks => ∃ kvs, H a = some (.dK kvs) ∧ All2 (KIs K F) ks kvs
  | .lok od kvs ks => H a = some (.frz od (.dK kvs)) ∧ All2 (KIs K F) ks kvs
theorem mis_mono {K : PySem.W.Frag} {F F' H H' : Hp} {a : Addr} (e : Ex F F') (hh : H' a = H a) : ∀ {o : MO}, MIs K F H a o → MIs K F' H' a o
  | .lst _, ⟨vs, h1, h2⟩ => ⟨vs, hh.trans h1, isAll_mono e h2⟩
  | .dic _, ⟨kvs, h1, h2⟩ => ⟨kvs, hh.trans h1, h2.imp fun _ _ q => ⟨q.1, is_mono e q.2⟩⟩
  | .lok _ _ _, ⟨h1, h2⟩ => ⟨hh.trans h1, h2.imp fun _ _ q => ⟨q.1, is_mono e q.2⟩⟩

/-- the heap: what never changes (F) and what may (M) -/
structure At (K : PySem.W.Frag) (F : Hp) (M : Mem) (H : Hp) : Prop where
  ex : Ex F H
  mem : ∀ a o, M a = some o → F a = none ∧ MIs K F H a o
section
variable {K : PySem.W.Frag} {F F' H : Hp} {M M' : Mem} {a p : Addr}
theorem At.at (h : At K F M H) {o : MO} (e : M a = some o) : ∃ ho, H a = some ho := by
  obtain ⟨_, q⟩ := h.mem a o e
  cases o with
  | lst ss => obtain ⟨vs, q, _⟩ := q; exact ⟨_, q⟩
  | dic ks => obtain ⟨vs, q, _⟩ := q; exact ⟨_, q⟩
  | lok od kvs ks => exact ⟨_, q.1⟩
theorem At.freeM (h : At K F M H) (e : H p = none) : M p = none := by
  cases q : M p with
  | none => rfl
  | some o => obtain ⟨ho, z⟩ := h.at q; rw [e] at z; cases z
theorem At.freeF (h : At K F M H) (e : H p = none) : F p = none := Evl.fresh_back h.ex e
theorem At.le (h : At K F M H) (l : Le M' M) : At K F M' H := ⟨h.ex, fun a o e => h.mem a o (l a o e)⟩
/-- a new thing that never changes -/
theorem At.laid (h : At K F M H) {o : HO} (e : H p = none) : Ex F (upd F p o) ∧ At K (upd F p o) M (upd H p o) := by
  have e1 : Ex F (upd F p o) := Ex.new (h.freeF e)
  refine ⟨e1, fun b u q => ?_, fun b u q => ?_⟩
  · by_cases hb : b = p
    · subst hb; rw [upd_same] at q ⊢; exact q
    · rw [upd_ne hb] at q ⊢; exact h.ex b u q
  · have hb : b ≠ p := neM q (h.freeM e)
    obtain ⟨q1, q2⟩ := h.mem b u q
    exact ⟨by rw [upd_ne hb]; exact q1, mis_mono e1 (by rw [upd_ne hb]) q2⟩
/-- something that may change is changed, or is new -/
theorem At.put (h : At K F M H) {o : MO} {ho : HO} (f : F p = none) (q : MIs K F (upd H p ho) p o) : At K F (upM M p o) (upd H p ho) := by
  refine ⟨fun b u z => ?_, fun b u z => ?_⟩
  · rw [upd_ne (ne_of_none z f)]; exact h.ex b u z
  · by_cases hb : b = p
    · subst hb; rw [upM_same] at z; cases z; exact ⟨f, q⟩
    · rw [upM_ne hb] at z
      obtain ⟨q1, q2⟩ := h.mem b u z
      exact ⟨q1, mis_mono (Ex.refl F) (by rw [upd_ne hb]) q2⟩
end
/-- the heap has gone on: what never changes is there, what is not spoken of is as it was -/
structure Go (K : PySem.W.Frag) (F : Hp) (M : Mem) (H : Hp) (F' : Hp) (M' : Mem) (H' : Hp) : Prop where
  ex : Ex F F'
  at' : At K F' M' H'
  fr : ∀ a o, H a = some o → F a = none → M a = none → H' a = some o ∧ F' a = none ∧ M' a = none
section
variable {K : PySem.W.Frag} {F F1 F2 H H1 H2 : Hp} {M M1 M2 : Mem} {p : Addr}
theorem Go.refl (h : At K F M H) : Go K F M H F M H := ⟨Ex.refl F, h, fun _ _ a b c => ⟨a, b, c⟩⟩
theorem Go.trans (g : Go K F M H F1 M1 H1) (g' : Go K F1 M1 H1 F2 M2 H2) : Go K F M H F2 M2 H2 :=
  ⟨g.ex.trans g'.ex, g'.at', fun a o h1 h2 h3 => let ⟨q1, q2, q3⟩ := g.fr a o h1 h2 h3; g'.fr a o q1 q2 q3⟩
/-- a new thing that never changes -/
theorem Go.laid (h : At K F M H) {o : HO} (e : H p = none) : Go K F M H (upd F p o) M (upd H p o) := by
  obtain ⟨e1, a1⟩ := h.laid (o := o) e
  refine ⟨e1, a1, fun a u h1 h2 h3 => ?_⟩
  have hn : a ≠ p := ne_of_none h1 e
  exact ⟨by rw [upd_ne hn]; exact h1, by rw [upd_ne hn]; exact h2, h3⟩
/-- something that may change is new -/
theorem Go.new (h : At K F M H) {o : MO} {ho : HO} (e : H p = none) (q : MIs K F (upd H p ho) p o) : Go K F M H F (upM M p o) (upd H p ho) := by
  refine ⟨Ex.refl F, h.put (h.freeF e) q, fun a u h1 h2 h3 => ?_⟩
  have hn : a ≠ p := ne_of_none h1 e
  exact ⟨by rw [upd_ne hn]; exact h1, h2, by rw [upM_ne hn]; exact h3⟩
/-- .. is changed -/
theorem Go.put (h : At K F M H) {o o0 : MO} {ho : HO} (e : M p = some o0) (q : MIs K F (upd H p ho) p o) : Go K F M H F (upM M p o) (upd H p ho) := by
  refine ⟨Ex.refl F, h.put (h.mem p o0 e).1 q, fun a u h1 h2 h3 => ?_⟩
  have hn : a ≠ p := fun z => by subst z; rw [e] at h3; cases h3
  exact ⟨by rw [upd_ne hn]; exact h1, h2, by rw [upM_ne hn]; exact h3⟩
/-- less is spoken of -/
theorem Go.le (g : Go K F M H F1 M1 H1) (l : Le M2 M1) : Go K F M H F1 M2 H1 :=
  ⟨g.ex, g.at'.le l, fun a o h1 h2 h3 => by
    obtain ⟨q1, q2, q3⟩ := g.fr a o h1 h2 h3
    refine ⟨q1, q2, ?_⟩
    cases z : M2 a with
    | none => rfl
    | some u => rw [l a u z] at q3; cases q3⟩
/-- a list that will not change any more -/
theorem Go.freeze (h : At K F M H) {ds : List PyData} (e : M p = some (.lst (ds.map Sl.d))) (hl : Le M1 M) (hp : M1 p = none) : ∃ F', Go K F M H F' M1 H ∧ Dq K F' (.ref p) (.list ds) := by
  obtain ⟨f, vs, q1, q2⟩ := h.mem p _ e
  have e1 : Ex F (upd F p (.lst vs)) := Ex.new f
  refine ⟨upd F p (.lst vs), ⟨e1, ⟨fun b u z => ?_, fun b u z => ?_⟩, fun b u h1 h2 h3 => ?_⟩, .lst upd_same (dqAll_mono e1 (dqAll_of q2))⟩
  · by_cases hb : b = p
    · subst hb; rw [upd_same] at z; cases z; exact q1
    · rw [upd_ne hb] at z; exact h.ex b u z
  · have hb : b ≠ p := neM z hp
    obtain ⟨r1, r2⟩ := h.mem b u (hl b u z)
    exact ⟨by rw [upd_ne hb]; exact r1, mis_mono e1 rfl r2⟩
  · have hb : b ≠ p := fun z => by subst z; rw [e] at h3; cases h3
    refine ⟨h1, by rw [upd_ne hb]; exact h2, ?_⟩
    cases z : M1 b with
    | none => rfl
    | some w => rw [hl b w z] at h3; cases h3
end

/-! ### the slots -/
abbrev Env' := List (Option Sl)
def SIs (K : PySem.W.Frag) (F : Hp) : Option Sl → Option V → Prop
  | none, _ => True
  | some r, o => ∃ u, o = some u ∧ Is K F r u
abbrev SOk (K : PySem.W.Frag) (F : Hp) : Env' → St → Prop := All2 (SIs K F)
theorem sis_mono {K : PySem.W.Frag} {F F' : Hp} (e : Ex F F') : ∀ {r : Option Sl} {o : Option V}, SIs K F r o → SIs K F' r o
  | none, _, _ => trivial
  | some _, _, ⟨u, h1, h2⟩ => ⟨u, h1, is_mono e h2⟩
theorem sok_mono {K : PySem.W.Frag} {F F' : Hp} (e : Ex F F') {dl : Env'} {st : St} (h : SOk K F dl st) : SOk K F' dl st := h.imp fun _ _ q => sis_mono e q
theorem sok_get {K : PySem.W.Frag} {F : Hp} {dl : Env'} {st : St} {i : Nat} {r : Sl} (h : SOk K F dl st) (e : dl[i]? = some (some r)) : ∃ u, st[i]? = some (some u) ∧ Is K F r u := by
  obtain ⟨o, h1, u, rfl, h2⟩ := h.get e
  exact ⟨u, h1, h2⟩
theorem sok_start {K : PySem.W.Frag} {F : Hp} {rs : List Sl} {vs : List V} (h : IsAll K F rs vs) (n : Nat) : SOk K F (rs.map some ++ List.replicate n none) (vs.map some ++ List.replicate n none) := by
  refine All2.append ?_ ?_
  · induction h with
    | nil => exact .nil
    | cons h _ ih => exact .cons ⟨_, rfl, h⟩ ih
  · induction n with
    | zero => exact .nil
    | succ n ih => exact .cons trivial ih

/-! ### readings -/
abbrev RK := Sl → Mem → Prop
abbrev WE := Env' → Mem → RK → Prop
abbrev WT := Env' → Mem → (Bool → Mem → Prop) → Prop
abbrev WA := Env' → Mem → (List Sl → Mem → Prop) → Prop
structure PK where
  nx : Env' → Mem → Prop
  rt : RK
  bk : Env' → Mem → Prop := fun _ _ => False
  ct : Env' → Mem → Prop := fun _ _ => False
abbrev WS := PK → Env' → Mem → Prop

def Po (K : PySem.W.Frag) (F : Hp) (M : Mem) (H : Hp) (R : RK) (Q : VK) : Prop := ∀ v F' H' r M', R r M' → Go K F M H F' M' H' → Is K F' r v → Q v H'
def PoT (K : PySem.W.Frag) (F : Hp) (M : Mem) (H : Hp) (R : Bool → Mem → Prop) (Q : Bool → Hp → Prop) : Prop := ∀ b F' H' M', R b M' → Go K F M H F' M' H' → Q b H'
def PoA (K : PySem.W.Frag) (F : Hp) (M : Mem) (H : Hp) (R : List Sl → Mem → Prop) (Q : List V → Hp → Prop) : Prop := ∀ vs F' H' rs M', R rs M' → Go K F M H F' M' H' → IsAll K F' rs vs → Q vs H'
def PoN (K : PySem.W.Frag) (F : Hp) (M : Mem) (H : Hp) (R : Env' → Mem → Prop) (Q : St → Hp → Prop) : Prop := ∀ st F' H' dl M', R dl M' → Go K F M H F' M' H' → SOk K F' dl st → Q st H'
structure PoS (K : PySem.W.Frag) (F : Hp) (M : Mem) (H : Hp) (P : PK) (D : Ends) : Prop where
  nx : PoN K F M H P.nx D.nx
  rt : Po K F M H P.rt D.rt
  bk : PoN K F M H P.bk D.bk
  ct : PoN K F M H P.ct D.ct
section
variable {K : PySem.W.Frag} {F F' H H' : Hp} {M M' : Mem}
theorem Po.mono {R : RK} {Q : VK} (h : Po K F M H R Q) (e : Go K F M H F' M' H') : Po K F' M' H' R Q := fun v G J r N a b => h v G J r N a (e.trans b)
theorem PoT.mono {R : Bool → Mem → Prop} {Q : Bool → Hp → Prop} (h : PoT K F M H R Q) (e : Go K F M H F' M' H') : PoT K F' M' H' R Q := fun v G J N a b => h v G J N a (e.trans b)
theorem PoN.mono {R : Env' → Mem → Prop} {Q : St → Hp → Prop} (h : PoN K F M H R Q) (e : Go K F M H F' M' H') : PoN K F' M' H' R Q := fun v G J r N a b => h v G J r N a (e.trans b)
theorem PoS.mono {P : PK} {D : Ends} (h : PoS K F M H P D) (e : Go K F M H F' M' H') : PoS K F' M' H' P D := ⟨h.nx.mono e, h.rt.mono e, h.bk.mono e, h.ct.mono e⟩
end

def tD (K : PySem.W.Frag) (w : WE) : TE := fun st H Q => ∃ F dl M R, SOk K F dl st ∧ At K F M H ∧ w dl M R ∧ Po K F M H R Q
def tDT (K : PySem.W.Frag) (w : WT) : TT := fun st H Q => ∃ F dl M R, SOk K F dl st ∧ At K F M H ∧ w dl M R ∧ PoT K F M H R Q
def tDA (K : PySem.W.Frag) (w : WA) : TA := fun st H Q => ∃ F dl M R, SOk K F dl st ∧ At K F M H ∧ w dl M R ∧ PoA K F M H R Q
def tDS (K : PySem.W.Frag) (w : WS) : TS := fun D st H => ∃ F dl M P, SOk K F dl st ∧ At K F M H ∧ w P dl M ∧ PoS K F M H P D

def PD (X : Cx) (e : Expr) (w : WE) : Prop := PE X e (tD X.K w)
def PDT (X : Cx) (e : Expr) (w : WT) : Prop := PT X e (tDT X.K w)
def PDA (X : Cx) (es : List Expr) (w : WA) : Prop := PA X es (tDA X.K w)
def PDS (X : Cx) (st : Stmt) (w : WS) : Prop := PS X st (tDS X.K w)
def PDB (X : Cx) (st : List Stmt) (w : WS) : Prop := PSs X st (tDS X.K w)

theorem pe_imp {X : Cx} {e : Expr} {t u : TE} (h : PE X e t) (i : ∀ st H Q, u st H Q → t st H Q) : PE X e u := ⟨fun pins s st H Q I q => h.run pins s st H Q I (i st H Q q)⟩
theorem pt_imp {X : Cx} {e : Expr} {t u : TT} (h : PT X e t) (i : ∀ st H Q, u st H Q → t st H Q) : PT X e u := ⟨fun pins s st H Q I q => h.run pins s st H Q I (i st H Q q)⟩
theorem pa_imp {X : Cx} {e : List Expr} {t u : TA} (h : PA X e t) (i : ∀ st H Q, u st H Q → t st H Q) : PA X e u := ⟨fun po pins s st H Q I q => h.run po pins s st H Q I (i st H Q q)⟩
theorem ps_imp {X : Cx} {e : Stmt} {t u : TS} (h : PS X e t) (i : ∀ D st H, u D st H → t D st H) : PS X e u := ⟨fun pins s st H D I q => h.run pins s st H D I (i D st H q)⟩
theorem pss_imp {X : Cx} {e : List Stmt} {t u : TS} (h : PSs X e t) (i : ∀ D st H, u D st H → t D st H) : PSs X e u := ⟨fun pins s st H D I q => h.run pins s st H D I (i D st H q)⟩

/-- one reading behind another -/
theorem tD_to {K : PySem.W.Frag} {F : Hp} {dl : Env'} {M : Mem} {st : St} {H : Hp} {w : WE} {R : RK} {Q : VK} (so : SOk K F dl st) (at0 : At K F M H) (hw : w dl M R) (k : ∀ v F' H' r M', R r M' → Go K F M H F' M' H' → SOk K F' dl st → At K F' M' H' → Is K F' r v → Q v H') : tD K w st H Q :=
  ⟨F, dl, M, R, so, at0, hw, fun v F' H' r M' a b d => k v F' H' r M' a b (sok_mono b.ex so) b.at' d⟩
theorem tDT_to {K : PySem.W.Frag} {F : Hp} {dl : Env'} {M : Mem} {st : St} {H : Hp} {w : WT} {R : Bool → Mem → Prop} {Q : Bool → Hp → Prop} (so : SOk K F dl st) (at0 : At K F M H) (hw : w dl M R) (k : ∀ b F' H' M', R b M' → Go K F M H F' M' H' → SOk K F' dl st → At K F' M' H' → Q b H') : tDT K w st H Q :=
  ⟨F, dl, M, R, so, at0, hw, fun v F' H' M' a b => k v F' H' M' a b (sok_mono b.ex so) b.at'⟩
theorem tDA_to {K : PySem.W.Frag} {F : Hp} {dl : Env'} {M : Mem} {st : St} {H : Hp} {w : WA} {R : List Sl → Mem → Prop} {Q : List V → Hp → Prop} (so : SOk K F dl st) (at0 : At K F M H) (hw : w dl M R) (k : ∀ vs F' H' rs M', R rs M' → Go K F M H F' M' H' → SOk K F' dl st → At K F' M' H' → IsAll K F' rs vs → Q vs H') : tDA K w st H Q :=
  ⟨F, dl, M, R, so, at0, hw, fun v F' H' r M' a b d => k v F' H' r M' a b (sok_mono b.ex so) b.at' d⟩

/-! ### expressions -/
abbrev wVar (i : Nat) : WE := fun dl M R => ∃ r, dl[i]? = some (some r) ∧ R r M
abbrev wC (r : Sl) : WE := fun _ M R => R r M
section
variable {X : Cx} {a b c : Expr} {wa wb wc : WE} {pos : Pos}
theorem pd_var (i : Nat) {x : Str} (hN : X.N[i]? = some x := by rfl) (hv : Vis X.env.scope x := by first | exact Or.inl rfl | exact Or.inr (Or.inl rfl) | exact Or.inr (Or.inr rfl)) (hd : (x == ("__debug__" : Str)) = false := by decide)
    (hcd : (x == ("__classdict__" : Str)) = false := by decide) : PD X (.Name x pos) (wVar i) := by
  refine pe_imp (pv i hN hv hd hcd) fun st H Q ⟨F, dl, M, R, so, at0, ⟨r, h1, h2⟩, po⟩ => ?_
  obtain ⟨u, g1, g2⟩ := sok_get so h1
  exact ⟨u, g1, po u F H r M h2 (Go.refl at0) g2⟩
theorem pd_c {e : Expr} {v : V} {x : PyData} (h : PE X e (tC v)) (hd : ∀ F, Dq X.K F v x) : PD X e (wC (.d x)) :=
  pe_imp h fun st H Q ⟨F, dl, M, R, so, at0, hw, po⟩ => po v F H _ M hw (Go.refl at0) (hd F)
theorem pd_int {i j pos} : PD X (.Constant (.int i) j pos) (wC (.i i)) := pd_c pe_int fun _ => .int i
theorem pd_str {i j pos} : PD X (.Constant (.str i) j pos) (wC (.s i)) := pd_c pe_str fun _ => .str i
theorem pd_bl {i j pos} : PD X (.Constant (.bool i) j pos) (wC (.b i)) := pd_c pe_bl fun _ => .bl i
theorem pd_non {j pos} : PD X (.Constant .none j pos) (wC .n) := pd_c pe_non fun _ => .non

/-- a two-place operation by what is known of its operands -/
abbrev W2 := Sl → Sl → Mem → RK → Prop
def OpD (X : Cx) (f : Value → Value → Sem Value) (g : W2) : Prop := ∃ r : R2, OpR X f r ∧ ∀ (F H : Hp) (M : Mem) (x y : V) (p q : Sl) (R : RK) (Q : VK), At X.K F M H → Is X.K F p x → Is X.K F q y → g p q M R → Po X.K F M H R Q → r x y H Q
abbrev wOp (g : W2) (wa wb : WE) : WE := fun dl M R => wa dl M fun p M1 => wb dl M1 fun q M2 => g p q M2 R
theorem tD_op {K : PySem.W.Frag} {g : W2} {r : R2} (hr : ∀ (F H : Hp) (M : Mem) (x y : V) (p q : Sl) (R : RK) (Q : VK), At K F M H → Is K F p x → Is K F q y → g p q M R → Po K F M H R Q → r x y H Q) {st : St} {H : Hp} {Q : VK}
    (h : tD K (wOp g wa wb) st H Q) : tOp r (tD K wa) (tD K wb) st H Q := by
  obtain ⟨F, dl, M, R, so, at0, hw, po⟩ := h
  refine tD_to so at0 hw fun x F1 H1 p M1 h1 e1 so1 at1 i1 => ?_
  refine tD_to so1 at1 h1 fun y F2 H2 q M2 h2 e2 so2 at2 i2 => ?_
  exact hr F2 H2 M2 x y p q R Q at2 (is_mono e2.ex i1) i2 h2 (po.mono (e1.trans e2))
theorem pd_op {op : Operator} {g : W2} (ho : OpD X (binaryOp op) g) (ha : PD X a wa) (hb : PD X b wb) : PD X (.BinOp a op b pos) (wOp g wa wb) := by
  obtain ⟨r, h1, h2⟩ := ho
  exact pe_imp (pe_op h1 ha hb) fun st H Q h => tD_op h2 h
theorem pd_cmp {op : CmpOp} {g : W2} (ho : OpD X (compareOp op) g) (ha : PD X a wa) (hb : PD X b wb) (hm : behindInMarks op b = false) : PD X (.Compare a [op] [b] pos) (wOp g wa wb) := by
  obtain ⟨r, h1, h2⟩ := ho
  exact pe_imp (pe_cmpR h1 ha hb hm) fun st H Q h => tD_op h2 h
end
end DL

set_option Elab.async false
set_option linter.all false
set_option maxRecDepth 100000
set_option maxHeartbeats 4000000
/-! DB: operators, tests, displays, items, slices by data. -/
namespace DL
open PySem L2
open Evl (Ex)

/-- every rule of an operation at once -/
def rAny (X : Cx) (f : Value → Value → Sem Value) : R2 := fun x y H Q => ∃ r : R2, OpR X f r ∧ r x y H Q
theorem opR_any {X : Cx} {f : Value → Value → Sem Value} : OpR X f (rAny X f) := fun pins s st H x y v u Q I rx ry ⟨_, ho, h⟩ => ho pins s st H x y v u Q I rx ry h
/-- an operation by shapes -/
theorem opD_of {X : Cx} {f : Value → Value → Sem Value} {g : W2} (h : ∀ (F H : Hp) (M : Mem) (x y : V) (p q : Sl) (R : RK) (Q : VK), At X.K F M H → Is X.K F p x → Is X.K F q y → g p q M R → Po X.K F M H R Q → rAny X f x y H Q) : OpD X f g := ⟨rAny X f, opR_any, h⟩

/-- the items of a list, of a tuple -/
def lsOf (M : Mem) : Sl → Option (List Sl)
  | .d (.list ds) => some (ds.map Sl.d)
  | .v (.ref p) => match M p with
    | some (.lst ss) => some ss
    | _ => none
  | _ => none
theorem lsOf_at {K : PySem.W.Frag} {F H : Hp} {M : Mem} (at0 : At K F M H) : ∀ {r : Sl} {v : V} {ss : List Sl}, Is K F r v → lsOf M r = some ss → ∃ a vs, v = .ref a ∧ H a = some (.lst vs) ∧ IsAll K F ss vs
  | .d (.list ds), _, _, h, e => by
    cases e
    cases h with
    | lst h1 h2 => exact ⟨_, _, rfl, at0.ex _ _ h1, isAll_d h2⟩
  | .v (.ref p), v, ss, h, e => by
    have h' : v = .ref p := h
    subst h'
    simp only [lsOf] at e
    split at e
    · rename_i s2 q
      cases e
      obtain ⟨_, vs, h1, h2⟩ := at0.mem p _ q
      exact ⟨p, vs, rfl, h1, h2⟩
    · cases e
  | .r _, _, _, _, e => by simp [lsOf] at e
  | .w _, _, _, _, e => by simp [lsOf] at e
  | .d .none, _, _, _, e => by simp [lsOf] at e
  | .d (.bool _), _, _, _, e => by simp [lsOf] at e
  | .d (.int _), _, _, _, e => by simp [lsOf] at e
  | .d (.str _), _, _, _, e => by simp [lsOf] at e
  | .d (.tuple _), _, _, _, e => by simp [lsOf] at e
  | .d (.dict _), _, _, _, e => by simp [lsOf] at e
theorem sqT_at {K : PySem.W.Frag} {F H : Hp} {M : Mem} (at0 : At K F M H) {v : V} {ds : List PyData} (h : Dq K F v (.tuple ds)) : ∃ a vs, v = .ref a ∧ SqT K H a vs ∧ DqAll K F vs ds := by
  cases h with
  | tup h1 h2 => exact ⟨_, _, rfl, Evl.ex_t at0.ex h1.sq, h2⟩
/-- .. that is only read -/
def rlOf (M : Mem) : Sl → Option (List Sl)
  | .r ns => some (ns.map fun n => Sl.i n)
  | .d x => lsOf M (.d x)
  | .v x => lsOf M (.v x)
  | .w x => lsOf M (.w x)
theorem isAll_ints {K : PySem.W.Frag} {F : Hp} : ∀ ns : List Int, IsAll K F (ns.map fun n => Sl.i n) (ns.map V.int)
  | [] => .nil
  | n :: r => .cons (Dq.int n) (isAll_ints r)
theorem rlOf_at {K : PySem.W.Frag} {F H : Hp} {M : Mem} (at0 : At K F M H) : ∀ {r : Sl} {v : V} {ss : List Sl}, Is K F r v → rlOf M r = some ss → ∃ a vs, v = .ref a ∧ SqL K H a vs ∧ IsAll K F ss vs
  | .r ns, _, _, ⟨a, h1, h2⟩, e => by
    cases e
    exact ⟨a, _, h1, ex_l at0.ex h2, isAll_ints ns⟩
  | .d _, _, _, h, e => by
    obtain ⟨a, vs, h1, h2, h3⟩ := lsOf_at at0 h e
    exact ⟨a, vs, h1, SqL.of h2, h3⟩
  | .v _, _, _, h, e => by
    obtain ⟨a, vs, h1, h2, h3⟩ := lsOf_at at0 h e
    exact ⟨a, vs, h1, SqL.of h2, h3⟩
  | .w _, _, _, _, e => by simp [rlOf, lsOf] at e
/-- data out of slots -/
def datOf : List Sl → Option (List PyData)
  | [] => some []
  | .d x :: r => (datOf r).map (x :: ·)
  | .v _ :: _ => none
  | .r _ :: _ => none
  | .w _ :: _ => none
theorem datOf_eq : ∀ {ss : List Sl} {ds : List PyData}, datOf ss = some ds → ss = ds.map Sl.d
  | [], _, h => by cases h; rfl
  | .d x :: r, ds, h => by
    simp only [datOf, Option.map_eq_some_iff] at h
    obtain ⟨rs, h1, rfl⟩ := h
    rw [datOf_eq h1]; rfl
  | .v _ :: _, _, h => by cases h
  | .r _ :: _, _, h => by cases h
  | .w _ :: _, _, h => by cases h
theorem datOf_map (ds : List PyData) : datOf (ds.map Sl.d) = some ds := by
  induction ds with
  | nil => rfl
  | cons a r ih => simp only [List.map_cons, datOf, ih, Option.map_some]

section
variable {X : Cx}
theorem dq_int {K : PySem.W.Frag} {F : Hp} {v : V} {i : Int} (h : Dq K F v (.int i)) : v = .int i := by cases h; rfl
theorem dq_str {K : PySem.W.Frag} {F : Hp} {v : V} {i : Str} (h : Dq K F v (.str i)) : v = .str i := by cases h; rfl
theorem dq_bl {K : PySem.W.Frag} {F : Hp} {v : V} {i : Bool} (h : Dq K F v (.bool i)) : v = .bl i := by cases h; rfl
theorem dq_non {K : PySem.W.Frag} {F : Hp} {v : V} (h : Dq K F v .none) : v = .non := by cases h; rfl
/-- two ints -/
abbrev gI (C : Int → Int → Prop) (g : Int → Int → PyData) : W2 := fun p q M R => match p, q with
  | .d (.int i), .d (.int j) => C i j ∧ R (.d (g i j)) M
  | _, _ => False
abbrev gI0 (g : Int → Int → PyData) : W2 := fun p q M R => match p, q with
  | .d (.int i), .d (.int j) => R (.d (g i j)) M
  | _, _ => False
theorem gI_to {C : Int → Int → Prop} {g : Int → Int → PyData} {p q : Sl} {M : Mem} {R : RK} (h : gI C g p q M R) : ∃ i j, p = .i i ∧ q = .i j ∧ C i j ∧ R (.d (g i j)) M := by
  unfold gI at h
  split at h
  · exact ⟨_, _, rfl, rfl, h⟩
  · exact h.elim
theorem gI0_to {g : Int → Int → PyData} {p q : Sl} {M : Mem} {R : RK} (h : gI0 g p q M R) : ∃ i j, p = .i i ∧ q = .i j ∧ R (.d (g i j)) M := by
  unfold gI0 at h
  split at h
  · exact ⟨_, _, rfl, rfl, h⟩
  · exact h.elim
theorem oI {f : Value → Value → Sem Value} {C : Int → Int → Prop} {g : Int → Int → PyData} {gv : Int → Int → V} (ho : OpR X f (rI C gv)) (hg : ∀ F i j, Dq X.K F (gv i j) (g i j)) : OpD X f (gI C g) :=
  opD_of fun F H M x y p q R Q at0 h1 h2 h3 po => by
    obtain ⟨i, j, rfl, rfl, hc, hR⟩ := gI_to h3
    exact ⟨_, ho, i, j, dq_int h1, dq_int h2, hc, po _ F H _ M hR (Go.refl at0) (hg F i j)⟩
theorem oI0 {f : Value → Value → Sem Value} {g : Int → Int → PyData} {gv : Int → Int → V} (ho : OpR X f (rI0 gv)) (hg : ∀ F i j, Dq X.K F (gv i j) (g i j)) : OpD X f (gI0 g) :=
  opD_of fun F H M x y p q R Q at0 h1 h2 h3 po => by
    obtain ⟨i, j, rfl, rfl, hR⟩ := gI0_to h3
    exact ⟨_, ho, i, j, dq_int h1, dq_int h2, po _ F H _ M hR (Go.refl at0) (hg F i j)⟩
abbrev gAdd : W2 := gI0 fun i j => .int (i + j)
abbrev gSub : W2 := gI0 fun i j => .int (i - j)
abbrev gMul : W2 := gI (fun i j => (-(2 ^ 64) < i ∧ i < 2 ^ 64) ∨ (-(2 ^ 64) < j ∧ j < 2 ^ 64)) fun i j => .int (i * j)
abbrev gDiv : W2 := gI (fun _ j => 0 < j ∧ j < 1073741824) fun i j => .int (i / j)
abbrev gMod : W2 := gI (fun _ j => 0 < j) fun i j => .int (i % j)
abbrev gPow : W2 := gI (fun i j => 0 ≤ j ∧ j ≤ 1000000 ∧ i.natAbs < 2 ^ 64) fun i j => .int (i ^ j.toNat)
abbrev gLt : W2 := gI0 fun i j => .bool (decide (i < j))
abbrev gLe : W2 := gI0 fun i j => .bool (decide (i ≤ j))
abbrev gGt : W2 := gI0 fun i j => .bool (decide (j < i))
abbrev gGe : W2 := gI0 fun i j => .bool (decide (j ≤ i))
theorem o_add : OpD X (binaryOp .Add) gAdd := oI0 op_add fun _ _ _ => .int _
theorem o_sub : OpD X (binaryOp .Sub) gSub := oI0 op_sub fun _ _ _ => .int _
theorem o_mul : OpD X (binaryOp .Mult) gMul := oI op_mul fun _ _ _ => .int _
theorem o_div : OpD X (binaryOp .FloorDiv) gDiv := oI op_fdiv fun _ _ _ => .int _
theorem o_mod : OpD X (binaryOp .Mod) gMod := oI op_mod fun _ _ _ => .int _
theorem o_pow : OpD X (binaryOp .Pow) gPow := oI op_pow fun _ _ _ => .int _
theorem o_lt : OpD X (compareOp .Lt) gLt := oI0 op_lt fun _ _ _ => .bl _
theorem o_le : OpD X (compareOp .LtE) gLe := oI0 op_le fun _ _ _ => .bl _
theorem o_gt : OpD X (compareOp .Gt) gGt := oI0 op_gt fun _ _ _ => .bl _
theorem o_ge : OpD X (compareOp .GtE) gGe := oI0 op_ge fun _ _ _ => .bl _

/-! ### == and != of data -/
abbrev gEq : W2 := fun p q M R => match p, q with
  | .d (.str a), .d (.str b) => R (.b (decide (a = b))) M
  | .d (.int a), .d (.int b) => R (.b (decide (a = b))) M
  | .d a, .d b => SeqAt.shaped a = true ∧ SeqAt.shaped b = true ∧ R (.b (PyData.eqv a b)) M
  | .v (.ref p), .d b => ∃ ss ds, M p = some (.lst ss) ∧ datOf ss = some ds ∧ SeqAt.shaped (.list ds) = true ∧ SeqAt.shaped b = true ∧ R (.b (PyData.eqv (.list ds) b)) M
  | _, _ => False
abbrev gNe : W2 := fun p q M R => match p, q with
  | .d (.str a), .d (.str b) => R (.b (!decide (a = b))) M
  | .d (.int a), .d (.int b) => R (.b (!decide (a = b))) M
  | .d a, .d b => SeqAt.shaped a = true ∧ SeqAt.shaped b = true ∧ R (.b (!PyData.eqv a b)) M
  | .v (.ref p), .d b => ∃ ss ds, M p = some (.lst ss) ∧ datOf ss = some ds ∧ SeqAt.shaped (.list ds) = true ∧ SeqAt.shaped b = true ∧ R (.b (!PyData.eqv (.list ds) b)) M
  | _, _ => False
theorem dq_up {K : PySem.W.Frag} {F H : Hp} (e : Ex F H) {v : V} {d : PyData} (h : Dq K F v d) : Dp K H v d := dq_dp (dq_mono e h)
theorem dp_mem {K : PySem.W.Frag} {F H : Hp} {M : Mem} (at0 : At K F M H) {p : Addr} {ss : List Sl} {ds : List PyData} (m : M p = some (.lst ss)) (e : datOf ss = some ds) : Dp K H (.ref p) (.list ds) := by
  obtain ⟨_, vs, h1, h2⟩ := at0.mem p _ m
  rw [datOf_eq e] at h2
  exact .lst (SqL.of h1) (dqAll_dp (dqAll_mono at0.ex (dqAll_of h2)))
theorem decV_str {a b : Str} : decide (V.str a = V.str b) = decide (a = b) := by simp
theorem decV_int {a b : Int} : decide (V.int a = V.int b) = decide (a = b) := by simp
theorem o_eq (hu : X.A.units + 64 < cLine) : OpD X (compareOp .Eq) gEq :=
  opD_of fun F H M x y p q R Q at0 h1 h2 h3 po => by
    unfold gEq at h3
    split at h3
    · cases dq_str h1; cases dq_str h2
      exact ⟨_, op_eq, rfl, by rw [decV_str]; exact po _ F H _ M h3 (Go.refl at0) (.bl _)⟩
    · cases dq_int h1; cases dq_int h2
      exact ⟨_, op_eq, rfl, by rw [decV_int]; exact po _ F H _ M h3 (Go.refl at0) (.bl _)⟩
    · exact ⟨_, op_eqD hu, _, _, dq_up at0.ex h1, dq_up at0.ex h2, h3.1, h3.2.1, po _ F H _ M h3.2.2 (Go.refl at0) (.bl _)⟩
    · obtain ⟨ss, ds, m, e, s1, s2, hR⟩ := h3
      have e1 : x = .ref _ := h1
      subst e1
      exact ⟨_, op_eqD hu, _, _, dp_mem at0 m e, dq_up at0.ex h2, s1, s2, po _ F H _ M hR (Go.refl at0) (.bl _)⟩
    · exact h3.elim
theorem o_ne (hu : X.A.units + 64 < cLine) : OpD X (compareOp .NotEq) gNe :=
  opD_of fun F H M x y p q R Q at0 h1 h2 h3 po => by
    unfold gNe at h3
    split at h3
    · cases dq_str h1; cases dq_str h2
      exact ⟨_, op_ne, rfl, by rw [decV_str]; exact po _ F H _ M h3 (Go.refl at0) (.bl _)⟩
    · cases dq_int h1; cases dq_int h2
      exact ⟨_, op_ne, rfl, by rw [decV_int]; exact po _ F H _ M h3 (Go.refl at0) (.bl _)⟩
    · exact ⟨_, op_neD hu, _, _, dq_up at0.ex h1, dq_up at0.ex h2, h3.1, h3.2.1, po _ F H _ M h3.2.2 (Go.refl at0) (.bl _)⟩
    · obtain ⟨ss, ds, m, e, s1, s2, hR⟩ := h3
      have e1 : x = .ref _ := h1
      subst e1
      exact ⟨_, op_neD hu, _, _, dp_mem at0 m e, dq_up at0.ex h2, s1, s2, po _ F H _ M hR (Go.refl at0) (.bl _)⟩
    · exact h3.elim
/-! ### is None -/
def isN : PyData → Bool
  | .none => true
  | _ => false
abbrev gIsN : W2 := fun p q M R => match p, q with
  | .d a, .d .none => R (.b (isN a)) M
  | _, _ => False
abbrev gNotN : W2 := fun p q M R => match p, q with
  | .d a, .d .none => R (.b (!isN a)) M
  | _, _ => False
theorem isN_eq {K : PySem.W.Frag} {F : Hp} {v : V} {d : PyData} (h : Dq K F v d) : decide (v = V.non) = isN d := by cases h <;> rfl
theorem gIsN_to {p q : Sl} {M : Mem} {R : RK} (h : gIsN p q M R) : ∃ a, p = .d a ∧ q = .n ∧ R (.b (isN a)) M := by
  unfold gIsN at h
  split at h
  · exact ⟨_, rfl, rfl, h⟩
  · exact h.elim
theorem gNotN_to {p q : Sl} {M : Mem} {R : RK} (h : gNotN p q M R) : ∃ a, p = .d a ∧ q = .n ∧ R (.b (!isN a)) M := by
  unfold gNotN at h
  split at h
  · exact ⟨_, rfl, rfl, h⟩
  · exact h.elim
theorem o_isN : OpD X (compareOp .Is) gIsN :=
  opD_of fun F H M x y p q R Q at0 h1 h2 h3 po => by
    obtain ⟨a, rfl, rfl, hR⟩ := gIsN_to h3
    exact ⟨_, op_isN, dq_non h2, by rw [isN_eq h1]; exact po _ F H _ M hR (Go.refl at0) (.bl _)⟩
theorem o_notN : OpD X (compareOp .IsNot) gNotN :=
  opD_of fun F H M x y p q R Q at0 h1 h2 h3 po => by
    obtain ⟨a, rfl, rfl, hR⟩ := gNotN_to h3
    exact ⟨_, op_notN, dq_non h2, by rw [isN_eq h1]; exact po _ F H _ M hR (Go.refl at0) (.bl _)⟩

/-! ### new things -/
theorem po_dat {K : PySem.W.Frag} {F H : Hp} {M : Mem} {R : RK} {Q : VK} {p : Addr} {o : HO} {d : PyData} (at0 : At K F M H) (po : Po K F M H R Q) (hp : H p = none) (hR : R (.d d) M) (hd : ∀ F', Ex F F' → F' p = some o → Dq K F' (.ref p) d) : Q (.ref p) (upd H p o) := by
  have g := Go.laid at0 (o := o) hp
  exact po _ _ _ _ M hR g (hd _ g.ex upd_same)
theorem po_lst {K : PySem.W.Frag} {F H : Hp} {M : Mem} {R : RK} {Q : VK} {p : Addr} {vs : List V} {ss : List Sl} (at0 : At K F M H) (po : Po K F M H R Q) (hp : H p = none) (h : IsAll K F ss vs) (hR : ∀ a, M a = none → R (.v (.ref a)) (upM M a (.lst ss))) : Q (.ref p) (upd H p (.lst vs)) :=
  po _ F _ _ _ (hR p (at0.freeM hp)) (Go.new at0 hp ⟨vs, upd_same, h⟩) rfl

/-! ### + of lists and tuples, * of a list -/
/-- lists, to a datum -/
abbrev gCat : W2 := fun p q M R => ∃ xs ys zs, lsOf M p = some xs ∧ lsOf M q = some ys ∧ datOf (xs ++ ys) = some zs ∧ xs.length + ys.length ≤ sizeLine ∧ R (.d (.list zs)) M
/-- lists, to a new list that may change -/
abbrev gCatM : W2 := fun p q M R => ∃ xs ys, lsOf M p = some xs ∧ lsOf M q = some ys ∧ xs.length + ys.length ≤ sizeLine ∧ ∀ a, M a = none → R (.v (.ref a)) (upM M a (.lst (xs ++ ys)))
theorem o_cat : OpD X (binaryOp .Add) gCat :=
  opD_of fun F H M x y p q R Q at0 h1 h2 h3 po => by
    obtain ⟨xs, ys, zs, e1, e2, e3, hz, hR⟩ := h3
    obtain ⟨a, vs, rfl, g1, i1⟩ := lsOf_at at0 h1 e1
    obtain ⟨b, us, rfl, g2, i2⟩ := lsOf_at at0 h2 e2
    refine ⟨_, op_cat, a, b, vs, us, rfl, rfl, g1, g2, by rw [← i1.length, ← i2.length]; exact hz, fun c hc => ?_⟩
    have i3 := i1.append i2
    rw [datOf_eq e3] at i3
    exact po_dat at0 po hc hR fun F' e h => .lst h (dqAll_mono e (dqAll_of i3))
theorem o_catM : OpD X (binaryOp .Add) gCatM :=
  opD_of fun F H M x y p q R Q at0 h1 h2 h3 po => by
    obtain ⟨xs, ys, e1, e2, hz, hR⟩ := h3
    obtain ⟨a, vs, rfl, g1, i1⟩ := lsOf_at at0 h1 e1
    obtain ⟨b, us, rfl, g2, i2⟩ := lsOf_at at0 h2 e2
    exact ⟨_, op_cat, a, b, vs, us, rfl, rfl, g1, g2, by rw [← i1.length, ← i2.length]; exact hz, fun c hc => po_lst at0 po hc (i1.append i2) hR⟩
theorem dqAll_app {K : PySem.W.Frag} {F : Hp} : ∀ {xs ys : List PyData} {vs us : List V}, DqAll K F vs xs → DqAll K F us ys → DqAll K F (vs ++ us) (xs ++ ys)
  | _, _, _, _, .nil, h => h
  | _, _, _, _, .cons a t, h => .cons a (dqAll_app t h)
theorem dqAll_len {K : PySem.W.Frag} {F : Hp} : ∀ {xs : List PyData} {vs : List V}, DqAll K F vs xs → vs.length = xs.length
  | _, _, .nil => rfl
  | _, _, .cons _ t => congrArg (· + 1) (dqAll_len t)
/-- tuples (the left one not empty) -/
abbrev gCatT : W2 := fun p q M R => match p, q with
  | .d (.tuple xs), .d (.tuple ys) => xs ≠ [] ∧ xs.length + ys.length ≤ sizeLine ∧ R (.d (.tuple (xs ++ ys))) M
  | _, _ => False
abbrev gRep : W2 := fun p q M R => match q with
  | .d (.int k) => ∃ xs zs, lsOf M p = some xs ∧ datOf xs = some zs ∧ 0 ≤ k ∧ k < 1000000 ∧ xs.length * k.toNat ≤ sizeLine ∧ R (.d (.list (List.replicate k.toNat zs).flatten)) M
  | _ => False
theorem dqAll_rep {K : PySem.W.Frag} {F : Hp} {zs : List PyData} {vs : List V} (h : DqAll K F vs zs) : ∀ n : Nat, DqAll K F (List.replicate n vs).flatten (List.replicate n zs).flatten
  | 0 => .nil
  | n + 1 => by
    rw [List.replicate_succ, List.replicate_succ, List.flatten_cons, List.flatten_cons]
    exact dqAll_app h (dqAll_rep h n)
theorem o_rep : OpD X (binaryOp .Mult) gRep :=
  opD_of fun F H M x y p q R Q at0 h1 h2 h3 po => by
    unfold gRep at h3
    split at h3
    · rename_i k
      obtain ⟨xs, zs, e1, e3, k0, k1, hz, hR⟩ := h3
      obtain ⟨a, vs, rfl, g1, i1⟩ := lsOf_at at0 h1 e1
      rw [datOf_eq e3] at i1
      refine ⟨_, op_rep, a, k, vs, rfl, dq_int h2, g1, by omega, by omega, ?_, fun c hc => ?_⟩
      · have := i1.length
        rw [← datOf_eq e3] at this
        rw [← this]; exact hz
      · exact po_dat at0 po hc hR fun F' e h => .lst h (dqAll_mono e (dqAll_rep (dqAll_of i1) _))
    · exact h3.elim
end

section
variable {X : Cx} {a b c : Expr} {wa wb wc : WE} {pos : Pos}
/-! ### argument lists, displays -/
abbrev wNil : WA := fun _ M R => R [] M
abbrev wCons (wa : WE) (wr : WA) : WA := fun dl M R => wa dl M fun r M1 => wr dl M1 fun rs M2 => R (r :: rs) M2
theorem pda_nil : PDA X [] wNil := pa_imp pa_nil fun st H Q ⟨F, dl, M, R, so, at0, hw, po⟩ => po [] F H [] M hw (Go.refl at0) .nil
theorem pda_cons {e : Expr} {es : List Expr} {wr : WA} (ha : PD X e wa) (hr : PDA X es wr) (hs : starEach (e :: es) X.env = (false, eval e X.env) :: starEach es X.env := by rfl) : PDA X (e :: es) (wCons wa wr) := by
  refine pa_imp (pa_cons ha hr hs) fun st H Q ⟨F, dl, M, R, so, at0, hw, po⟩ => ?_
  refine tD_to so at0 hw fun x F1 H1 p M1 h1 e1 so1 at1 i1 => ?_
  refine tDA_to so1 at1 h1 fun vs F2 H2 rs M2 h2 e2 so2 at2 i2 => ?_
  exact po (x :: vs) F2 H2 (p :: rs) M2 h2 (e1.trans e2) (.cons (is_mono e2.ex i1) i2)
/-- (a, b, ..) of data -/
abbrev wTup (wa : WA) : WE := fun dl M R => wa dl M fun rs M1 => ∃ ds, datOf rs = some ds ∧ ds.length ≤ sizeLine ∧ R (.d (.tuple ds)) M1
/-- [a, b, ..] of data -/
abbrev wLst (wa : WA) : WE := fun dl M R => wa dl M fun rs M1 => ∃ ds, datOf rs = some ds ∧ ds.length ≤ sizeLine ∧ R (.d (.list ds)) M1
/-- [a, b, ..] that may change -/
abbrev wLstM (wa : WA) : WE := fun dl M R => wa dl M fun rs M1 => rs.length ≤ sizeLine ∧ ∀ p, M1 p = none → R (.v (.ref p)) (upM M1 p (.lst rs))
/-- a display makes a plain tuple -/
theorem pe_tupF {X : Cx} {es : List Expr} {pos : Pos} {k : Nat} {ta : TA} (h : PA X es ta) : PE X (.Tuple es k pos) (fun st H Q => ta st H fun xs H1 => xs.length ≤ sizeLine ∧ ∀ p o, o.dict = none → H1 p = none → Q (.ref p) (upd H1 p (.frz o (.tup xs)))) := by
  refine ⟨fun pins s st H Q I hq => wpAny_Tuple_spliced (thn (h.run pos pins s st H _ I hq) fun us s1 ⟨xs, H1, I1, r, z, q⟩ => ⟨r.length ▸ z, ?_⟩)⟩
  let ob : Obj := { cls := .type "tuple", data := .seq us.toArray }
  have got : (s1.heap.push ob).get? s1.heap.objs.size = some ob := Heap.get?_push_size _ rfl
  have J : Inv X pins st (upd H1 s1.heap.objs.size (.frz ob (.tup xs))) { s1 with heap := s1.heap.push ob } := I1.laid (t' := s1.toks) (fun _ _ e => Heap.get?_push_of_some _ e) (Nat.le_refl _) ⟨got, z, us, r, ob, got, rfl, _, rfl⟩
  exact ⟨.ref s1.heap.objs.size, _, J, rfl, q _ ob rfl (I1.hok.fresh (Nat.le_refl _))⟩
theorem pd_tup {es : List Expr} {wr : WA} {k : Nat} (h : PDA X es wr) : PD X (.Tuple es k pos) (wTup wr) := by
  refine pe_imp (pe_tupF h) fun st H Q ⟨F, dl, M, R, so, at0, hw, po⟩ => ?_
  refine tDA_to so at0 hw fun vs F1 H1 rs M1 h1 e1 so1 at1 i1 => ?_
  obtain ⟨ds, hd, hz, hR⟩ := h1
  rw [datOf_eq hd] at i1
  have i2 := dqAll_of i1
  exact ⟨by rw [dqAll_len i2]; exact hz, fun p o ho hp => po_dat at1 (po.mono e1) hp hR fun F' e h => .tup (.inl ⟨o, h, ho⟩) (dqAll_mono e i2)⟩
theorem pd_lst {es : List Expr} {wr : WA} (h : PDA X es wr) : PD X (.List es pos) (wLst wr) := by
  refine pe_imp (pe_lst h) fun st H Q ⟨F, dl, M, R, so, at0, hw, po⟩ => ?_
  refine tDA_to so at0 hw fun vs F1 H1 rs M1 h1 e1 so1 at1 i1 => ?_
  obtain ⟨ds, hd, hz, hR⟩ := h1
  rw [datOf_eq hd] at i1
  have i2 := dqAll_of i1
  exact ⟨by rw [dqAll_len i2]; exact hz, fun p hp => po_dat at1 (po.mono e1) hp hR fun F' e h => .lst h (dqAll_mono e i2)⟩
theorem pd_lstM {es : List Expr} {wr : WA} (h : PDA X es wr) : PD X (.List es pos) (wLstM wr) := by
  refine pe_imp (pe_lst h) fun st H Q ⟨F, dl, M, R, so, at0, hw, po⟩ => ?_
  refine tDA_to so at0 hw fun vs F1 H1 rs M1 h1 e1 so1 at1 i1 => ?_
  obtain ⟨hz, hR⟩ := h1
  exact ⟨by rw [← i1.length]; exact hz, fun p hp => po_lst at1 (po.mono e1) hp i1 hR⟩

/-! ### items and slices -/
theorem atI_all {K : PySem.W.Frag} {F : Hp} {ss : List Sl} {vs : List V} {i : Int} {r : Sl} (h : IsAll K F ss vs) (e : atI ss i = some r) : ∃ v, atI vs i = some v ∧ Is K F r v := by
  unfold atI at e ⊢
  rw [← h.length]
  cases q : ixN ss.length i with
  | none => rw [q] at e; cases e
  | some j =>
    rw [q] at e
    obtain ⟨v, g1, g2⟩ := h.get (i := j) e
    exact ⟨v, g1, g2⟩
/-- the items of what is subscripted by a number -/
def sqOf (M : Mem) : Sl → Option (List Sl)
  | .d (.tuple ds) => some (ds.map Sl.d)
  | r => rlOf M r
theorem sqOf_at {K : PySem.W.Frag} {F H : Hp} {M : Mem} (at0 : At K F M H) {r : Sl} {v : V} {ss : List Sl} (h : Is K F r v) (e : sqOf M r = some ss) : ∃ a vs, v = .ref a ∧ (SqL K H a vs ∨ SqT K H a vs) ∧ IsAll K F ss vs := by
  unfold sqOf at e
  split at e
  · cases e
    obtain ⟨a, vs, rfl, h1, h2⟩ := sqT_at at0 h
    exact ⟨a, vs, rfl, .inr h1, isAll_d h2⟩
  · obtain ⟨a, vs, rfl, h1, h2⟩ := rlOf_at at0 h e
    exact ⟨a, vs, rfl, .inl h1, h2⟩
abbrev gIx : W2 := fun p q M R => match q with
  | .d (.int i) => ∃ ss r, sqOf M p = some ss ∧ atI ss i = some r ∧ R r M
  | _ => False
theorem gIx_to {p q : Sl} {M : Mem} {R : RK} (h : gIx p q M R) : ∃ i ss r, q = .i i ∧ sqOf M p = some ss ∧ atI ss i = some r ∧ R r M := by
  unfold gIx at h
  split at h
  · obtain ⟨ss, r, h1, h2, h3⟩ := h
    exact ⟨_, ss, r, rfl, h1, h2, h3⟩
  · exact h.elim
theorem pd_ix (ha : PD X a wa) (hb : PD X b wb) (hs : PlainIx b := by exact fun _ _ => rfl) : PD X (.Subscript a b pos) (wOp gIx wa wb) := by
  refine pe_imp (pe_ix (ix_list.or ix_tup) ha hb hs) fun st H Q h => tD_op (fun F H M x y p q R Q at0 h1 h2 h3 po => ?_) h
  obtain ⟨i, ss, r, rfl, e1, e2, hR⟩ := gIx_to h3
  obtain ⟨a, vs, rfl, hsq, hall⟩ := sqOf_at at0 h1 e1
  obtain ⟨v, g1, g2⟩ := atI_all hall e2
  have hq := po v F H r M hR (Go.refl at0) g2
  rcases hsq with hsq | hsq
  · exact .inl ⟨a, vs, i, v, rfl, dq_int h2, hsq, g1, hq⟩
  · exact .inr ⟨a, vs, i, v, rfl, dq_int h2, hsq, g1, hq⟩

/-- a part of a slice -/
abbrev WO := Env' → Mem → (Option Int → Mem → Prop) → Prop
def PoO (K : PySem.W.Frag) (F : Hp) (M : Mem) (H : Hp) (R : Option Int → Mem → Prop) (Q : Option Int → Hp → Prop) : Prop := ∀ o F' H' M', R o M' → Go K F M H F' M' H' → Q o H'
def tDO (K : PySem.W.Frag) (w : WO) : TO := fun st H Q => ∃ F dl M R, SOk K F dl st ∧ At K F M H ∧ w dl M R ∧ PoO K F M H R Q
def PDO (X : Cx) (e : Option Expr) (w : WO) : Prop := PO X e (tDO X.K w)
abbrev wNoPart : WO := fun _ M R => R none M
abbrev wPart (wa : WE) : WO := fun dl M R => wa dl M fun r M1 => match r with
  | .d (.int i) => R (some i) M1
  | _ => False
theorem po_imp {e : Option Expr} {t u : TO} (h : PO X e t) (i : ∀ st H Q, u st H Q → t st H Q) : PO X e u := ⟨fun pins s st H Q I q => h.run pins s st H Q I (i st H Q q)⟩
theorem pdo_none : PDO X none wNoPart := po_imp po_none fun st H Q ⟨F, dl, M, R, so, at0, hw, po⟩ => po none F H M hw (Go.refl at0)
theorem pdo_some {e : Expr} (h : PD X e wa) : PDO X (some e) (wPart wa) := by
  refine po_imp (po_some h) fun st H Q ⟨F, dl, M, R, so, at0, hw, po⟩ => ?_
  refine tD_to so at0 hw fun x F1 H1 r M1 h1 e1 so1 at1 i1 => ?_
  split at h1
  · exact ⟨_, dq_int i1, po _ F1 H1 M1 h1 e1⟩
  · exact h1.elim
def cutA {A : Type} (xs : List A) (lo hi : Option Int) : List A := (xs.drop (HT.sIx xs.length 0 lo)).take (HT.sIx xs.length xs.length hi - HT.sIx xs.length 0 lo)
theorem cut_all {K : PySem.W.Frag} {F : Hp} {ss : List Sl} {vs : List V} {lo hi : Option Int} (h : IsAll K F ss vs) : IsAll K F (cutA ss lo hi) (cutV vs lo hi) := by
  unfold cutA cutV
  rw [h.length]
  exact (h.drop _).take _
theorem cut_map {A B : Type} (f : A → B) (xs : List A) (lo hi : Option Int) : cutA (xs.map f) lo hi = (cutA xs lo hi).map f := by
  unfold cutA
  rw [List.length_map, List.map_take, List.map_drop]
/-- s[lo:hi]: a list's to a new datum -/
abbrev wSl (g : Sl → Option Int → Option Int → Mem → RK → Prop) (wa : WE) (wl wh : WO) : WE := fun dl M R => wa dl M fun r M1 => wl dl M1 fun l M2 => wh dl M2 fun h M3 => g r l h M3 R
abbrev gSl : Sl → Option Int → Option Int → Mem → RK → Prop := fun r lo hi M R => match r with
  | .d (.tuple ds) => R (.d (.tuple (cutA ds lo hi))) M
  | r => ∃ ss ds, rlOf M r = some ss ∧ datOf (cutA ss lo hi) = some ds ∧ R (.d (.list ds)) M
abbrev gSlM : Sl → Option Int → Option Int → Mem → RK → Prop := fun r lo hi M R => ∃ ss, rlOf M r = some ss ∧ ∀ p, M p = none → R (.v (.ref p)) (upM M p (.lst (cutA ss lo hi)))
end
end DL

set_option Elab.async false
set_option linter.all false
set_option maxRecDepth 100000
set_option maxHeartbeats 4000000
/-! DC: slices, truth, tests, built-in calls by data. -/
namespace DL
open PySem L2
open Evl (Ex)
section
variable {X : Cx} {a b c : Expr} {wa wb wc : WE} {pos : Pos}
theorem cutA_whole {A : Type} (xs : List A) (lo hi : Option Int) (h : HT.sIx xs.length 0 lo = 0 ∧ HT.sIx xs.length xs.length hi = xs.length) : cutA xs lo hi = xs := by
  unfold cutA
  rw [h.1, h.2, List.drop_zero, Nat.sub_zero, List.take_length]
theorem dqAll_cut {K : PySem.W.Frag} {F : Hp} {ds : List PyData} {vs : List V} {lo hi : Option Int} (h : DqAll K F vs ds) : DqAll K F (cutV vs lo hi) (cutA ds lo hi) := by
  have := cut_all (lo := lo) (hi := hi) (isAll_d h)
  rw [cut_map] at this
  exact dqAll_of this
/-- a cut makes a plain tuple, or is the whole of it -/
def rSlF (K : PySem.W.Frag) : V → Option Int → Option Int → Hp → VK → Prop := fun x lo hi H Q => ∃ a xs, x = .ref a ∧ SqT K H a xs ∧ (HT.sIx xs.length 0 lo = 0 ∧ HT.sIx xs.length xs.length hi = xs.length → Q (.ref a) H) ∧
  (¬ (HT.sIx xs.length 0 lo = 0 ∧ HT.sIx xs.length xs.length hi = xs.length) → ∀ p o, o.dict = none → H p = none → Q (.ref p) (upd H p (.frz o (.tup (cutV xs lo hi)))))
theorem sl_tupF : SlR X (rSlF X.K) := by
  intro pins s st H x v vl vu lo hi sl Q I rx hs pl pu ⟨a, xs, ex, hx, q1, q2⟩
  subst ex
  by_cases hw : HT.sIx xs.length 0 lo = 0 ∧ HT.sIx xs.length xs.length hi = xs.length
  · exact sl_tupA pins s st H _ v vl vu lo hi sl Q I rx hs pl pu ⟨a, xs, rfl, hx, q1, fun z => absurd hw z⟩
  · cases rx
    obtain ⟨us, r, ht, hz⟩ := I.tuple hx
    have hl : us.toArray.size = xs.length := (List.size_toArray ..).trans r.length.symm
    refine ⟨"tuple", _, PyProof.Rows.slot_tuple_getitem.lookup, ht.typeIs, HT.getItem_tuple_cut ht hs pl pu (hl.symm ▸ hw) ?_ (hl.symm ▸ hz)⟩
    rw [hl]
    have r2 := (r.drop (HT.sIx xs.length 0 lo)).take (HT.sIx xs.length xs.length hi - HT.sIx xs.length 0 lo)
    generalize (us.drop (HT.sIx xs.length 0 lo)).take (HT.sIx xs.length xs.length hi - HT.sIx xs.length 0 lo) = cut at r2 ⊢
    let ob : Obj := { cls := .type "tuple", data := .seq cut.toArray }
    have got : (s.heap.push ob).get? s.heap.objs.size = some ob := Heap.get?_push_size _ rfl
    have J : Inv X pins st (upd H s.heap.objs.size (.frz ob (.tup (cutV xs lo hi)))) { s with heap := s.heap.push ob } := I.laid (t' := s.toks) (fun _ _ e => Heap.get?_push_of_some _ e) (Nat.le_refl _) ⟨got, Nat.le_trans (cutV_length xs lo hi) hz, cut, r2, ob, got, rfl, _, rfl⟩
    exact ⟨.ref s.heap.objs.size, _, J, rfl, q2 hw _ ob rfl (I.hok.fresh (Nat.le_refl _))⟩
theorem pd_slice {lo hi : Option Expr} {wl wh : WO} {p2 : Pos} (ha : PD X a wa) (hl : PDO X lo wl) (hh : PDO X hi wh) : PD X (.Subscript a (.Slice lo hi none p2) pos) (wSl gSl wa wl wh) := by
  refine pe_imp (pe_slice (sl_list.or sl_tupF) ha hl hh) fun st H Q ⟨F, dl, M, R, so, at0, hw, po⟩ => ?_
  refine tD_to so at0 hw fun x F1 H1 r M1 h1 e1 so1 at1 i1 => ?_
  refine ⟨F1, dl, M1, _, so1, at1, h1, fun l F2 H2 M2 h2 e2 => ?_⟩
  refine ⟨F2, dl, M2, _, sok_mono e2.ex so1, e2.at', h2, fun h F3 H3 M3 h3 e3 => ?_⟩
  have at3 := e3.at'
  have i3 := is_mono (e2.trans e3).ex i1
  have po3 := po.mono ((e1.trans e2).trans e3)
  unfold gSl at h3
  split at h3
  · obtain ⟨c, vs, rfl, q1, q2⟩ := sqT_at at3 i3
    refine .inr ⟨c, vs, rfl, q1, fun hwh => ?_, fun _ p o ho hp => po_dat at3 po3 hp h3 fun F' e hh => .tup (.inl ⟨o, hh, ho⟩) (dqAll_mono e (dqAll_cut q2))⟩
    have hwh' := hwh
    rw [dqAll_len q2] at hwh'
    rw [cutA_whole _ _ _ hwh'] at h3
    exact po3 _ F3 H3 _ M3 h3 (Go.refl at3) i3
  · obtain ⟨ss, ds, g1, g2, hR⟩ := h3
    obtain ⟨c, vs, rfl, q1, q2⟩ := rlOf_at at3 i3 g1
    have q3 := cut_all (lo := l) (hi := h) q2
    rw [datOf_eq g2] at q3
    exact .inl ⟨c, vs, rfl, q1, fun p hp => po_dat at3 po3 hp hR fun F' e hh => .lst hh (dqAll_mono e (dqAll_of q3))⟩
theorem pd_sliceM {lo hi : Option Expr} {wl wh : WO} {p2 : Pos} (ha : PD X a wa) (hl : PDO X lo wl) (hh : PDO X hi wh) : PD X (.Subscript a (.Slice lo hi none p2) pos) (wSl gSlM wa wl wh) := by
  refine pe_imp (pe_slice sl_list ha hl hh) fun st H Q ⟨F, dl, M, R, so, at0, hw, po⟩ => ?_
  refine tD_to so at0 hw fun x F1 H1 r M1 h1 e1 so1 at1 i1 => ?_
  refine ⟨F1, dl, M1, _, so1, at1, h1, fun l F2 H2 M2 h2 e2 => ?_⟩
  refine ⟨F2, dl, M2, _, sok_mono e2.ex so1, e2.at', h2, fun h F3 H3 M3 h3 e3 => ?_⟩
  have at3 := e3.at'
  have i3 := is_mono (e2.trans e3).ex i1
  have po3 := po.mono ((e1.trans e2).trans e3)
  obtain ⟨ss, g1, hR⟩ := h3
  obtain ⟨c, vs, rfl, q1, q2⟩ := rlOf_at at3 i3 g1
  exact ⟨c, vs, rfl, q1, fun p hp => po_lst at3 po3 hp (cut_all q2) hR⟩

/-! ### truth -/
def tru (M : Mem) : Sl → Option Bool
  | .d .none => some false
  | .d (.bool b) => some b
  | .d (.int i) => some (i != 0)
  | .d (.str s) => if s.length ≤ sizeLine then some ((s.length : Int) != 0) else none
  | .d (.list ds) => some (!ds.isEmpty)
  | .d (.tuple ds) => some (!ds.isEmpty)
  | .d (.dict _) => none
  | .v (.ref p) => match M p with
    | some (.lst ss) => some (!ss.isEmpty)
    | some (.dic ks) => some (!ks.isEmpty)
    | some (.lok _ _ _) => none
    | none => none
  | .v _ => none
  | .r ns => some (!ns.isEmpty)
  | .w ds => some (!ds.isEmpty)
theorem all2_isEmpty {A B : Type} {R : A → B → Prop} {as : List A} {bs : List B} (h : All2 R as bs) : as.isEmpty = bs.isEmpty := by cases h <;> rfl
theorem dqAll_isEmpty {K : PySem.W.Frag} {F : Hp} {ds : List PyData} {vs : List V} (h : DqAll K F vs ds) : ds.isEmpty = vs.isEmpty := by cases h <;> rfl
theorem tru_at {K : PySem.W.Frag} {F H : Hp} {M : Mem} (at0 : At K F M H) : ∀ {r : Sl} {v : V} {k : Bool}, Is K F r v → tru M r = some k → TruV K v H k
  | .d .none, _, _, h, e => by cases e; cases h; exact rfl
  | .d (.bool b), _, _, h, e => by cases e; cases h; exact rfl
  | .d (.int b), _, _, h, e => by cases e; cases h; exact rfl
  | .d (.str s), _, _, h, e => by
    cases h
    simp only [tru] at e
    split at e
    · rename_i hz; cases e; exact ⟨hz, rfl⟩
    · cases e
  | .d (.list ds), _, _, h, e => by
    cases e
    cases h with
    | lst h1 h2 => exact .inl ⟨_, SqL.of (at0.ex _ _ h1), by rw [dqAll_isEmpty h2]⟩
  | .d (.tuple ds), _, _, h, e => by
    cases e
    cases h with
    | tup h1 h2 => exact .inr (.inl ⟨_, Evl.ex_t at0.ex h1.sq, by rw [dqAll_isEmpty h2]⟩)
  | .d (.dict _), _, _, _, e => by cases e
  | .r ns, _, _, ⟨a, h1, h2⟩, e => by
    cases e
    subst h1
    exact .inl ⟨_, ex_l at0.ex h2, by cases ns <;> rfl⟩
  | .w ds, _, _, ⟨a, vs, h1, h2, h3⟩, e => by
    cases e
    subst h1
    exact .inr (.inl ⟨_, Evl.ex_t at0.ex h2, by rw [dqAll_isEmpty h3]⟩)
  | .v (.ref p), v, k, h, e => by
    have h' : v = .ref p := h
    subst h'
    simp only [tru] at e
    split at e
    · rename_i ss q
      cases e
      obtain ⟨_, vs, h1, h2⟩ := at0.mem p _ q
      exact .inl ⟨_, SqL.of h1, by rw [all2_isEmpty h2]⟩
    · rename_i ks q
      cases e
      obtain ⟨_, vs, h1, h2⟩ := at0.mem p _ q
      exact .inr (.inr ⟨_, h1, by rw [all2_isEmpty h2]⟩)
    · cases e
    · cases e
abbrev wOr (wa wb : WE) : WE := fun dl M R => wa dl M fun r M1 => ∃ k, tru M1 r = some k ∧ if k = true then R r M1 else wb dl M1 R
abbrev wAnd (wa wb : WE) : WE := fun dl M R => wa dl M fun r M1 => ∃ k, tru M1 r = some k ∧ if k = true then wb dl M1 R else R r M1
abbrev wNot (wa : WE) : WE := fun dl M R => wa dl M fun r M1 => ∃ k, tru M1 r = some k ∧ R (.b (!k)) M1
theorem pd_one {op : BoolOp} (h : PD X a wa) : PD X (.BoolOp op [a] pos) wa := pe_one h
theorem pd_or {rest : List Expr} (ha : PD X a wa) (hb : PD X (.BoolOp .Or (b :: rest) pos) wb) : PD X (.BoolOp .Or (a :: b :: rest) pos) (wOr wa wb) := by
  refine pe_imp (pe_orT ha hb) fun st H Q ⟨F, dl, M, R, so, at0, hw, po⟩ => ?_
  refine tD_to so at0 hw fun x F1 H1 r M1 h1 e1 so1 at1 i1 => ?_
  obtain ⟨k, hk, h1⟩ := h1
  refine ⟨k, tru_at at1 i1 hk, ?_⟩
  cases k with
  | true => exact po _ F1 H1 _ M1 h1 e1 i1
  | false => exact tD_to so1 at1 h1 fun x F2 H2 r M2 h2 e2 so2 at2 i2 => po _ F2 H2 _ M2 h2 (e1.trans e2) i2
theorem pd_and {rest : List Expr} (ha : PD X a wa) (hb : PD X (.BoolOp .And (b :: rest) pos) wb) : PD X (.BoolOp .And (a :: b :: rest) pos) (wAnd wa wb) := by
  refine pe_imp (pe_andT ha hb) fun st H Q ⟨F, dl, M, R, so, at0, hw, po⟩ => ?_
  refine tD_to so at0 hw fun x F1 H1 r M1 h1 e1 so1 at1 i1 => ?_
  obtain ⟨k, hk, h1⟩ := h1
  refine ⟨k, tru_at at1 i1 hk, ?_⟩
  cases k with
  | false => exact po _ F1 H1 _ M1 h1 e1 i1
  | true => exact tD_to so1 at1 h1 fun x F2 H2 r M2 h2 e2 so2 at2 i2 => po _ F2 H2 _ M2 h2 (e1.trans e2) i2
theorem pd_not (ha : PD X a wa) : PD X (.UnaryOp .Not a pos) (wNot wa) := by
  refine pe_imp (pe_notT ha) fun st H Q ⟨F, dl, M, R, so, at0, hw, po⟩ => ?_
  refine tD_to so at0 hw fun x F1 H1 r M1 h1 e1 so1 at1 i1 => ?_
  obtain ⟨k, hk, h1⟩ := h1
  exact ⟨k, tru_at at1 i1 hk, po _ F1 H1 _ M1 h1 e1 (.bl _)⟩

/-! ### tests -/
/-- an expression's truth -/
abbrev wTru (wa : WE) : WT := fun dl M R => wa dl M fun r M1 => ∃ k, tru M1 r = some k ∧ R k M1
theorem pdt_tru (ha : PD X a wa) (he : ∀ whole, isTrue a X.env whole = (do let v ← whole; standAt a.pos; holding [v] (truthy v)) := by intro _; rfl) : PDT X a (wTru wa) := by
  refine pt_imp (pt_truth ha he) fun st H Q ⟨F, dl, M, R, so, at0, hw, po⟩ => ?_
  refine tD_to so at0 hw fun x F1 H1 r M1 h1 e1 so1 at1 i1 => ?_
  obtain ⟨k, hk, h1⟩ := h1
  exact ⟨k, tru_at at1 i1 hk, po k F1 H1 M1 h1 e1⟩
/-- a comparison -/
abbrev wBl (wa : WE) : WT := fun dl M R => wa dl M fun r M1 => match r with
  | .d (.bool k) => R k M1
  | _ => False
theorem pdt_cmp {op : CmpOp} {g : W2} (ho : OpD X (compareOp op) g) (ha : PD X a wa) (hb : PD X b wb) (hm : behindInMarks op b = false) : PDT X (.Compare a [op] [b] pos) (wBl (wOp g wa wb)) := by
  obtain ⟨r, h1, h2⟩ := ho
  refine pt_imp (pt_cmpR h1 ha hb hm) fun st H Q ⟨F, dl, M, R, so, at0, hw, po⟩ => ?_
  refine tD_op h2 (Q := fun x H' => ∃ k, x = V.bl k ∧ Q k H') ⟨F, dl, M, _, so, at0, hw, fun v F' H' r M' hr e i1 => ?_⟩
  split at hr
  · exact ⟨_, dq_bl i1, po _ F' H' M' hr e⟩
  · exact hr.elim
abbrev wTNot (w : WT) : WT := fun dl M R => w dl M fun k M1 => R (!k) M1
abbrev wTAnd (w u : WT) : WT := fun dl M R => w dl M fun k M1 => if k = true then u dl M1 R else R false M1
abbrev wTOr (w u : WT) : WT := fun dl M R => w dl M fun k M1 => if k = true then R true M1 else u dl M1 R
theorem pdt_not {w : WT} (h : PDT X a w) : PDT X (.UnaryOp .Not a pos) (wTNot w) := by
  refine pt_imp (pt_not h) fun st H Q ⟨F, dl, M, R, so, at0, hw, po⟩ => ?_
  exact tDT_to so at0 hw fun k F1 H1 M1 h1 e1 so1 at1 => po _ F1 H1 M1 h1 e1
def PDW (X : Cx) (e : Expr) (w : WT) : Prop := PW X e (tDT X.K w)
theorem pw_imp {e : Expr} {t u : TT} (h : PW X e t) (i : ∀ st H Q, u st H Q → t st H Q) : PW X e u := ⟨fun wh pins s st H Q I q => h.run wh pins s st H Q I (i st H Q q)⟩
theorem PDW.t {e : Expr} {w : WT} (h : PDW X e w) : PDT X e w := PW.pt h
theorem pdw_and1 {w : WT} (h : PDT X a w) : PDW X (.BoolOp .And [a] pos) w := pw_and1 h
theorem pdw_or1 {w : WT} (h : PDT X a w) : PDW X (.BoolOp .Or [a] pos) w := pw_or1 h
theorem pdw_and {w u : WT} {rest : List Expr} (h : PDT X a w) (k : PDW X (.BoolOp .And (b :: rest) pos) u) : PDW X (.BoolOp .And (a :: b :: rest) pos) (wTAnd w u) := by
  refine pw_imp (pw_and h k) fun st H Q ⟨F, dl, M, R, so, at0, hw, po⟩ => ?_
  refine tDT_to so at0 hw fun k F1 H1 M1 h1 e1 so1 at1 => ?_
  cases k with
  | false => exact po _ F1 H1 M1 h1 e1
  | true => exact tDT_to so1 at1 h1 fun k F2 H2 M2 h2 e2 so2 at2 => po _ F2 H2 M2 h2 (e1.trans e2)
theorem pdw_or {w u : WT} {rest : List Expr} (h : PDT X a w) (k : PDW X (.BoolOp .Or (b :: rest) pos) u) : PDW X (.BoolOp .Or (a :: b :: rest) pos) (wTOr w u) := by
  refine pw_imp (pw_or h k) fun st H Q ⟨F, dl, M, R, so, at0, hw, po⟩ => ?_
  refine tDT_to so at0 hw fun k F1 H1 M1 h1 e1 so1 at1 => ?_
  cases k with
  | true => exact po _ F1 H1 M1 h1 e1
  | false => exact tDT_to so1 at1 h1 fun k F2 H2 M2 h2 e2 so2 at2 => po _ F2 H2 M2 h2 (e1.trans e2)
/-- a if t else b -/
abbrev wIf (w : WT) (wa wb : WE) : WE := fun dl M R => w dl M fun k M1 => if k = true then wa dl M1 R else wb dl M1 R
theorem pd_if {w : WT} (h : PDT X c w) (ha : PD X a wa) (hb : PD X b wb) : PD X (.IfExp c a b pos) (wIf w wa wb) := by
  refine pe_imp (pe_ifExp h ha hb) fun st H Q ⟨F, dl, M, R, so, at0, hw, po⟩ => ?_
  refine tDT_to so at0 hw fun k F1 H1 M1 h1 e1 so1 at1 => ?_
  cases k with
  | true => exact tD_to so1 at1 h1 fun x F2 H2 r M2 h2 e2 so2 at2 i2 => po _ F2 H2 _ M2 h2 (e1.trans e2) i2
  | false => exact tD_to so1 at1 h1 fun x F2 H2 r M2 h2 e2 so2 at2 i2 => po _ F2 H2 _ M2 h2 (e1.trans e2) i2
/-- a < b < c -/
abbrev wChain (g g' : W2) (wa wb wc : WE) : WE := fun dl M R => wa dl M fun p M1 => wb dl M1 fun q M2 => g p q M2 fun z M3 => match z with
  | .d (.bool k) => if k = true then wc dl M3 fun r M4 => g' q r M4 R else R (.b false) M3
  | _ => False
end

/-! ### calls of built-in functions and types -/
abbrev WCl := List Sl → Mem → RK → Prop
def CaD (X : Cx) (f : Value) (g : WCl) : Prop := ∃ r : List V → Hp → VK → Prop, CallR X f r ∧ ∀ (F H : Hp) (M : Mem) (vs : List V) (rs : List Sl) (R : RK) (Q : VK), At X.K F M H → IsAll X.K F rs vs → g rs M R → Po X.K F M H R Q → r vs H Q
def rAnyC (X : Cx) (f : Value) : List V → Hp → VK → Prop := fun vs H Q => ∃ r, CallR X f r ∧ r vs H Q
theorem callR_any {X : Cx} {f : Value} : CallR X f (rAnyC X f) := fun pins s st H vs us Q I rv ⟨_, ho, h⟩ => ho pins s st H vs us Q I rv h
theorem caD_of {X : Cx} {f : Value} {g : WCl} (h : ∀ (F H : Hp) (M : Mem) (vs : List V) (rs : List Sl) (R : RK) (Q : VK), At X.K F M H → IsAll X.K F rs vs → g rs M R → Po X.K F M H R Q → rAnyC X f vs H Q) : CaD X f g := ⟨rAnyC X f, callR_any, h⟩
abbrev wCall (g : WCl) (wa : WA) : WE := fun dl M R => wa dl M fun rs M1 => g rs M1 R
section
variable {X : Cx} {x : Str} {p pos : Pos} {e : Expr} {es : List Expr} {wa : WA} {id T : String} {g : WCl}
theorem tD_call {K : PySem.W.Frag} {r : List V → Hp → VK → Prop} {g : WCl} (hr : ∀ (F H : Hp) (M : Mem) (vs : List V) (rs : List Sl) (R : RK) (Q : VK), At K F M H → IsAll K F rs vs → g rs M R → Po K F M H R Q → r vs H Q) {st : St} {H : Hp} {Q : VK}
    (h : tD K (wCall g wa) st H Q) : tCB r (tDA K wa) st H Q := by
  obtain ⟨F, dl, M, R, so, at0, hw, po⟩ := h
  exact tDA_to so at0 hw fun vs F1 H1 rs M1 h1 e1 so1 at1 i1 => hr F1 H1 M1 vs rs R Q at1 i1 h1 (po.mono e1)
theorem pd_callB (hc : CaD X (.builtin id) g) (hg : Gl X x) (hm : X.mg x = none) (hv : bootBuiltins x = some (.builtin id)) (ha : PDA X (e :: es) wa) (hn : x ≠ "__name__" := by decide) (hdb : (x == ("__debug__" : Str)) = false := by decide)
    (he : starEach (e :: es) X.env = (false, eval e X.env) :: starEach es X.env := by rfl) (hpl : (backTo pos (starEach es X.env)).any (·.1) = false := by rfl) : PD X (.Call (.Name x p) (e :: es) [] pos) (wCall g wa) := by
  obtain ⟨r, h1, h2⟩ := hc
  exact pe_imp (pe_callB h1 hg hm hv ha hn hdb he hpl) fun st H Q h => tD_call h2 h
theorem pd_callT (hc : CaD X (.type T) g) (hg : Gl X x) (hm : X.mg x = none) (hv : bootBuiltins x = some (.type T)) (ha : PDA X (e :: es) wa) (hn : x ≠ "__name__" := by decide) (hdb : (x == ("__debug__" : Str)) = false := by decide)
    (he : starEach (e :: es) X.env = (false, eval e X.env) :: starEach es X.env := by rfl) (hpl : (backTo pos (starEach es X.env)).any (·.1) = false := by rfl) : PD X (.Call (.Name x p) (e :: es) [] pos) (wCall g wa) := by
  obtain ⟨r, h1, h2⟩ := hc
  exact pe_imp (pe_callTy h1 hg hm hv ha hn hdb he hpl) fun st H Q h => tD_call h2 h

theorem isAll1 {K : PySem.W.Frag} {F : Hp} {r : Sl} {vs : List V} (h : IsAll K F [r] vs) : ∃ v, vs = [v] ∧ Is K F r v := by
  cases h with
  | cons h t => cases t; exact ⟨_, rfl, h⟩
theorem isAll2 {K : PySem.W.Frag} {F : Hp} {r q : Sl} {vs : List V} (h : IsAll K F [r, q] vs) : ∃ v u, vs = [v, u] ∧ Is K F r v ∧ Is K F q u := by
  cases h with
  | cons h t => obtain ⟨u, rfl, h2⟩ := isAll1 t; exact ⟨_, _, rfl, h, h2⟩
/-- one argument -/
abbrev g1 (g : Sl → Mem → RK → Prop) : WCl := fun rs M R => match rs with
  | [r] => g r M R
  | _ => False
theorem ca1 {f : Value} {g : Sl → Mem → RK → Prop} (h : ∀ (F H : Hp) (M : Mem) (v : V) (r : Sl) (R : RK) (Q : VK), At X.K F M H → Is X.K F r v → g r M R → Po X.K F M H R Q → rAnyC X f [v] H Q) : CaD X f (g1 g) :=
  caD_of fun F H M vs rs R Q at0 i1 h1 po => by
    unfold g1 at h1
    split at h1
    · obtain ⟨v, rfl, i2⟩ := isAll1 i1
      exact h F H M v _ R Q at0 i2 h1 po
    · exact h1.elim
abbrev gAbs : Sl → Mem → RK → Prop := fun r M R => match r with
  | .d (.int i) => R (.i (if i < 0 then -i else i)) M
  | _ => False
theorem c_abs : CaD X (.builtin "abs") (g1 gAbs) := ca1 fun F H M v r R Q at0 i1 h1 po => by
  unfold gAbs at h1
  split at h1
  · exact ⟨_, call_abs, _, by rw [dq_int i1], po _ F H _ M h1 (Go.refl at0) (.int _)⟩
  · exact h1.elim
abbrev gInt : Sl → Mem → RK → Prop := fun r M R => match r with
  | .d (.int i) => R (.i i) M
  | .d (.bool k) => R (.i (if k then 1 else 0)) M
  | _ => False
theorem c_int : CaD X (.type "int") (g1 gInt) := ca1 fun F H M v r R Q at0 i1 h1 po => by
  unfold gInt at h1
  split at h1
  · exact ⟨_, call_int1, .inl ⟨_, by rw [dq_int i1], po _ F H _ M h1 (Go.refl at0) (.int _)⟩⟩
  · exact ⟨_, call_int1, .inr ⟨_, by rw [dq_bl i1], po _ F H _ M h1 (Go.refl at0) (.int _)⟩⟩
  · exact h1.elim
/-- how many items -/
def lenOf (M : Mem) (r : Sl) : Option Nat := (sqOf M r).map (·.length)
abbrev gLen : Sl → Mem → RK → Prop := fun r M R => ∃ ss, sqOf M r = some ss ∧ R (.i (ss.length : Int)) M
theorem c_len : CaD X (.builtin "len") (g1 gLen) := ca1 fun F H M v r R Q at0 i1 h1 po => by
  obtain ⟨ss, e, hR⟩ := h1
  obtain ⟨a, vs, rfl, hsq, hall⟩ := sqOf_at at0 i1 e
  exact ⟨_, call_len_seq, a, vs, rfl, hsq, po _ F H _ M hR (Go.refl at0) (by rw [hall.length]; exact .int _)⟩
abbrev gLenS : Sl → Mem → RK → Prop := fun r M R => match r with
  | .d (.str s) => s.length ≤ sizeLine ∧ R (.i (s.length : Int)) M
  | _ => False
theorem c_lenS : CaD X (.builtin "len") (g1 gLenS) := ca1 fun F H M v r R Q at0 i1 h1 po => by
  unfold gLenS at h1
  split at h1
  · exact ⟨_, call_len_str, _, by rw [dq_str i1], h1.1, po _ F H _ M h1.2 (Go.refl at0) (.int _)⟩
  · exact h1.elim
/-- list(s) to a datum, to what may change; tuple(s) -/
abbrev gList : Sl → Mem → RK → Prop := fun r M R => ∃ ss ds, sqOf M r = some ss ∧ datOf ss = some ds ∧ R (.d (.list ds)) M
abbrev gListM : Sl → Mem → RK → Prop := fun r M R => ∃ ss, sqOf M r = some ss ∧ ∀ p, M p = none → R (.v (.ref p)) (upM M p (.lst ss))
def sqOf' (M : Mem) : Sl → Option (List Sl)
  | .d (.tuple ds) => some (ds.map Sl.d)
  | r => lsOf M r
theorem sqOf'_at {K : PySem.W.Frag} {F H : Hp} {M : Mem} (at0 : At K F M H) {r : Sl} {v : V} {ss : List Sl} (h : Is K F r v) (e : sqOf' M r = some ss) : ∃ a vs, v = .ref a ∧ (SqL K H a vs ∨ SqT K H a vs) ∧ IsAll K F ss vs := by
  unfold sqOf' at e
  split at e
  · cases e
    obtain ⟨a, vs, rfl, h1, h2⟩ := sqT_at at0 h
    exact ⟨a, vs, rfl, .inr h1, isAll_d h2⟩
  · obtain ⟨a, vs, rfl, h1, h2⟩ := lsOf_at at0 h e
    exact ⟨a, vs, rfl, .inl (SqL.of h1), h2⟩
abbrev gTuple : Sl → Mem → RK → Prop := fun r M R => ∃ ss ds, sqOf' M r = some ss ∧ datOf ss = some ds ∧ R (.d (.tuple ds)) M
theorem c_list : CaD X (.type "list") (g1 gList) := ca1 fun F H M v r R Q at0 i1 h1 po => by
  obtain ⟨ss, ds, e, ed, hR⟩ := h1
  obtain ⟨a, vs, rfl, hsq, hall⟩ := sqOf_at at0 i1 e
  rw [datOf_eq ed] at hall
  exact ⟨_, call_list_of, a, vs, rfl, hsq, fun l hl => po_dat at0 po hl hR fun F' e h => .lst h (dqAll_mono e (dqAll_of hall))⟩
theorem c_listM : CaD X (.type "list") (g1 gListM) := ca1 fun F H M v r R Q at0 i1 h1 po => by
  obtain ⟨ss, e, hR⟩ := h1
  obtain ⟨a, vs, rfl, hsq, hall⟩ := sqOf_at at0 i1 e
  exact ⟨_, call_list_of, a, vs, rfl, hsq, fun l hl => po_lst at0 po hl hall hR⟩
/-- tuple(a list) makes a plain tuple -/
theorem call_tupF {X : Cx} : CallR X (.type "tuple") (fun xs H Q => ∃ p ys, xs = [.ref p] ∧ SqL X.K H p ys ∧ ∀ l o, o.dict = none → H l = none → Q (.ref l) (upd H l (.frz o (.tup ys)))) := by
  intro pins s st H xs us Q I r ⟨p, ys, ex, hq, q⟩
  subst ex
  obtain ⟨u, eu, rx⟩ := vals1 r
  subst eu
  cases rx
  obtain ⟨ws, r2, pl, hz⟩ := I.list hq
  have hl := r2.length
  refine call_tuple_list pl.isList (fun h2 kp => ?_) (by rw [List.size_toArray]; omega)
  have I1 : Inv X pins st H { s with heap := h2 } := I.kept (t' := s.toks) kp
  let ob : Obj := { cls := .type "tuple", data := .seq ws.toArray }
  have got : (h2.push ob).get? h2.objs.size = some ob := Heap.get?_push_size _ rfl
  have J : Inv X pins st (upd H h2.objs.size (.frz ob (.tup ys))) { s with heap := h2.push ob } := I1.laid (t' := s.toks) (fun _ _ e => Heap.get?_push_of_some _ e) (Nat.le_refl _) ⟨got, hz, ws, r2, ob, got, rfl, _, rfl⟩
  exact ⟨.ref h2.objs.size, _, J, rfl, q _ ob rfl (I1.hok.fresh (Nat.le_refl _))⟩
theorem c_tuple : CaD X (.type "tuple") (g1 gTuple) := ca1 fun F H M v r R Q at0 i1 h1 po => by
  obtain ⟨ss, ds, e, ed, hR⟩ := h1
  unfold sqOf' at e
  split at e
  · cases e
    obtain ⟨a, vs, rfl, hsq, _⟩ := sqT_at at0 i1
    rw [datOf_map] at ed
    cases ed
    exact ⟨_, call_tupleT, a, vs, rfl, hsq, po _ F H _ M hR (Go.refl at0) i1⟩
  · obtain ⟨b, us, rfl, q1, q2⟩ := lsOf_at at0 i1 e
    rw [datOf_eq ed] at q2
    exact ⟨_, call_tupF, b, us, rfl, SqL.of q1, fun l o ho hl => po_dat at0 po hl hR fun F' e h => .tup (.inl ⟨o, h, ho⟩) (dqAll_mono e (dqAll_of q2))⟩
end
end DL

set_option Elab.async false
set_option linter.all false
set_option maxRecDepth 100000
set_option maxHeartbeats 4000000
/-! DD: targets, statements, loops, comprehensions by data. -/
namespace DL
open PySem L2
open Evl (Ex)

/-! ### targets -/
abbrev NK := Env' → Mem → Prop
abbrev WG := Sl → Env' → Mem → NK → Prop
abbrev WGs := List Sl → Env' → Mem → NK → Prop
def tDG (K : PySem.W.Frag) (w : WG) : TG := fun v st H Q => ∃ F dl M r R, SOk K F dl st ∧ At K F M H ∧ Is K F r v ∧ w r dl M R ∧ PoN K F M H R Q
def tDGs (K : PySem.W.Frag) (w : WGs) : TGs := fun vs st H Q => ∃ F dl M rs R, SOk K F dl st ∧ At K F M H ∧ IsAll K F rs vs ∧ w rs dl M R ∧ PoN K F M H R Q
def PDG (X : Cx) (tg : Expr) (w : WG) : Prop := PG X tg (tDG X.K w)
def PDGs (X : Cx) (ts : List Expr) (w : WGs) : Prop := PGs X ts (tDGs X.K w)
section
variable {X : Cx} {pos : Pos}
theorem pg_imp {e : Expr} {t u : TG} (h : PG X e t) (i : ∀ v st H Q, u v st H Q → t v st H Q) : PG X e u := ⟨fun pins s st H v w Q I r q => h.run pins s st H v w Q I r (i v st H Q q)⟩
theorem pgs_imp {e : List Expr} {t u : TGs} (h : PGs X e t) (i : ∀ v st H Q, u v st H Q → t v st H Q) : PGs X e u := ⟨fun pins s st H v w Q I r q => h.run pins s st H v w Q I r (i v st H Q q)⟩
def gN (i : Nat) : WG := fun r dl M R => R (dl.set i (some r)) M
theorem sok_set {K : PySem.W.Frag} {F : Hp} {dl : Env'} {st : St} {i : Nat} {r : Sl} {v : V} (so : SOk K F dl st) (h : Is K F r v) : SOk K F (dl.set i (some r)) (st.set i (some v)) := All2.set (R := SIs K F) (a := some r) (b := some v) (show SIs K F (some r) (some v) from ⟨v, rfl, h⟩) i so
theorem pdg_name (i : Nat) {x : Str} (hN : X.N.Nodup) (hi : X.N[i]? = some x := by rfl) (hx : Loc X.env.scope x := by first | exact .inl rfl | exact .inr rfl) (hf : X.fn x = true ∨ X.env.scope.names.lookup x = some .local := by first | exact .inl rfl | exact .inr rfl | assumption) : PDG X (.Name x pos) (gN i) :=
  pg_imp (pg_name hN hi hx hf) fun v st H Q ⟨F, dl, M, r, R, so, at0, i1, hw, po⟩ => po _ F H _ M hw (Go.refl at0) (sok_set so i1)
abbrev gNil' : WGs := fun rs dl M R => match rs with
  | [] => R dl M
  | _ => False
abbrev gCons' (w : WG) (ws : WGs) : WGs := fun rs dl M R => match rs with
  | r :: rs => w r dl M fun dl1 M1 => ws rs dl1 M1 R
  | [] => False
theorem pdgs_nil : PDGs X [] gNil' := pgs_imp pgs_nil fun v st H Q ⟨F, dl, M, rs, R, so, at0, i1, hw, po⟩ => by
  unfold gNil' at hw
  split at hw
  · cases i1; exact ⟨rfl, po _ F H _ M hw (Go.refl at0) so⟩
  · exact hw.elim
theorem pdgs_cons {e : Expr} {es : List Expr} {w : WG} {ws : WGs} (h1 : PDG X e w) (h2 : PDGs X es ws) (hs : (assignEach (e :: es) X.env).map (·.2) = assign e X.env :: (assignEach es X.env).map (·.2) := by rfl) : PDGs X (e :: es) (gCons' w ws) :=
  pgs_imp (pgs_cons h1 h2 hs) fun v st H Q ⟨F, dl, M, rs, R, so, at0, i1, hw, po⟩ => by
    unfold gCons' at hw
    split at hw
    · cases i1 with
      | cons i1 it =>
        refine ⟨_, _, rfl, F, dl, M, _, _, so, at0, i1, hw, fun st1 F1 H1 dl1 M1 h1 g1 so1 => ?_⟩
        exact ⟨F1, dl1, M1, _, _, so1, g1.at', isAll_mono g1.ex it, h1, po.mono g1⟩
    · exact hw.elim
/-- (a, b, ..) = a tuple -/
def gTup' (n : Nat) (ws : WGs) : WG := fun r dl M R => match r with
  | .d (.tuple ds) => ds.length = n ∧ ws (ds.map Sl.d) dl M R
  | .w ds => ds.length = n ∧ ws (ds.map Sl.d) dl M R
  | _ => False
theorem pdg_tup {es : List Expr} {k n : Nat} {ws : WGs} (hc : X.calm = true) (h : PDGs X es ws) (hn : (assignEach es X.env).length = n := by rfl) (hst : (assignEach es X.env).findIdx? (·.1) = none := by rfl) : PDG X (.Tuple es k pos) (gTup' n ws) :=
  pg_imp (pg_tup hc h hn hst) fun v st H Q ⟨F, dl, M, r, R, so, at0, i1, hw, po⟩ => by
    unfold gTup' at hw
    split at hw
    · obtain ⟨a, vs, rfl, h1, h2⟩ := sqT_at at0 i1
      exact ⟨a, vs, rfl, h1, by rw [dqAll_len h2]; exact hw.1, F, dl, M, _, _, so, at0, isAll_d h2, hw.2, po⟩
    · obtain ⟨a, vs, rfl, h1, h2⟩ := i1
      exact ⟨a, vs, rfl, Evl.ex_t at0.ex h1, by rw [dqAll_len h2]; exact hw.1, F, dl, M, _, _, so, at0, isAll_d h2, hw.2, po⟩
    · exact hw.elim

/-! ### statements -/
abbrev wNext : WS := fun P dl M => P.nx dl M
abbrev wSeq (w u : WS) : WS := fun P dl M => w { P with nx := u P } dl M
theorem pdb_nil : PDB X [] wNext := pss_imp pss_nil fun D st H ⟨F, dl, M, P, so, at0, hw, po⟩ => po.nx _ F H _ M hw (Go.refl at0) so
theorem pdb_cons {s : Stmt} {rest : List Stmt} {w u : WS} (h1 : PDS X s w) (h2 : PDB X rest u) : PDB X (s :: rest) (wSeq w u) :=
  pss_imp (pss_cons h1 h2) fun D st H ⟨F, dl, M, P, so, at0, hw, po⟩ =>
    ⟨F, dl, M, _, so, at0, hw, ⟨fun st1 F1 H1 dl1 M1 k1 g1 so1 => ⟨F1, dl1, M1, P, so1, g1.at', k1, po.mono g1⟩, po.rt, po.bk, po.ct⟩⟩
theorem pdb_one {s : Stmt} {w : WS} (h1 : PDS X s w) : PDB X [s] w := pss_one h1
abbrev wAsg (we : WE) (wg : WG) : WS := fun P dl M => we dl M fun r M1 => wg r dl M1 P.nx
theorem tDS_asg {K : PySem.W.Frag} {we : WE} {wg : WG} {D : Ends} {st : St} {H : Hp} (h : tDS K (wAsg we wg) D st H) : tAsg (tD K we) (tDG K wg) D st H := by
  obtain ⟨F, dl, M, P, so, at0, hw, po⟩ := h
  exact tD_to so at0 hw fun v F1 H1 r M1 h1 g1 so1 at1 i1 => ⟨F1, dl, M1, r, _, so1, at1, i1, h1, po.nx.mono g1⟩
theorem pds_asg {tg e : Expr} {we : WE} {wg : WG} (he : PD X e we) (hg : PDG X tg wg) (hs : swapsWithSole [tg] e pos.line X.env = pure false := by rfl) (hw : swappedStores [tg] e X.env = pure none := by rfl)
    (h1 : (assignEach [tg] X.env).map (·.2) = [assign tg X.env] := by rfl) : PDS X (.Assign [tg] e pos) (wAsg we wg) := ps_imp (ps_asg he hg hs hw h1) fun D st H h => tDS_asg h
theorem pds_set (i : Nat) {x : Str} {e : Expr} {we : WE} {pos' : Pos} (hN : X.N.Nodup) (he : PD X e we) (hi : X.N[i]? = some x := by rfl) (hx : Loc X.env.scope x := by first | exact .inl rfl | exact .inr rfl) (hs : swapsWith e (some (.Name x pos')) pos.line X.env = pure false := by rfl)
    (hf : X.fn x = true ∨ X.env.scope.names.lookup x = some .local := by first | exact .inl rfl | exact .inr rfl | assumption) : PDS X (.Assign [.Name x pos'] e pos) (wAsg we (gN i)) :=
  ps_imp (ps_set hN hi hx he hs hf) fun D st H ⟨F, dl, M, P, so, at0, hw, po⟩ =>
    tD_to so at0 hw fun v F1 H1 r M1 h1 g1 so1 at1 i1 => po.nx _ F1 H1 _ M1 h1 g1 (sok_set so1 i1)
/-- a, b = x, y of two names -/
abbrev wPar (i j : Nat) (wa : WA) : WS := fun P dl M => wa dl M fun rs M1 => match rs with
  | [r, q] => P.nx ((dl.set i (some r)).set j (some q)) M1
  | _ => False
theorem pds_par (i j : Nat) {x y : Str} {a b : Expr} {wa : WA} {px py pt : Pos} {kt k2 pt2} (hc : X.calm = true) (hN : X.N.Nodup) (hij : i ≠ j) (ha : PDA X [a, b] wa) (hi : X.N[i]? = some x := by rfl) (hj : X.N[j]? = some y := by rfl)
    (hx : X.env.scope.names.lookup x = some .local := by rfl) (hy : X.env.scope.names.lookup y = some .local := by rfl)
    (hw : swappedStores [.Tuple [.Name x px, .Name y py] kt pt] (.Tuple [a, b] k2 pt2) X.env = pure (some [x, y]) := by rfl)
    (hs : swapsWithSole [.Tuple [.Name x px, .Name y py] kt pt] (.Tuple [a, b] k2 pt2) pos.line X.env = pure false := by rfl) : PDS X (.Assign [.Tuple [.Name x px, .Name y py] kt pt] (.Tuple [a, b] k2 pt2) pos) (wPar i j wa) :=
  ps_imp (ps_par hc hN hi hj hij hx hy ha hw hs) fun D st H ⟨F, dl, M, P, so, at0, hw, po⟩ =>
    tDA_to so at0 hw fun vs F1 H1 rs M1 h1 g1 so1 at1 i1 => by
      split at h1
      · obtain ⟨v, u, rfl, q1, q2⟩ := isAll2 i1
        exact ⟨v, u, rfl, po.nx _ F1 H1 _ M1 h1 g1 (sok_set (sok_set so1 q1) q2)⟩
      · exact h1.elim
abbrev wRet (we : WE) : WS := fun P dl M => we dl M P.rt
theorem pds_ret {e : Expr} {we : WE} (he : PD X e we) : PDS X (.Return (some e) pos) (wRet we) := ps_imp (ps_ret he) fun D st H ⟨F, dl, M, P, so, at0, hw, po⟩ => ⟨F, dl, M, _, so, at0, hw, po.rt⟩
abbrev wDrop (we : WE) : WS := fun P dl M => we dl M fun _ M1 => P.nx dl M1
theorem pds_expr {e : Expr} {we : WE} (he : PD X e we) (hs : swapsWith e none pos.line X.env = pure false := by rfl) : PDS X (.Expr e pos) (wDrop we) := ps_imp (ps_expr he hs) fun D st H ⟨F, dl, M, P, so, at0, hw, po⟩ =>
  tD_to so at0 hw fun v F1 H1 r M1 h1 g1 so1 at1 i1 => po.nx _ F1 H1 _ M1 h1 g1 so1
abbrev wIfS (c : WT) (w u : WS) : WS := fun P dl M => c dl M fun k M1 => if k = true then w P dl M1 else u P dl M1
theorem pds_if {c : Expr} {a b : List Stmt} {wc : WT} {w u : WS} (hc : PDT X c wc) (ha : PDB X a w) (hb : PDB X b u) : PDS X (.If c a b pos) (wIfS wc w u) := ps_imp (ps_if hc ha hb) fun D st H ⟨F, dl, M, P, so, at0, hw, po⟩ =>
  tDT_to so at0 hw fun k F1 H1 M1 h1 g1 so1 at1 => by
    cases k with
    | true => exact ⟨F1, dl, M1, P, so1, at1, h1, po.mono g1⟩
    | false => exact ⟨F1, dl, M1, P, so1, at1, h1, po.mono g1⟩
abbrev wPass : WS := fun P dl M => P.nx dl M
theorem pds_pass : PDS X (.Pass pos) wPass := ps_imp ps_pass fun D st H ⟨F, dl, M, P, so, at0, hw, po⟩ => po.nx _ F H _ M hw (Go.refl at0) so
abbrev wBreak : WS := fun P dl M => P.bk dl M
theorem pds_break : PDS X (.Break pos) wBreak := ps_imp ps_break fun D st H ⟨F, dl, M, P, so, at0, hw, po⟩ => po.bk _ F H _ M hw (Go.refl at0) so

/-! ### while: by so many turns at most -/
def whGo (c : WT) (wb : WS) (P : PK) : Nat → NK
  | 0 => fun _ _ => False
  | n + 1 => fun dl M => c dl M fun k M1 => if k = true then wb { nx := whGo c wb P n, rt := P.rt, bk := P.nx, ct := whGo c wb P n } dl M1 else P.nx dl M1
abbrev wWhile (c : WT) (wb : WS) : WS := fun P dl M => ∃ n, whGo c wb P n dl M
theorem pds_while {c : Expr} {body : List Stmt} {wc : WT} {wb : WS} (hp : PassesOwn (model X.prog X.w) X.A X.env X.xe) (hc : PDT X c wc) (hb : PDB X body wb) : PDS X (.While c body [] pos) (wWhile wc wb) :=
  ps_imp (ps_while hp hc hb) fun D st H ⟨F, dl, M, P, so, at0, ⟨n, hw⟩, po⟩ => by
    refine ⟨fun n st H => ∃ F dl M, SOk X.K F dl st ∧ At X.K F M H ∧ whGo wc wb P n dl M ∧ PoS X.K F M H P D, ⟨n, F, dl, M, so, at0, hw, po⟩, ?_⟩
    rintro n st H ⟨F, dl, M, so, at0, hw, po⟩
    cases n with
    | zero => exact hw.elim
    | succ n =>
      refine tDT_to so at0 hw fun k F1 H1 M1 h1 g1 so1 at1 => ?_
      cases k with
      | false => exact po.nx _ F1 H1 _ M1 h1 g1 so1
      | true =>
        have po1 := po.mono g1
        refine ⟨fun st H => ∃ F dl M, SOk X.K F dl st ∧ At X.K F M H ∧ whGo wc wb P n dl M ∧ PoS X.K F M H P D, fun st' H' q => ⟨n, Nat.lt_succ_self n, q⟩, F1, dl, M1, _, so1, at1, h1, ?_⟩
        exact ⟨fun st2 F2 H2 dl2 M2 k2 g2 so2 => ⟨F2, dl2, M2, so2, g2.at', k2, po1.mono g2⟩, po1.rt, po1.nx, fun st2 F2 H2 dl2 M2 k2 g2 so2 => ⟨F2, dl2, M2, so2, g2.at', k2, po1.mono g2⟩⟩

/-! ### what is walked: its items, while C stays true of the memory -/
structure Wk (K : PySem.W.Frag) (F0 : Hp) (C : Mem → Prop) (J : It) (items : List Sl) : Prop where
  go : ∀ F M H i, Ex F0 F → At K F M H → C M → i < items.length → J.go i H
  yld : ∀ F M H i x H' r, Ex F0 F → At K F M H → C M → J.yld i H x H' → items[i]? = some r → ∃ F', Go K F M H F' M H' ∧ Is K F' r x
  stop : ∀ F M H, Ex F0 F → At K F M H → C M → J.stop items.length H
abbrev IK := List Sl → (Mem → Prop) → Mem → Prop
abbrev WI := Env' → Mem → IK → Prop
def tDI (K : PySem.W.Frag) (w : WI) : TI := fun st H R => ∃ F dl M T, SOk K F dl st ∧ At K F M H ∧ w dl M T ∧ ∀ F' M' H' items C J, T items C M' → Go K F M H F' M' H' → Wk K F' C J items → R J H'
def PDI (X : Cx) (tg iter : Expr) (w : WI) : Prop := PI X tg iter (tDI X.K w)
theorem pi_imp {tg e : Expr} {t u : TI} (h : PI X tg e t) (i : ∀ st H Q, u st H Q → t st H Q) : PI X tg e u := ⟨fun pins s st H Q I q => h.run pins s st H Q I (i st H Q q)⟩
abbrev C0 : Mem → Prop := fun _ => True
/-- over a list or a tuple that is a datum -/
abbrev wiD (we : WE) : WI := fun dl M T => we dl M fun r M1 => match r with
  | .d (.list ds) => T (ds.map Sl.d) C0 M1
  | .d (.tuple ds) => T (ds.map Sl.d) C0 M1
  | _ => False
theorem wk_list {K : PySem.W.Frag} {F0 : Hp} {a : Addr} {ss : List Sl} {vs : List V} {C : Mem → Prop} (h : ∀ F M H, Ex F0 F → At K F M H → C M → ∃ vs, SqL K H a vs ∧ IsAll K F ss vs) : Wk K F0 C (Itl K a) ss := by
  refine ⟨fun F M H i e at0 c hi => ?_, fun F M H i x H' r e at0 c y hr => ?_, fun F M H e at0 c => ?_⟩
  · obtain ⟨vs, q1, q2⟩ := h F M H e at0 c
    exact ⟨vs, vs[i]'(by rw [← q2.length]; exact hi), q1, by simp [List.getElem?_eq_getElem (by rw [← q2.length]; exact hi : i < vs.length)]⟩
  · obtain ⟨vs, q1, q2⟩ := h F M H e at0 c
    obtain ⟨rfl, y⟩ := y
    obtain ⟨v, h1, h2⟩ := q2.get hr
    have := y vs q1
    rw [h1] at this
    cases this
    exact ⟨F, Go.refl at0, h2⟩
  · obtain ⟨vs, q1, q2⟩ := h F M H e at0 c
    exact ⟨vs, q1, by rw [q2.length]; exact Nat.le_refl _⟩
theorem wk_tup {K : PySem.W.Frag} {F0 : Hp} {a : Addr} {ss : List Sl} {C : Mem → Prop} (h : ∀ F M H, Ex F0 F → At K F M H → C M → ∃ vs, SqT K H a vs ∧ IsAll K F ss vs) : Wk K F0 C (Itt K a) ss := by
  refine ⟨fun F M H i e at0 c hi => ?_, fun F M H i x H' r e at0 c y hr => ?_, fun F M H e at0 c => ?_⟩
  · obtain ⟨vs, q1, q2⟩ := h F M H e at0 c
    exact ⟨vs, vs[i]'(by rw [← q2.length]; exact hi), q1, by simp [List.getElem?_eq_getElem (by rw [← q2.length]; exact hi : i < vs.length)]⟩
  · obtain ⟨vs, q1, q2⟩ := h F M H e at0 c
    obtain ⟨rfl, y⟩ := y
    obtain ⟨v, h1, h2⟩ := q2.get hr
    have := y vs q1
    rw [h1] at this
    cases this
    exact ⟨F, Go.refl at0, h2⟩
  · obtain ⟨vs, q1, q2⟩ := h F M H e at0 c
    exact ⟨vs, q1, by rw [q2.length]; exact Nat.le_refl _⟩
/-- the list's address, the tuple's: two rules (the form is chosen by what the value is) -/
abbrev wiL (we : WE) : WI := fun dl M T => we dl M fun r M1 => match r with
  | .d (.list ds) => T (ds.map Sl.d) C0 M1
  | .v (.ref p) => ∃ ss, M1 p = some (.lst ss) ∧ T ss (fun M => M p = some (.lst ss)) M1
  | _ => False
abbrev wiT (we : WE) : WI := fun dl M T => we dl M fun r M1 => match r with
  | .d (.tuple ds) => T (ds.map Sl.d) C0 M1
  | _ => False
theorem pdi_list {tg e : Expr} {we : WE} (he : PD X e we) : PDI X tg e (wiL we) :=
  pi_imp (pi_list he) fun st H Q ⟨F, dl, M, T, so, at0, hw, po⟩ =>
    tD_to so at0 hw fun v F1 H1 r M1 h1 g1 so1 at1 i1 => by
      split at h1
      · cases i1 with
        | lst q1 q2 =>
          refine ⟨_, rfl, ⟨_, SqL.of (at1.ex _ _ q1)⟩, po F1 M1 H1 _ _ _ h1 g1 (wk_list (vs := []) fun F' M' H' e at' _ => ⟨_, SqL.of (at'.ex _ _ (e _ _ q1)), isAll_mono e (isAll_d q2)⟩)⟩
      · rename_i p
        have i2 : v = .ref p := i1
        subst i2
        obtain ⟨ss, q0, h1⟩ := h1
        obtain ⟨_, vs, q1, q2⟩ := at1.mem p _ q0
        refine ⟨p, rfl, ⟨vs, SqL.of q1⟩, po F1 M1 H1 _ _ _ h1 g1 (wk_list (vs := []) fun F' M' H' e at' c => ?_)⟩
        obtain ⟨_, us, z1, z2⟩ := at'.mem p _ c
        exact ⟨us, SqL.of z1, z2⟩
      · exact h1.elim
theorem pdi_tup {tg e : Expr} {we : WE} (he : PD X e we) : PDI X tg e (wiT we) :=
  pi_imp (pi_tup he) fun st H Q ⟨F, dl, M, T, so, at0, hw, po⟩ =>
    tD_to so at0 hw fun v F1 H1 r M1 h1 g1 so1 at1 i1 => by
      split at h1
      · obtain ⟨a, vs, rfl, q1, q2⟩ := sqT_at at1 i1
        refine ⟨a, rfl, ⟨vs, q1⟩, po F1 M1 H1 _ _ _ h1 g1 (wk_tup fun F' M' H' e at' _ => ?_)⟩
        obtain ⟨b, us, e2, z1, z2⟩ := sqT_at at' (dq_mono e i1)
        cases e2
        exact ⟨us, z1, isAll_d z2⟩
      · exact h1.elim
/-- range(n), range(m, n) -/
def rngS (lo : Int) (n : Nat) : List Sl := (List.range n).map fun (i : Nat) => Sl.i (lo + (i : Int))
theorem wk_range {K : PySem.W.Frag} {F0 : Hp} {lo : Int} {n : Nat} : Wk K F0 C0 (Itr lo n) (rngS lo n) := by
  have hl : (rngS lo n).length = n := by unfold rngS; rw [List.length_map, List.length_range]
  refine ⟨fun F M H i e at0 c hi => ?_, fun F M H i x H' r e at0 c y hr => ?_, fun F M H e at0 c => ?_⟩
  · rw [hl] at hi; exact hi
  · obtain ⟨rfl, rfl⟩ := y
    unfold rngS at hr
    rw [List.getElem?_map] at hr
    obtain ⟨j, hj, rfl⟩ := Option.map_eq_some_iff.mp hr
    obtain ⟨hi, hj⟩ := List.getElem?_eq_some_iff.mp hj
    rw [List.getElem_range] at hj
    subst hj
    exact ⟨F, Go.refl at0, .int _⟩
  · show n ≤ (rngS lo n).length
    rw [hl]; exact Nat.le_refl _
abbrev wiR1 (wa : WA) : WI := fun dl M T => wa dl M fun rs M1 => match rs with
  | [.d (.int n)] => -(2 ^ 62) ≤ n ∧ n < 2 ^ 62 ∧ T (rngS 0 n.toNat) C0 M1
  | _ => False
abbrev wiR2 (wa : WA) : WI := fun dl M T => wa dl M fun rs M1 => match rs with
  | [.d (.int m), .d (.int n)] => (-(2 ^ 62) ≤ m ∧ m < 2 ^ 62 ∧ -(2 ^ 62) ≤ n ∧ n < 2 ^ 62) ∧ T (rngS m (n - m).toNat) C0 M1
  | _ => False
theorem pdi_range1 {tg e : Expr} {wa : WA} {p pos : Pos} (hg : Gl X "range") (hm : X.mg "range" = none) (ha : PDA X [e] wa) (hs : starEach [e] X.env = [(false, eval e X.env)] := by rfl) : PDI X tg (.Call (.Name "range" p) [e] [] pos) (wiR1 wa) :=
  pi_imp (pi_range1 hg hm ha hs) fun st H Q ⟨F, dl, M, T, so, at0, hw, po⟩ =>
    tDA_to so at0 hw fun vs F1 H1 rs M1 h1 g1 so1 at1 i1 => by
      split at h1
      · obtain ⟨v, rfl, i2⟩ := isAll1 i1
        exact ⟨_, by rw [dq_int i2], h1.1, h1.2.1, po F1 M1 H1 _ _ _ h1.2.2 g1 wk_range⟩
      · exact h1.elim
theorem pdi_range2 {tg e e2 : Expr} {wa : WA} {p pos : Pos} (hg : Gl X "range") (hm : X.mg "range" = none) (ha : PDA X [e, e2] wa) (hs : starEach [e, e2] X.env = [(false, eval e X.env), (false, eval e2 X.env)] := by rfl) (hs2 : starEach [e2] X.env = [(false, eval e2 X.env)] := by rfl) : PDI X tg (.Call (.Name "range" p) [e, e2] [] pos) (wiR2 wa) :=
  pi_imp (pi_range2 hg hm ha hs hs2) fun st H Q ⟨F, dl, M, T, so, at0, hw, po⟩ =>
    tDA_to so at0 hw fun vs F1 H1 rs M1 h1 g1 so1 at1 i1 => by
      split at h1
      · obtain ⟨v, u, rfl, i2, i3⟩ := isAll2 i1
        exact ⟨_, _, by rw [dq_int i2, dq_int i3], h1.1, po F1 M1 H1 _ _ _ h1.2 g1 wk_range⟩
      · exact h1.elim

/-! ### for -/
def forGo (g : WG) (wb : WS) (C : Mem → Prop) (P : PK) : List Sl → NK
  | [] => fun dl M => C M ∧ P.nx dl M
  | x :: xs => fun dl M => C M ∧ g x dl M fun dl2 M2 => wb { nx := forGo g wb C P xs, rt := P.rt, bk := P.nx, ct := forGo g wb C P xs } dl2 M2
abbrev wFor (wi : WI) (g : WG) (wb : WS) : WS := fun P dl M => wi dl M fun items C M1 => forGo g wb C P items dl M1
theorem forGo_C {g : WG} {wb : WS} {C : Mem → Prop} {P : PK} : ∀ {xs : List Sl} {dl : Env'} {M : Mem}, forGo g wb C P xs dl M → C M
  | [], _, _, h => h.1
  | _ :: _, _, _, h => h.1
theorem pds_for {tg iter : Expr} {body : List Stmt} {wi : WI} {g : WG} {wb : WS} (hp : PassesOwn (model X.prog X.w) X.A X.env X.xe) (hc : X.calm = true) (hi : PDI X tg iter wi) (hg : PDG X tg g) (hb : PDB X body wb)
    (hs : ∀ x, foldedSetIterable iter X.env x = pure x := by intro _; rfl) : PDS X (.For tg iter body [] pos) (wFor wi g wb) :=
  ps_imp (ps_for hp hc hi hg hb hs) fun D st H ⟨F, dl, M, P, so, at0, hw, po⟩ => by
    refine ⟨F, dl, M, _, so, at0, hw, fun F1 M1 H1 items C J h1 g1 wk => ?_⟩
    refine ⟨fun i m st H => m = items.length - i ∧ i ≤ items.length ∧ ∃ F dl M, Ex F1 F ∧ SOk X.K F dl st ∧ At X.K F M H ∧ forGo g wb C P (items.drop i) dl M ∧ PoS X.K F M H P D,
      ⟨_, rfl, Nat.zero_le _, F1, dl, M1, Ex.refl _, sok_mono g1.ex so, g1.at', h1, po.mono g1⟩, ?_⟩
    rintro i m st H ⟨rfl, hi, F, dl, M, e, so, at0, hw, po⟩
    have c := forGo_C hw
    by_cases hlt : i < items.length
    · refine .inr ⟨wk.go F M H i e at0 c hlt, fun st' H' => i + 1 ≤ items.length ∧ ∃ F dl M, Ex F1 F ∧ SOk X.K F dl st' ∧ At X.K F M H' ∧ forGo g wb C P (items.drop (i + 1)) dl M ∧ PoS X.K F M H' P D, fun st' H' q => ⟨_, by omega, rfl, q⟩, fun x H' y => ?_⟩
      have hx : items[i]? = some items[i] := List.getElem?_eq_getElem hlt
      obtain ⟨F2, g2, i2⟩ := wk.yld F M H i x H' _ e at0 c y hx
      rw [List.drop_eq_getElem_cons hlt] at hw
      obtain ⟨_, hw⟩ := hw
      refine ⟨F2, dl, M, _, _, sok_mono g2.ex so, g2.at', i2, hw, fun st3 F3 H3 dl3 M3 h3 g3 so3 => ?_⟩
      have po3 := po.mono (g2.trans g3)
      have e3 := e.trans (g2.ex.trans g3.ex)
      exact ⟨F3, dl3, M3, _, so3, g3.at', h3, ⟨fun st4 F4 H4 dl4 M4 h4 g4 so4 => ⟨hlt, F4, dl4, M4, e3.trans g4.ex, so4, g4.at', h4, po3.mono g4⟩, po3.rt, po3.nx, fun st4 F4 H4 dl4 M4 h4 g4 so4 => ⟨hlt, F4, dl4, M4, e3.trans g4.ex, so4, g4.at', h4, po3.mono g4⟩⟩⟩
    · have ei : i = items.length := by omega
      subst ei
      rw [List.drop_length] at hw
      exact .inl ⟨wk.stop F M H e at0 c, po.nx _ F H _ M hw.2 (Go.refl at0) so⟩
end
end DL

set_option Elab.async false
set_option linter.all false
set_option maxRecDepth 100000
set_option maxHeartbeats 4000000
/-! DE: comprehensions, defs and their promises. -/
namespace DL
open PySem PySem.Spec L2
open PyProof.Rows (envOfC)
open Evl (Ex)

/-! ### targets of a comprehension: only its own slots change -/
def tDGw (K : PySem.W.Frag) (vs : List Nat) (w : WG) : TG := fun v st H Q => ∃ F dl M r R, SOk K F dl st ∧ At K F M H ∧ Is K F r v ∧ w r dl M R ∧ ∀ st' F' H' dl' M', R dl' M' → Go K F M H F' M' H' → SOk K F' dl' st' → wipe st' vs = wipe st vs → Q st' H'
def tDGsw (K : PySem.W.Frag) (vs : List Nat) (w : WGs) : TGs := fun v st H Q => ∃ F dl M rs R, SOk K F dl st ∧ At K F M H ∧ IsAll K F rs v ∧ w rs dl M R ∧ ∀ st' F' H' dl' M', R dl' M' → Go K F M H F' M' H' → SOk K F' dl' st' → wipe st' vs = wipe st vs → Q st' H'
def PDGw (X : Cx) (vs : List Nat) (tg : Expr) (w : WG) : Prop := PG X tg (tDGw X.K vs w)
def PDGsw (X : Cx) (vs : List Nat) (ts : List Expr) (w : WGs) : Prop := PGs X ts (tDGsw X.K vs w)
theorem wipe_get (st : St) (i : Nat) : ∀ vs : List Nat, (wipe st vs)[i]? = if i ∈ vs then st[i]?.map (fun _ => none) else st[i]?
  | [] => by simp [wipe]
  | v :: vs => by
    unfold wipe
    have ih := wipe_get st i vs
    by_cases hv : v = i
    · subst hv
      rw [if_pos List.mem_cons_self]
      by_cases hl : v < st.length
      · rw [List.getElem?_set_self (by rw [wipe_length]; exact hl), List.getElem?_eq_getElem hl]; rfl
      · rw [List.getElem?_eq_none (by rw [List.length_set, wipe_length]; omega), List.getElem?_eq_none (by omega)]; rfl
    · rw [List.getElem?_set_ne hv, ih]
      by_cases hm : i ∈ vs
      · rw [if_pos hm, if_pos (List.mem_cons_of_mem _ hm)]
      · rw [if_neg hm, if_neg (fun z => by rcases List.mem_cons.mp z with z | z; exact hv z.symm; exact hm z)]
theorem wipe_set (st : St) (o : Option V) (i : Nat) (vs : List Nat) (h : i ∈ vs) : wipe (st.set i o) vs = wipe st vs := by
  apply List.ext_getElem?
  intro j
  rw [wipe_get, wipe_get]
  by_cases hj : i = j
  · subst hj
    rw [if_pos h, if_pos h]
    by_cases hl : i < st.length
    · rw [List.getElem?_set_self hl, List.getElem?_eq_getElem hl]; rfl
    · rw [List.getElem?_eq_none (by rw [List.length_set]; omega), List.getElem?_eq_none (by omega)]
  · rw [List.getElem?_set_ne hj]
theorem wipe_wipe (st : St) (vs : List Nat) : wipe (wipe st vs) vs = wipe st vs := by
  apply List.ext_getElem?
  intro j
  rw [wipe_get, wipe_get]
  by_cases hj : j ∈ vs
  · rw [if_pos hj, if_pos hj]
    cases st[j]? <;> rfl
  · rw [if_neg hj]
section
variable {X : Cx} {pos : Pos} {vs : List Nat}
theorem pdgw_name (i : Nat) {x : Str} (hN : X.N.Nodup) (hv : i ∈ vs := by decide) (hi : X.N[i]? = some x := by rfl) (hx : Loc X.env.scope x := by first | exact .inl rfl | exact .inr rfl) (hf : X.fn x = true ∨ X.env.scope.names.lookup x = some .local := by first | exact .inl rfl | exact .inr rfl | assumption) : PDGw X vs (.Name x pos) (gN i) :=
  pg_imp (pg_name hN hi hx hf) fun v st H Q ⟨F, dl, M, r, R, so, at0, i1, hw, po⟩ => po _ F H _ M hw (Go.refl at0) (sok_set so i1) (wipe_set st _ i vs hv)
theorem pdgsw_nil : PDGsw X vs [] gNil' := pgs_imp pgs_nil fun v st H Q ⟨F, dl, M, rs, R, so, at0, i1, hw, po⟩ => by
  unfold gNil' at hw
  split at hw
  · cases i1; exact ⟨rfl, po _ F H _ M hw (Go.refl at0) so rfl⟩
  · exact hw.elim
theorem pdgsw_cons {e : Expr} {es : List Expr} {w : WG} {ws : WGs} (h1 : PDGw X vs e w) (h2 : PDGsw X vs es ws) (hs : (assignEach (e :: es) X.env).map (·.2) = assign e X.env :: (assignEach es X.env).map (·.2) := by rfl) : PDGsw X vs (e :: es) (gCons' w ws) :=
  pgs_imp (pgs_cons h1 h2 hs) fun v st H Q ⟨F, dl, M, rs, R, so, at0, i1, hw, po⟩ => by
    unfold gCons' at hw
    split at hw
    · cases i1 with
      | cons i1 it =>
        refine ⟨_, _, rfl, F, dl, M, _, _, so, at0, i1, hw, fun st1 F1 H1 dl1 M1 h1 g1 so1 w1 => ?_⟩
        exact ⟨F1, dl1, M1, _, _, so1, g1.at', isAll_mono g1.ex it, h1, fun st2 F2 H2 dl2 M2 h2 g2 so2 w2 => po st2 F2 H2 dl2 M2 h2 (g1.trans g2) so2 (w2.trans w1)⟩
    · exact hw.elim
theorem pdgw_tup {es : List Expr} {k n : Nat} {ws : WGs} (hc : X.calm = true) (h : PDGsw X vs es ws) (hn : (assignEach es X.env).length = n := by rfl) (hst : (assignEach es X.env).findIdx? (·.1) = none := by rfl) : PDGw X vs (.Tuple es k pos) (gTup' n ws) :=
  pg_imp (pg_tup hc h hn hst) fun v st H Q ⟨F, dl, M, r, R, so, at0, i1, hw, po⟩ => by
    unfold gTup' at hw
    split at hw
    · obtain ⟨a, us, rfl, h1, h2⟩ := sqT_at at0 i1
      exact ⟨a, us, rfl, h1, by rw [dqAll_len h2]; exact hw.1, F, dl, M, _, _, so, at0, isAll_d h2, hw.2, po⟩
    · obtain ⟨a, us, rfl, h1, h2⟩ := i1
      exact ⟨a, us, rfl, Evl.ex_t at0.ex h1, by rw [dqAll_len h2]; exact hw.1, F, dl, M, _, _, so, at0, isAll_d h2, hw.2, po⟩
    · exact hw.elim

/-! ### [e for t in it if c] -/
def lcGo (g : WG) (wt : WT) (we : WE) (C : Mem → Prop) (dl : Env') (R : List Sl → Mem → Prop) : List Sl → List Sl → Mem → Prop
  | [], acc, M => C M ∧ R acc M
  | x :: xs, acc, M => C M ∧ g x dl M fun dl2 M2 => wt dl2 M2 fun k M3 => if k = true then we dl2 M3 fun y M4 => acc.length < sizeLine ∧ lcGo g wt we C dl R xs (acc ++ [y]) M4 else lcGo g wt we C dl R xs acc M3
theorem lcGo_C {g : WG} {wt : WT} {we : WE} {C : Mem → Prop} {dl : Env'} {R : List Sl → Mem → Prop} : ∀ {xs acc : List Sl} {M : Mem}, lcGo g wt we C dl R xs acc M → C M
  | [], _, _, h => h.1
  | _ :: _, _, _, h => h.1
def wipeD (dl : Env') : List Nat → Env'
  | [] => dl
  | v :: vs => (wipeD dl vs).set v none
theorem sok_wipe {K : PySem.W.Frag} {F : Hp} {dl : Env'} {st : St} (so : SOk K F dl st) : ∀ vs : List Nat, SOk K F (wipeD dl vs) (wipe st vs)
  | [] => so
  | v :: vs => All2.set (R := SIs K F) (a := none) (b := none) trivial v (sok_wipe so vs)
/-- the comprehension to a datum, to a list that may change -/
abbrev wLc (wi : WI) (g : WG) (wt : WT) (we : WE) (vs : List Nat) : WE := fun dl M R => wi dl M fun items C M1 => lcGo g wt we C (wipeD dl vs) (fun acc M2 => ∃ ds, datOf acc = some ds ∧ R (.d (.list ds)) M2) items [] M1
abbrev wLcM (wi : WI) (g : WG) (wt : WT) (we : WE) (vs : List Nat) : WE := fun dl M R => wi dl M fun items C M1 => lcGo g wt we C (wipeD dl vs) (fun acc M2 => ∀ p, M2 p = none → R (.v (.ref p)) (upM M2 p (.lst acc))) items [] M1
/-- what is at an address that nothing speaks of does not matter -/
theorem At.hid {K : PySem.W.Frag} {F H : Hp} {M : Mem} {p : Addr} {o : HO} (h : At K F M H) (f : F p = none) (m : M p = none) : At K F M (upd H p o) := by
  refine ⟨fun b u z => ?_, fun b u z => ?_⟩
  · rw [upd_ne (ne_of_none z f)]; exact h.ex b u z
  · obtain ⟨q1, q2⟩ := h.mem b u z
    exact ⟨q1, mis_mono (Ex.refl F) (by rw [upd_ne (neM z m)]) q2⟩
structure LcW (K : PySem.W.Frag) (F0 : Hp) (M0 : Mem) (H0 : Hp) (p : Addr) (F : Hp) (M : Mem) (H : Hp) (acc : List Sl) : Prop where
  go : Go K F0 M0 H0 F M H
  f : F p = none
  m : M p = none
  h : ∃ vs, H p = some (.lst vs) ∧ IsAll K F acc vs
theorem LcW.step {K : PySem.W.Frag} {F0 H0 F H F1 H1 : Hp} {M0 M M1 : Mem} {p : Addr} {acc : List Sl} (l : LcW K F0 M0 H0 p F M H acc) (g : Go K F M H F1 M1 H1) : LcW K F0 M0 H0 p F1 M1 H1 acc := by
  obtain ⟨vs, h1, h2⟩ := l.h
  obtain ⟨q1, q2, q3⟩ := g.fr p _ h1 l.f l.m
  exact ⟨l.go.trans g, q2, q3, vs, q1, isAll_mono g.ex h2⟩
theorem lc_run {K : PySem.W.Frag} {g : WG} {wt : WT} {we : WE} {C : Mem → Prop} {dl : Env'} {vs : List Nat} {st : St} {R : List Sl → Mem → Prop} {F1 H1 : Hp} {M1 : Mem} {items : List Sl} {J : It} {Q : VK} {p : Addr} (so : SOk K F1 dl st) (at1 : At K F1 M1 H1) (wk : Wk K F1 C J items) (hp : H1 p = none)
    (h : lcGo g wt we C (wipeD dl vs) R items [] M1) (hQ : ∀ F M H acc, R acc M → LcW K F1 M1 H1 p F M H acc → Q (.ref p) H) :
    ∃ W : Nat → Nat → Hp → Prop, (∃ m, W 0 m (upd H1 p (.lst []))) ∧ ∀ i m H, W i m H →
      (J.stop i H ∧ Q (.ref p) H) ∨ (J.go i H ∧ ∃ Nx : Hp → Prop, (∀ H', Nx H' → ∃ m', m' < m ∧ W (i + 1) m' H') ∧ ∀ x H', J.yld i H x H' → tDGw K vs g x (wipe st vs) H' fun st2 H2 => wipe st2 vs = wipe st vs ∧ tDT K wt st2 H2 fun k H3 =>
        if k = true then tD K we st2 H3 fun y H4 => ∃ acc, H4 p = some (.lst acc) ∧ acc.length < sizeLine ∧ Nx (upd H4 p (.lst (acc ++ [y]))) else Nx H3) := by
  have f1 := at1.freeF hp
  have m1 := at1.freeM hp
  refine ⟨fun i m H => m = items.length - i ∧ i ≤ items.length ∧ ∃ F M acc, LcW K F1 M1 H1 p F M H acc ∧ lcGo g wt we C (wipeD dl vs) R (items.drop i) acc M,
    ⟨_, rfl, Nat.zero_le _, F1, M1, [], ⟨⟨Ex.refl _, at1.hid f1 m1, fun a o h1 h2 h3 => ⟨by rw [upd_ne (ne_of_none h1 hp)]; exact h1, h2, h3⟩⟩, f1, m1, [], upd_same, .nil⟩, h⟩, ?_⟩
  rintro i m H ⟨rfl, hi, F, M, acc, l, hw⟩
  have c := lcGo_C hw
  have at0 := l.go.at'
  by_cases hlt : i < items.length
  · refine .inr ⟨wk.go F M H i l.go.ex at0 c hlt, fun H' => i + 1 ≤ items.length ∧ ∃ F M acc, LcW K F1 M1 H1 p F M H' acc ∧ lcGo g wt we C (wipeD dl vs) R (items.drop (i + 1)) acc M, fun H' q => ⟨_, by omega, rfl, q⟩, fun x H' y => ?_⟩
    obtain ⟨F2, g2, i2⟩ := wk.yld F M H i x H' _ l.go.ex at0 c y (List.getElem?_eq_getElem hlt)
    rw [List.drop_eq_getElem_cons hlt] at hw
    obtain ⟨_, hw⟩ := hw
    have l2 := l.step g2
    refine ⟨F2, wipeD dl vs, M, _, _, sok_wipe (sok_mono l2.go.ex so) vs, g2.at', i2, hw, fun st3 F3 H3 dl3 M3 h3 g3 so3 w3 => ⟨?_, ?_⟩⟩
    · rw [w3]; exact wipe_wipe st vs
    · have l3 := l2.step g3
      refine tDT_to so3 g3.at' h3 fun k F4 H4 M4 h4 g4 so4 at4 => ?_
      have l4 := l3.step g4
      cases k with
      | false => exact ⟨hlt, F4, M4, acc, l4, h4⟩
      | true =>
        refine tD_to so4 at4 h4 fun y F5 H5 r M5 h5 g5 so5 at5 i5 => ?_
        have l5 := l4.step g5
        obtain ⟨us, q1, q2⟩ := l5.h
        refine ⟨us, q1, by rw [← q2.length]; exact h5.1, hlt, F5, M5, acc ++ [r], ⟨⟨l5.go.ex, l5.go.at'.hid l5.f l5.m, fun a o z1 z2 z3 => ?_⟩, l5.f, l5.m, us ++ [y], upd_same, q2.append (.cons i5 .nil)⟩, h5.2⟩
        obtain ⟨w1, w2, w3⟩ := l5.go.fr a o z1 z2 z3
        exact ⟨by rw [upd_ne (ne_of_none z1 hp)]; exact w1, w2, w3⟩
  · have ei : i = items.length := by omega
    subst ei
    rw [List.drop_length] at hw
    exact .inl ⟨wk.stop F M H l.go.ex at0 c, hQ F M H acc hw.2 l⟩
theorem LcW.dat {K : PySem.W.Frag} {F0 H0 F H : Hp} {M0 M : Mem} {p : Addr} {acc : List Sl} {ds : List PyData} (l : LcW K F0 M0 H0 p F M H acc) (hp : H0 p = none) (e : datOf acc = some ds) : ∃ F', Go K F0 M0 H0 F' M H ∧ Dq K F' (.ref p) (.list ds) := by
  obtain ⟨vs, q1, q2⟩ := l.h
  rw [datOf_eq e] at q2
  have e1 : Ex F (upd F p (.lst vs)) := Ex.new l.f
  refine ⟨upd F p (.lst vs), ⟨l.go.ex.trans e1, ⟨fun b u z => ?_, fun b u z => ?_⟩, fun b u h1 h2 h3 => ?_⟩, .lst upd_same (dqAll_mono e1 (dqAll_of q2))⟩
  · by_cases hb : b = p
    · subst hb; rw [upd_same] at z; cases z; exact q1
    · rw [upd_ne hb] at z; exact l.go.at'.ex b u z
  · have hb : b ≠ p := neM z l.m
    obtain ⟨r1, r2⟩ := l.go.at'.mem b u z
    exact ⟨by rw [upd_ne hb]; exact r1, mis_mono e1 rfl r2⟩
  · obtain ⟨w1, w2, w3⟩ := l.go.fr b u h1 h2 h3
    exact ⟨w1, by rw [upd_ne (ne_of_none h1 hp)]; exact w2, w3⟩
theorem LcW.mem {K : PySem.W.Frag} {F0 H0 F H : Hp} {M0 M : Mem} {p : Addr} {acc : List Sl} (l : LcW K F0 M0 H0 p F M H acc) (hp : H0 p = none) : Go K F0 M0 H0 F (upM M p (.lst acc)) H := by
  obtain ⟨vs, q1, q2⟩ := l.h
  refine ⟨l.go.ex, ⟨l.go.at'.ex, fun b u z => ?_⟩, fun b u h1 h2 h3 => ?_⟩
  · by_cases hb : b = p
    · subst hb; rw [upM_same] at z; cases z; exact ⟨l.f, vs, q1, q2⟩
    · rw [upM_ne hb] at z; exact l.go.at'.mem b u z
  · obtain ⟨w1, w2, w3⟩ := l.go.fr b u h1 h2 h3
    exact ⟨w1, w2, by rw [upM_ne (ne_of_none h1 hp)]; exact w3⟩
theorem tD_lc {K : PySem.W.Frag} {wi : WI} {g : WG} {wt : WT} {we : WE} {vs : List Nat} {st : St} {H : Hp} {Q : VK} (h : tD K (wLc wi g wt we vs) st H Q) : tLc (tDI K wi) (tDGw K vs g) (tDT K wt) (tD K we) vs st H Q := by
  obtain ⟨F, dl, M, R, so, at0, hw, po⟩ := h
  refine ⟨F, dl, M, _, so, at0, hw, fun F1 M1 H1 items C J h1 g1 wk p hp => ?_⟩
  refine lc_run (sok_mono g1.ex so) g1.at' wk hp h1 fun F2 M2 H2 acc hR l => ?_
  obtain ⟨ds, e, hR⟩ := hR
  obtain ⟨F3, g3, d3⟩ := l.dat hp e
  exact po _ F3 H2 _ M2 hR (g1.trans g3) d3
theorem tD_lcM {K : PySem.W.Frag} {wi : WI} {g : WG} {wt : WT} {we : WE} {vs : List Nat} {st : St} {H : Hp} {Q : VK} (h : tD K (wLcM wi g wt we vs) st H Q) : tLc (tDI K wi) (tDGw K vs g) (tDT K wt) (tD K we) vs st H Q := by
  obtain ⟨F, dl, M, R, so, at0, hw, po⟩ := h
  refine ⟨F, dl, M, _, so, at0, hw, fun F1 M1 H1 items C J h1 g1 wk p hp => ?_⟩
  refine lc_run (sok_mono g1.ex so) g1.at' wk hp h1 fun F2 M2 H2 acc hR l => ?_
  exact po _ F2 H2 _ _ (hR p l.m) (g1.trans (l.mem hp)) rfl
/-- tests of a comprehension -/
def PDTs (X : Cx) (ifs : List Expr) (w : WT) : Prop := PTs X ifs (tDT X.K w)
theorem pts_imp {ifs : List Expr} {t u : TT} (h : PTs X ifs t) (i : ∀ st H Q, u st H Q → t st H Q) : PTs X ifs u := ⟨fun pins s st H Q I q => h.run pins s st H Q I (i st H Q q)⟩
abbrev wYes : WT := fun _ M R => R true M
theorem pdts_nil : PDTs X [] wYes := pts_imp pts_nil fun st H Q ⟨F, dl, M, R, so, at0, hw, po⟩ => po _ F H M hw (Go.refl at0)
theorem pdts_one {c : Expr} {w : WT} (h : PDT X c w) : PDTs X [c] w := pts_one h
section
variable {elt tg iter : Expr} {ifs : List Expr} {scope : Scope} {own : List (Str × Nat)} {wi : WI} {g : WG} {wt : WT} {we : WE}
theorem pd_lc (hc : X.calm = true) (hN : X.N.Nodup) (hi : PDI X tg iter wi) (ok : BlkOk X.N X.env.scope scope own)
    (hg : ∀ (s : Shared) (H : Hp) (C : Addr) (cl : List (Str × Addr)) (fp : List Addr), PDGw (X.blk s H scope (compEnvC scope cl C X.env) fp) (own.map (·.2)) tg g) (ht : ∀ (s : Shared) (H : Hp) (C : Addr) (cl : List (Str × Addr)) (fp : List Addr), PDTs (X.blk s H scope (compEnvC scope cl C X.env) fp) ifs wt)
    (he : ∀ (s : Shared) (H : Hp) (C : Addr) (cl : List (Str × Addr)) (fp : List Addr), PD (X.blk s H scope (compEnvC scope cl C X.env) fp) elt we) (hs : ∀ x, foldedSetIterable iter X.env x = pure x := by intro _; rfl) : PD X (.ListComp elt [⟨tg, iter, ifs, 0⟩] scope pos) (wLc wi g wt we (own.map (·.2))) :=
  pe_imp (pe_lc (g := tDGw X.K (own.map (fun z : Str × Nat => z.2)) g) (tt := tDT X.K wt) (te := tD X.K we) hc hN hi ok hg ht he hs) fun st H Q h => tD_lc h
theorem pd_lcM (hc : X.calm = true) (hN : X.N.Nodup) (hi : PDI X tg iter wi) (ok : BlkOk X.N X.env.scope scope own)
    (hg : ∀ (s : Shared) (H : Hp) (C : Addr) (cl : List (Str × Addr)) (fp : List Addr), PDGw (X.blk s H scope (compEnvC scope cl C X.env) fp) (own.map (·.2)) tg g) (ht : ∀ (s : Shared) (H : Hp) (C : Addr) (cl : List (Str × Addr)) (fp : List Addr), PDTs (X.blk s H scope (compEnvC scope cl C X.env) fp) ifs wt)
    (he : ∀ (s : Shared) (H : Hp) (C : Addr) (cl : List (Str × Addr)) (fp : List Addr), PD (X.blk s H scope (compEnvC scope cl C X.env) fp) elt we) (hs : ∀ x, foldedSetIterable iter X.env x = pure x := by intro _; rfl) : PD X (.ListComp elt [⟨tg, iter, ifs, 0⟩] scope pos) (wLcM wi g wt we (own.map (·.2))) :=
  pe_imp (pe_lc (g := tDGw X.K (own.map (fun z : Str × Nat => z.2)) g) (tt := tDT X.K wt) (te := tD X.K we) hc hN hi ok hg ht he hs) fun st H Q h => tD_lcM h
/-- y = [..] -/
theorem pds_setLc (i : Nat) {y : Str} {py spos : Pos} (hc : X.calm = true) (hN : X.N.Nodup) (hy : X.N[i]? = some y) (hyl : X.env.scope.names.lookup y = some .local)
    (hsw : swapsWith (.ListComp elt [⟨tg, iter, ifs, 0⟩] scope pos) (some (.Name y py)) spos.line X.env = pure true) (hi : PDI X tg iter wi) (ok : BlkOk X.N X.env.scope scope own)
    (hg : ∀ (s : Shared) (H : Hp) (C : Addr) (cl : List (Str × Addr)) (fp : List Addr), PDGw (X.blk s H scope (compEnvC scope cl C X.env) fp) (own.map (·.2)) tg g) (ht : ∀ (s : Shared) (H : Hp) (C : Addr) (cl : List (Str × Addr)) (fp : List Addr), PDTs (X.blk s H scope (compEnvC scope cl C X.env) fp) ifs wt)
    (he : ∀ (s : Shared) (H : Hp) (C : Addr) (cl : List (Str × Addr)) (fp : List Addr), PD (X.blk s H scope (compEnvC scope cl C X.env) fp) elt we) (hs : ∀ x, foldedSetIterable iter X.env x = pure x := by intro _; rfl) : PDS X (.Assign [.Name y py] (.ListComp elt [⟨tg, iter, ifs, 0⟩] scope pos) spos) (wAsg (wLc wi g wt we (own.map (·.2))) (gN i)) :=
  ps_imp (ps_setLc (g := tDGw X.K (own.map (fun z : Str × Nat => z.2)) g) (tt := tDT X.K wt) (te := tD X.K we) hc hN hy hyl hsw hi ok hg ht he hs) fun D st H ⟨F, dl, M, P, so, at0, hw, po⟩ =>
    tD_lc ⟨F, dl, M, _, so, at0, hw, fun v F1 H1 r M1 h1 g1 i1 => po.nx _ F1 H1 _ M1 h1 g1 (sok_set (sok_mono g1.ex so) i1)⟩
theorem pds_setLcM (i : Nat) {y : Str} {py spos : Pos} (hc : X.calm = true) (hN : X.N.Nodup) (hy : X.N[i]? = some y) (hyl : X.env.scope.names.lookup y = some .local)
    (hsw : swapsWith (.ListComp elt [⟨tg, iter, ifs, 0⟩] scope pos) (some (.Name y py)) spos.line X.env = pure true) (hi : PDI X tg iter wi) (ok : BlkOk X.N X.env.scope scope own)
    (hg : ∀ (s : Shared) (H : Hp) (C : Addr) (cl : List (Str × Addr)) (fp : List Addr), PDGw (X.blk s H scope (compEnvC scope cl C X.env) fp) (own.map (·.2)) tg g) (ht : ∀ (s : Shared) (H : Hp) (C : Addr) (cl : List (Str × Addr)) (fp : List Addr), PDTs (X.blk s H scope (compEnvC scope cl C X.env) fp) ifs wt)
    (he : ∀ (s : Shared) (H : Hp) (C : Addr) (cl : List (Str × Addr)) (fp : List Addr), PD (X.blk s H scope (compEnvC scope cl C X.env) fp) elt we) (hs : ∀ x, foldedSetIterable iter X.env x = pure x := by intro _; rfl) : PDS X (.Assign [.Name y py] (.ListComp elt [⟨tg, iter, ifs, 0⟩] scope pos) spos) (wAsg (wLcM wi g wt we (own.map (·.2))) (gN i)) :=
  ps_imp (ps_setLc (g := tDGw X.K (own.map (fun z : Str × Nat => z.2)) g) (tt := tDT X.K wt) (te := tD X.K we) hc hN hy hyl hsw hi ok hg ht he hs) fun D st H ⟨F, dl, M, P, so, at0, hw, po⟩ =>
    tD_lcM ⟨F, dl, M, _, so, at0, hw, fun v F1 H1 r M1 h1 g1 i1 => po.nx _ F1 H1 _ M1 h1 g1 (sok_set (sok_mono g1.ex so) i1)⟩
end
end

/-! ### defs -/
/-- a def's promise by data -/
abbrev Cn := List Sl → Mem → RK → Prop
def spD (K : PySem.W.Frag) (cn : Cn) : List V → Hp → VK → Prop := fun vs H Q => ∃ F M rs R, IsAll K F rs vs ∧ At K F M H ∧ cn rs M R ∧ Po K F M H R Q
structure FnD (P : Program) (w : World) (K : PySem.W.Frag) (mg : Str → Option Value) (base : Heap) (k : Nat) (f : Addr) (fd : FuncData) (ps : List Str) (cn : Cn) : Prop where
  len : ∀ rs M R, cn rs M R → rs.length = ps.length
  run : ∀ (A : Around) (outer : List Env) (s : Shared) (H : Hp) (args : Args) (us : List Value) (vs : List V) (Q : VK), A.guards = some [] → Room k A → Env0 P w K mg base A outer s H → BindsTo s fd args (ps.zip us) → Vals vs us → spD K cn vs H Q →
    codeAny (model P w) A (.call (.ref f) args) (CR CX0 outer P w H s Q E0) s
/-- what a result may be seen as: less memory, a list that stays -/
def Vw (M : Mem) (r : Sl) (M' : Mem) (r' : Sl) : Prop := ∀ (K : PySem.W.Frag) (F H : Hp) (v : V), At K F M H → Is K F r v → ∃ F', Go K F M H F' M' H ∧ Is K F' r' v
theorem Vw.le {M M' : Mem} {r : Sl} (h : Le M' M) : Vw M r M' r := fun K F H v at0 i => ⟨F, (Go.refl at0).le h, i⟩
theorem Vw.refl (M : Mem) (r : Sl) : Vw M r M r := Vw.le (Le.refl M)
theorem Vw.frz {M M' : Mem} {p : Addr} {ds : List PyData} (e : M p = some (.lst (ds.map Sl.d))) (hl : Le M' M) (hp : M' p = none) : Vw M (.v (.ref p)) M' (.d (.list ds)) := fun K F H v at0 i => by
  obtain ⟨F', g, d⟩ := Go.freeze at0 e hl hp
  have i' : v = .ref p := i
  subst i'
  exact ⟨F', g, d⟩
/-- the wish at a def's end -/
def upR (R : RK) : RK := fun r M => ∃ r' M', Vw M r M' r' ∧ R r' M'
theorem upR.of {R : RK} {r : Sl} {M : Mem} (h : R r M) : upR R r M := ⟨r, M, Vw.refl M r, h⟩
theorem upR.le {R : RK} {r : Sl} {M M' : Mem} (h : R r M) (l : Le M M') : upR R r M' := ⟨r, M, Vw.le l, h⟩
theorem Po.up {K : PySem.W.Frag} {F H : Hp} {M : Mem} {R : RK} {Q : VK} (h : Po K F M H R Q) : Po K F M H (upR R) Q := fun v F' H' r M' ⟨r2, M2, vw, hR⟩ g i => by
  obtain ⟨F2, g2, i2⟩ := vw K F' H' v g.at' i
  exact h v F2 H' r2 M2 hR (g.trans g2) i2
def startD (N : List Str) (rs : List Sl) : Env' := rs.map some ++ List.replicate (N.length - rs.length) none
/-- the wishes around a def's body -/
def bodyK (R : RK) : PK := { nx := fun _ M => upR R .n M, rt := upR R }
section
variable {P : Program} {w : World} {K : PySem.W.Frag} {mg : Str → Option Value} {base : Heap}
/-- THE RULE for a def -/
theorem fnD_of {x qual : Str} {st : Stmt} {f : Addr} {fd : FuncData} {N ps : List Str} {k : Nat} {cn : Cn} (Fu : Fun K x qual st f fd) (S : FnScope N ps (defScope st)) (len : ∀ rs M R, cn rs M R → rs.length = ps.length)
    (hbody : ∀ (cdv : Value) (A : Around) (outer : List Env) (s : Shared) (H : Hp), A.guards = some [] → Room k (A.deeper (envOfC qual (defScope st) s.heap.objs.size f cdv)) →
      ∃ wb : WS, PDB (cxOf CX0 P w K mg base N qual (defScope st) f cdv A outer s H E0).nox (defBody st) wb ∧ ∀ rs M R, cn rs M R → wb (bodyK R) (startD N rs) M) : FnD P w K mg base (k + 1) f fd ps cn := by
  obtain ⟨oc, od, kV, doc, pm, an, cdv, ct, osl, rfl, lk, hcd⟩ := Fu.ex
  refine ⟨len, fun A outer s H args us vs Q hgd hr e0 hb r hsp => ?_⟩
  obtain ⟨F, M, rs, R, ia, at0, hcn, po⟩ := hsp
  have hl : vs.length = ps.length := ia.length.symm.trans (len rs M R hcn)
  have KX : K.In s.heap := e0.mod.kin.keeps fun b o e => (e0.bs b o e).1
  have lim : s.heap.NoLimit := e0.mod.nolimit.keeps fun b o e => (e0.bs b o e).1
  refine codeAny_call_function hr.depth (KX _ _ lk) rfl S.co S.gen rfl (PySem.W.codeRec_of KX hcd) (hb _ _ _ _ ?_)
  refine wpAny_newFunctionEnv_cells S.kind (fun y hy => ?_) fun env he s1 ic => ?_
  · rcases S.par y.1 (List.of_mem_zip hy).1 with q | q
    · exact Or.inl q
    · exact Or.inr ⟨q, PySem.W.cellsFrom_some _ _ _ (Or.inl q)⟩
  subst he
  refine ⟨lim.keeps ic.toInCall.keep, codeAny_func ?_⟩
  obtain ⟨wb, hB, hW⟩ := hbody cdv A outer s H hgd (hr.deeper _)
  have I := inv_start (CX := CX0) (E := E0) (qual := qual) (f := f) (cd := cdv) S hr.hd e0 hl r ic
  have rd : tDS K wb { nx := fun _ H' => Q .non H', rt := Q } (start N vs) H :=
    ⟨F, startD N rs, M, bodyK R, by unfold startD L2.start; rw [ia.length]; exact sok_start ia _, at0, hW rs M R hcn,
      ⟨fun st' F' H' dl' M' h g _ => po.up V.non F' H' _ M' h g .non, po.up, fun _ _ _ _ _ h => h.elim, fun _ _ _ _ _ h => h.elim⟩⟩
  refine wpAny_mono ((PSs.nox hB).run [] s1 (start N vs) H _ I rd) (fun fl s' hs => ?_) fun e s' hs => hs
  cases fl with
  | ret u =>
    obtain ⟨v, sg, H', Jn, rv, q⟩ := hs
    exact ⟨v, H', Jn.os, Jn.bare, Jn.base, Jn.hok, rv, q⟩
  | next =>
    obtain ⟨sg, H', Jn, q⟩ := hs
    exact ⟨V.non, H', Jn.os, Jn.bare, Jn.base, Jn.hok, rfl, q⟩
  | brk => obtain ⟨_, _, _, q⟩ := hs; exact q.elim
  | cont => obtain ⟨_, _, _, q⟩ := hs; exact q.elim
theorem FnD.mono {j k : Nat} {f : Addr} {fd : FuncData} {ps : List Str} {cn : Cn} (G : FnD P w K mg base j f fd ps cn) (h : j ≤ k) : FnD P w K mg base k f fd ps cn :=
  ⟨G.len, fun A outer s H args us vs Q hg hr => G.run A outer s H args us vs Q hg (hr.mono h)⟩
theorem FnD.imp {k : Nat} {f : Addr} {fd : FuncData} {ps : List Str} {cn cn' : Cn} (G : FnD P w K mg base k f fd ps cn) (h : ∀ rs M R, cn' rs M R → cn rs M R) : FnD P w K mg base k f fd ps cn' :=
  ⟨fun rs M R q => G.len rs M R (h rs M R q), fun A outer s H args us vs Q hg hr he hb hv ⟨F, M, rs, R, a, b, c, d⟩ => G.run A outer s H args us vs Q hg hr he hb hv ⟨F, M, rs, R, a, b, h rs M R c, d⟩⟩
end
section
variable {X : Cx} {k : Nat} {f : Addr} {fd : FuncData} {ps ks : List Str} {cn : Cn} {x : Str} {p pos : Pos} {e : Expr} {es : List Expr} {wa : WA}
theorem run_fnD {pins : List (Addr × Obj)} {st : St} {H : Hp} {s : Shared} {Q : VK} {us : List Value} {kw : List (Str × Value)} {bs : List Value} {vs : List V} (G : FnD X.prog X.w X.K X.mg X.base k f fd ps cn) (hgd : X.A.guards = some []) (hr : Room k X.A) (hb : BindsTo s fd ⟨us, kw⟩ (ps.zip bs))
    (I : Inv X pins st H s) (r : Vals vs bs) (h : spD X.K cn vs H Q) : wpAny (model X.prog X.w) X.A (call (.ref f) us kw) (EP X pins st Q) X.xe s := by
  refine wpAny_call (codeAny_mono (G.run X.A X.stack s H ⟨us, kw⟩ bs vs Q hgd hr I.env0 hb r h) fun rr s' hq => ?_)
  cases rr with
  | error er => exact False.elim hq
  | ok fl => cases fl with
    | ret u => exact I.after hq
    | next => exact False.elim hq
    | brk => exact False.elim hq
    | cont => exact False.elim hq
theorem spD_of {vs : List V} {F H : Hp} {M : Mem} {rs : List Sl} {R : RK} {Q : VK} (at0 : At X.K F M H) (i : IsAll X.K F rs vs) (h : cn rs M R) (po : Po X.K F M H R Q) : spD X.K cn vs H Q := ⟨F, M, rs, R, i, at0, h, po⟩
theorem FnD.lenV {vs : List V} {H : Hp} {Q : VK} (G : FnD X.prog X.w X.K X.mg X.base k f fd ps cn) (h : spD X.K cn vs H Q) : vs.length = ps.length := by
  obtain ⟨F, M, rs, R, i, _, c, _⟩ := h
  exact i.length.symm.trans (G.len rs M R c)
/-- f(e, ..) -/
theorem pd_call (G : FnD X.prog X.w X.K X.mg X.base k f fd ps cn) (hgd : X.A.guards = some []) (hr : Room k X.A) (hg : Gl X x) (hm : X.mg x = some (.ref f)) (hk : PySem.W.keepIn X.K (.ref f) = true) (hb : Binds X.K fd ps []) (ha : PDA X (e :: es) wa)
    (hdb : (x == ("__debug__" : Str)) = false := by decide) (he : starEach (e :: es) X.env = (false, eval e X.env) :: starEach es X.env := by rfl) (hpl : (backTo pos (starEach es X.env)).any (·.1) = false := by rfl) : PD X (.Call (.Name x p) (e :: es) [] pos) (wCall cn wa) := by
  refine ⟨fun pins s st H Q I h => ?_⟩
  obtain ⟨F, dl, M, R, so, at0, hw, po⟩ := h
  refine wpAny_Call_Name_kw (ld_glob I hg hm ?_ hdb)
  refine PySem.W.callWith_K (h₀ := X.base) I.ok.mod.kin hk (thn (PA.run ha pos pins s st H _ I (tDA_to (Q := fun vs H' => spD X.K cn vs H' Q) so at0 hw fun vs F1 H1 rs M1 h1 g1 so1 at1 i1 => spD_of at1 i1 h1 (po.mono g1))) fun us s1 ⟨vs, H1, I1, r1, q1⟩ => ?_) he hpl
  have hl := G.lenV q1
  have hb1 := hb s1 us I1.kIn (by rw [List.append_nil, ← r1.length]; exact hl)
  rw [List.append_nil] at hb1
  exact ⟨I1.kIn, run_fnD G hgd hr hb1 I1 r1 q1⟩
end
end DL

set_option Elab.async false
set_option linter.all false
set_option maxRecDepth 100000
set_option maxHeartbeats 4000000
/-! DF: repr, isinstance, all, any, sorted, methods of lists, stores by place. -/
namespace DL
open PySem PySem.Spec L2
open Evl (Ex)

/-! ### repr -/
section
variable {X : Cx}
def rRepr (K : PySem.W.Frag) : List V → Hp → VK → Prop := fun xs H Q => ∃ v d, xs = [v] ∧ Dp K H v d ∧ d.canLay0 = true ∧ d.depth ≤ 40 ∧ d.showable = true ∧ d.shown.length ≤ sizeLine ∧ Q (.str d.shown) H
theorem call_reprD (hgd : X.A.guards = some []) (hu : X.A.units + 64 < cLine) : CallR X (.builtin "repr") (rRepr X.K) := by
  intro pins s st H xs us Q I r h
  obtain ⟨v, d, rfl, hd, hc, hdep, hs, hz, q⟩ := h
  obtain ⟨u, rfl, ru⟩ := vals1 r
  obtain ⟨as, rd⟩ := Dp.reads I d v u hd ru
  have fin : ∀ (h' : Heap) (t : Tok) (tk : Nat), (∀ b o, s.heap.get? b = some o → h'.get? b = some o) → EP X pins st Q (.str d.shown t) { s with heap := h', toks := tk } := fun h' t tk hk => ⟨.str d.shown, H, I.kept hk, ⟨t, rfl⟩, q⟩
  cases u with
  | ref a => exact repr_of_reads' rd hs (PyData.noDict_hsm (PyData.hasDict_of_canLay d hc)) hgd (by omega) (fun _ _ e => e) (fun h' t tk hk => fin h' t tk hk) hz
  | none => cases rd; exact PySem.P.repr_of_none (fin s.heap _ _ fun _ _ e => e)
  | bool b => cases rd; exact PySem.P.repr_of_bool (fin s.heap _ _ fun _ _ e => e)
  | int i t => cases rd; exact PySem.P.repr_of_int (of_decide_eq_true (by simpa [PyData.showable] using hs)) (fin s.heap _ _ fun _ _ e => e)
  | str x t => cases rd; exact PySem.P.repr_of_str (fin s.heap _ _ fun _ _ e => e) hz
  | _ => cases rd
/-- data that repr takes -/
def Shw (d : PyData) : Prop := d.canLay0 = true ∧ d.depth ≤ 40 ∧ d.showable = true ∧ d.shown.length ≤ sizeLine
abbrev gRepr : Sl → Mem → RK → Prop := fun r M R => match r with
  | .d x => Shw x ∧ R (.s x.shown) M
  | _ => False
theorem c_repr (hgd : X.A.guards = some []) (hu : X.A.units + 64 < cLine) : CaD X (.builtin "repr") (g1 gRepr) := ca1 fun F H M v r R Q at0 i1 h1 po => by
  unfold gRepr at h1
  split at h1
  · obtain ⟨⟨a, b, c, d⟩, hR⟩ := h1
    exact ⟨_, call_reprD hgd hu, v, _, rfl, dq_up at0.ex i1, a, b, c, d, po _ F H _ M hR (Go.refl at0) (.str _)⟩
  · exact h1.elim

/-! ### isinstance -/
def tyOf : PyData → String
  | .none => "NoneType"
  | .bool _ => "bool"
  | .int _ => "int"
  | .str _ => "str"
  | .list _ => "list"
  | .tuple _ => "tuple"
  | .dict _ => "dict"
theorem tyOf_at {K : PySem.W.Frag} {F H : Hp} (e : Ex F H) {v : V} {d : PyData} (h : Dq K F v d) : TyX K H v (.type (tyOf d)) := by
  cases h with
  | non => exact .base .non
  | bl b => exact .base (.bl b)
  | int i => exact .base (.int i)
  | str x => exact .base (.str x)
  | lst h1 h2 => exact .base (.lst (e _ _ h1))
  | tup h1 h2 =>
    rcases h1 with ⟨o, q, _⟩ | ⟨o, ws, n, q, q2, q3⟩
    · exact .fTuple (e _ _ q)
    · exact .kTuple q q2
/-- the built-in classes that are asked for -/
def isT (T : String) (d : PyData) : Bool := tyOf d == T || (T == "int" && tyOf d == "bool")
def askT : List String := ["int", "bool", "str", "list", "tuple", "dict"]
theorem kit_isT : ∀ d : PyData, ∀ T ∈ askT, kitB (tyOf d) T = some (isT T d) := by
  have h : ∀ a ∈ (["NoneType", "bool", "int", "str", "list", "tuple", "dict"] : List String), ∀ T ∈ askT, kitB a T = some (a == T || (T == "int" && a == "bool")) := by decide +kernel
  intro d T hT
  have := h (tyOf d) (by cases d <;> simp [tyOf]) T hT
  exact this
abbrev gIsi : WCl := fun rs M R => match rs with
  | [.d x, .v (.ty T)] => T ∈ askT ∧ R (.b (isT T x)) M
  | _ => False
theorem c_isi : CaD X (.builtin "isinstance") gIsi := caD_of fun F H M vs rs R Q at0 i1 h1 po => by
  unfold gIsi at h1
  split at h1
  · obtain ⟨v, u, rfl, i2, i3⟩ := isAll2 i1
    have i4 : u = .ty _ := i3
    subst i4
    exact ⟨_, call_isi, v, .ty _, _, _, _, rfl, .ty _, tyOf_at at0.ex i2, kit_ty (kit_isT _ _ h1.1), po _ F H _ M h1.2 (Go.refl at0) (.bl _)⟩
  · exact h1.elim
theorem pd_ty {x : Str} {T : String} {pos : Pos} (hg : Gl X x) (hm : X.mg x = none) (hv : bootBuiltins x = some (.type T)) (hn : x ≠ "__name__" := by decide) (hd : (x == ("__debug__" : Str)) = false := by decide) : PD X (.Name x pos) (wC (.v (.ty T))) :=
  pe_imp (pe_bltn (v := .ty T) hg hm hv rfl hn hd) fun st H Q ⟨F, dl, M, R, so, at0, hw, po⟩ => po _ F H _ M hw (Go.refl at0) rfl
/-- isinstance(e, (S, T)) -/
abbrev wIsi2 (S T : String) (we : WE) : WE := fun dl M R => we dl M fun r M1 => match r with
  | .d x => R (.b (isT S x || isT T x)) M1
  | _ => False
theorem pd_isi2 {S T : String} {xs xt : Str} {e : Expr} {we : WE} {p ps pt pp pos : Pos} {k : Nat} (hS : S ∈ askT) (hT : T ∈ askT) (he : PD X e we) (hg : Gl X "isinstance") (hm : X.mg "isinstance" = none)
    (gS : Gl X xs) (mS : X.mg xs = none) (vS : bootBuiltins xs = some (.type S)) (gT : Gl X xt) (mT : X.mg xt = none) (vT : bootBuiltins xt = some (.type T))
    (nS : xs ≠ "__name__" := by decide) (dS : (xs == ("__debug__" : Str)) = false := by decide) (nT : xt ≠ "__name__" := by decide) (dT : (xt == ("__debug__" : Str)) = false := by decide)
    (he1 : starEach [e, .Tuple [.Name xs ps, .Name xt pt] k pp] X.env = (false, eval e X.env) :: starEach [.Tuple [.Name xs ps, .Name xt pt] k pp] X.env := by rfl)
    (hpl : (backTo pos (starEach [.Tuple [.Name xs ps, .Name xt pt] k pp] X.env)).any (·.1) = false := by rfl)
    (he2 : starEach [.Tuple [.Name xs ps, .Name xt pt] k pp] X.env = (false, eval (.Tuple [.Name xs ps, .Name xt pt] k pp) X.env) :: starEach [] X.env := by rfl)
    (he3 : starEach [.Name xs ps, .Name xt pt] X.env = (false, eval (.Name xs ps) X.env) :: starEach [.Name xt pt] X.env := by rfl)
    (he4 : starEach [.Name xt pt] X.env = (false, eval (.Name xt pt) X.env) :: starEach [] X.env := by rfl) :
    PD X (.Call (.Name "isinstance" p) [e, .Tuple [.Name xs ps, .Name xt pt] k pp] [] pos) (wIsi2 S T we) := by
  refine pe_imp (pe_callB call_isiT hg hm (by decide +kernel) (pa_cons he (pa_cons (pe_tup (pa_cons (pe_bltn (v := .ty S) gS mS vS rfl nS dS) (pa_cons (pe_bltn (v := .ty T) gT mT vT rfl nT dT) pa_nil he4) he3)) pa_nil he2) he1) (by decide) (by decide) he1 hpl) fun st H Q ⟨F, dl, M, R, so, at0, hw, po⟩ => ?_
  refine tD_to so at0 hw fun v F1 H1 r M1 h1 g1 so1 at1 i1 => ?_
  split at h1
  · rename_i x
    refine ⟨by show 2 ≤ sizeLine; decide, fun q hq => ?_⟩
    have at2 : At X.K F1 M1 (upd H1 q (.tup [.ty S, .ty T])) := at1.hid (at1.freeF hq) (at1.freeM hq)
    have g2 : Go X.K F1 M1 H1 F1 M1 (upd H1 q (.tup [.ty S, .ty T])) := ⟨Ex.refl _, at2, fun a o z1 z2 z3 => ⟨by rw [upd_ne (ne_of_none z1 hq)]; exact z1, z2, z3⟩⟩
    refine ⟨v, q, [.ty S, .ty T], _, [.type S, .type T], isT S x || isT T x, rfl, upd_same, .cons (.ty S) (.cons (.ty T) .nil), tyOf_at at2.ex i1, ?_, po _ F1 _ _ M1 h1 (g1.trans g2) (.bl _)⟩
    refine kitAny_cons (kit_ty (kit_isT x S hS)) (fun e1 => kitAny_cons (kit_ty (kit_isT x T hT)) (fun e2 => ?_) fun e2 => ?_) fun e1 => ?_
    · rw [e1, e2]; exact kitAny_nil
    · rw [e1, e2]; rfl
    · rw [e1]; rfl
  · exact h1.elim

/-! ### all, any of a list of truths -/
def blsOf : List Sl → Option (List Bool)
  | [] => some []
  | .d (.bool b) :: r => (blsOf r).map (b :: ·)
  | _ => none
theorem blsOf_at {K : PySem.W.Frag} {F : Hp} : ∀ {ss : List Sl} {bs : List Bool} {vs : List V}, blsOf ss = some bs → IsAll K F ss vs → vs = bs.map V.bl
  | [], _, _, h, i => by cases h; cases i; rfl
  | .d (.bool b) :: r, bs, vs, h, i => by
    simp only [blsOf, Option.map_eq_some_iff] at h
    obtain ⟨rs, h1, rfl⟩ := h
    cases i with
    | cons i1 i2 => rw [dq_bl i1, blsOf_at h1 i2]; rfl
abbrev gAll : Sl → Mem → RK → Prop := fun r M R => ∃ ss bs, lsOf M r = some ss ∧ blsOf ss = some bs ∧ R (.b (bs.all id)) M
abbrev gAny : Sl → Mem → RK → Prop := fun r M R => ∃ ss bs, lsOf M r = some ss ∧ blsOf ss = some bs ∧ R (.b (bs.any id)) M
theorem c_all (hc : X.calm = true) : CaD X (.builtin "all") (g1 gAll) := ca1 fun F H M v r R Q at0 i1 h1 po => by
  obtain ⟨ss, bs, e1, e2, hR⟩ := h1
  obtain ⟨a, vs, rfl, q1, q2⟩ := lsOf_at at0 i1 e1
  have e3 := blsOf_at e2 q2
  subst e3
  exact ⟨_, cr_all hc, a, bs, rfl, SqL.of q1, po _ F H _ M hR (Go.refl at0) (.bl _)⟩
theorem c_any (hc : X.calm = true) : CaD X (.builtin "any") (g1 gAny) := ca1 fun F H M v r R Q at0 i1 h1 po => by
  obtain ⟨ss, bs, e1, e2, hR⟩ := h1
  obtain ⟨a, vs, rfl, q1, q2⟩ := lsOf_at at0 i1 e1
  have e3 := blsOf_at e2 q2
  subst e3
  exact ⟨_, cr_any hc, a, bs, rfl, SqL.of q1, po _ F H _ M hR (Go.refl at0) (.bl _)⟩

/-! ### sorted of ints -/
def insI (x : Int) : List Int → List Int
  | [] => [x]
  | y :: r => if x ≤ y then x :: y :: r else y :: insI x r
def srtI : List Int → List Int
  | [] => []
  | x :: r => insI x (srtI r)
theorem insI_perm (x : Int) : ∀ l : List Int, (insI x l).Perm (x :: l)
  | [] => List.Perm.refl _
  | y :: r => by
    unfold insI
    split
    · exact List.Perm.refl _
    · exact ((insI_perm x r).cons y).trans (List.Perm.swap x y r)
theorem srtI_perm : ∀ l : List Int, (srtI l).Perm l
  | [] => List.Perm.refl _
  | x :: r => (insI_perm x (srtI r)).trans ((srtI_perm r).cons x)
theorem insI_sorted (x : Int) : ∀ l : List Int, l.Pairwise (· ≤ ·) → (insI x l).Pairwise (· ≤ ·)
  | [], _ => List.pairwise_singleton _ _
  | y :: r, h => by
    unfold insI
    have hy := List.pairwise_cons.mp h
    split
    · rename_i hx
      refine List.pairwise_cons.mpr ⟨fun z hz => ?_, h⟩
      rcases List.mem_cons.mp hz with rfl | hz
      · exact hx
      · exact Int.le_trans hx (hy.1 z hz)
    · rename_i hx
      refine List.pairwise_cons.mpr ⟨fun z hz => ?_, insI_sorted x r hy.2⟩
      rcases List.mem_cons.mp ((insI_perm x r).mem_iff.mp hz) with rfl | hz
      · omega
      · exact hy.1 z hz
theorem srtI_sorted : ∀ l : List Int, (srtI l).Pairwise (· ≤ ·)
  | [] => List.Pairwise.nil
  | x :: r => insI_sorted x _ (srtI_sorted r)
theorem sorted_one : ∀ {l m : List Int}, l.Perm m → l.Pairwise (· ≤ ·) → m.Pairwise (· ≤ ·) → l = m
  | [], m, p, _, _ => (List.Perm.eq_nil p.symm).symm
  | x :: l, [], p, _, _ => absurd p.length_eq (by simp)
  | x :: l, y :: m, p, hl, hm => by
    have h1 := List.pairwise_cons.mp hl
    have h2 := List.pairwise_cons.mp hm
    have e : x = y := by
      have a : y ≤ x := by
        rcases List.mem_cons.mp (p.mem_iff.mp List.mem_cons_self) with e | e
        · omega
        · exact h2.1 x e
      have b : x ≤ y := by
        rcases List.mem_cons.mp (p.mem_iff.mpr List.mem_cons_self) with e | e
        · omega
        · exact h1.1 y e
      omega
    subst e
    rw [sorted_one p.cons_inv h1.2 h2.2]
def intsOf : List Sl → Option (List Int)
  | [] => some []
  | .d (.int b) :: r => (intsOf r).map (b :: ·)
  | _ => none
theorem intsOf_at {K : PySem.W.Frag} {F : Hp} : ∀ {ss : List Sl} {bs : List Int} {vs : List V}, intsOf ss = some bs → IsAll K F ss vs → vs = bs.map V.int
  | [], _, _, h, i => by cases h; cases i; rfl
  | .d (.int b) :: r, bs, vs, h, i => by
    simp only [intsOf, Option.map_eq_some_iff] at h
    obtain ⟨rs, h1, rfl⟩ := h
    cases i with
    | cons i1 i2 => rw [dq_int i1, intsOf_at h1 i2]; rfl
theorem intsOf_map (ns : List Int) : intsOf (ns.map fun n => Sl.i n) = some ns := by
  induction ns with
  | nil => rfl
  | cons a r ih => simp only [List.map_cons, intsOf, ih, Option.map_some]
theorem dqAll_ints {K : PySem.W.Frag} {F : Hp} : ∀ ns : List Int, DqAll K F (ns.map V.int) (ns.map PyData.int)
  | [] => .nil
  | n :: r => .cons (.int n) (dqAll_ints r)
abbrev gSorted : Sl → Mem → RK → Prop := fun r M R => ∃ ss ns, lsOf M r = some ss ∧ intsOf ss = some ns ∧ ns.length < 64 ∧ R (.d (.list ((srtI ns).map PyData.int))) M
theorem c_sorted : CaD X (.builtin "sorted") (g1 gSorted) := ca1 fun F H M v r R Q at0 i1 h1 po => by
  obtain ⟨ss, ns, e1, e2, hz, hR⟩ := h1
  obtain ⟨a, vs, rfl, q1, q2⟩ := lsOf_at at0 i1 e1
  have e3 := intsOf_at e2 q2
  subst e3
  refine ⟨_, cr_sorted, a, ns, rfl, SqL.of q1, hz, fun ns' p hp hs hn => ?_⟩
  have e4 := sorted_one (hp.trans (srtI_perm ns).symm) hs (srtI_sorted ns)
  subst e4
  exact po_dat at0 po hn hR fun F' e h => .lst h (dqAll_ints _)

/-! ### methods of lists -/
abbrev wLMeth (g : Sl → List Sl → Mem → RK → Prop) (wo : WE) (wa : WA) : WE := fun dl M R => wo dl M fun r M1 => (∃ ss, lsOf M1 r = some ss) ∧ wa dl M1 fun rs M2 => g r rs M2 R
abbrev gAppend : Sl → List Sl → Mem → RK → Prop := fun r rs M R => match r, rs with
  | .v (.ref p), [x] => ∃ ss, M p = some (.lst ss) ∧ ss.length < sizeLine ∧ R .n (upM M p (.lst (ss ++ [x])))
  | _, _ => False
abbrev gPop : Sl → List Sl → Mem → RK → Prop := fun r rs M R => match r, rs with
  | .v (.ref p), [] => ∃ ss x, M p = some (.lst ss) ∧ ss[ss.length - 1]? = some x ∧ R x (upM M p (.lst ss.dropLast))
  | _, _ => False
abbrev gPopAt : Sl → List Sl → Mem → RK → Prop := fun r rs M R => match r, rs with
  | .v (.ref p), [.d (.int i)] => ∃ ss x, M p = some (.lst ss) ∧ 0 ≤ i ∧ i < 2 ^ 62 ∧ ss[i.toNat]? = some x ∧ R x (upM M p (.lst (ss.eraseIdx i.toNat)))
  | _, _ => False
theorem all2_dropLast {A B : Type} {R : A → B → Prop} {as : List A} {bs : List B} (h : All2 R as bs) : All2 R as.dropLast bs.dropLast := by
  rw [List.dropLast_eq_take, List.dropLast_eq_take, h.length]
  exact h.take _
theorem tBM_of {K : PySem.W.Frag} {g : Sl → List Sl → Mem → RK → Prop} {r : V → List V → Hp → VK → Prop} {wo : WE} {wa : WA}
    (hr : ∀ (F H : Hp) (M : Mem) (v : V) (vs : List V) (x : Sl) (rs : List Sl) (R : RK) (Q : VK), At K F M H → Is K F x v → IsAll K F rs vs → g x rs M R → Po K F M H R Q → r v vs H Q) {st : St} {H : Hp} {Q : VK} (h : tD K (wLMeth g wo wa) st H Q) : tBM K "list" r (tD K wo) (tDA K wa) st H Q := by
  obtain ⟨F, dl, M, R, so, at0, hw, po⟩ := h
  refine tD_to so at0 hw fun v F1 H1 x M1 h1 g1 so1 at1 i1 => ?_
  obtain ⟨⟨ss, e1⟩, h1⟩ := h1
  obtain ⟨a, vs, rfl, q1, q2⟩ := lsOf_at at1 i1 e1
  refine ⟨.inl ⟨rfl, vs, SqL.of q1⟩, ?_⟩
  exact tDA_to so1 at1 h1 fun us F2 H2 rs M2 h2 g2 so2 at2 i2 => hr F2 H2 M2 _ us x rs R Q at2 (is_mono g2.ex i1) i2 h2 (po.mono (g1.trans g2))
section
variable {o e : Expr} {wo : WE} {wa : WA} {apos cpos : Pos}
theorem pd_append (ho : PD X o wo) (ha : PDA X [e] wa) (hbase : attributeBase o "append" X.env (eval o X.env) = eval o X.env := by rfl)
    (hfew : ((backTo cpos (starEach [e] X.env)).all (fun x => !x.1) && (backToKw cpos (keywordEach [] X.env)).all (fun x => x.1.isSome) && decide ([e].length + ([] : List Keyword).length + (if ([] : List Keyword).isEmpty then 0 else 1) < 30)) = true := by rfl)
    (hline : (apos.endLine == cpos.line) = true := by rfl) (hs : starEach [e] X.env = (false, eval e X.env) :: starEach [] X.env := by rfl) : PD X (.Call (.Attribute o "append" apos) [e] [] cpos) (wLMeth gAppend wo wa) := by
  refine pe_imp (pe_bm PySem.F.plainAttrs_list PySem.F.slot_list_append PySem.F.type_list_append mt_append ho ha hbase hfew hline hs rfl) fun st H Q h => tBM_of (fun F H M v vs x rs R Q at0 i1 i2 hg po => ?_) h
  unfold gAppend at hg
  split at hg
  · rename_i p y
    obtain ⟨ss, m, hz, hR⟩ := hg
    obtain ⟨u, rfl, i3⟩ := isAll1 i2
    have i4 : v = .ref p := i1
    subst i4
    obtain ⟨f, us, q1, q2⟩ := at0.mem p _ m
    exact ⟨p, us, u, rfl, rfl, q1, by rw [← q2.length]; exact hz, po _ F _ _ _ hR (Go.put at0 m ⟨_, upd_same, q2.append (.cons i3 .nil)⟩) .non⟩
  · exact hg.elim
theorem pd_popAt (ho : PD X o wo) (ha : PDA X [e] wa) (hbase : attributeBase o "pop" X.env (eval o X.env) = eval o X.env := by rfl)
    (hfew : ((backTo cpos (starEach [e] X.env)).all (fun x => !x.1) && (backToKw cpos (keywordEach [] X.env)).all (fun x => x.1.isSome) && decide ([e].length + ([] : List Keyword).length + (if ([] : List Keyword).isEmpty then 0 else 1) < 30)) = true := by rfl)
    (hline : (apos.endLine == cpos.line) = true := by rfl) (hs : starEach [e] X.env = (false, eval e X.env) :: starEach [] X.env := by rfl) : PD X (.Call (.Attribute o "pop" apos) [e] [] cpos) (wLMeth gPopAt wo wa) := by
  refine pe_imp (pe_bm PySem.F.plainAttrs_list PySem.F.slot_list_pop PySem.F.type_list_pop mt_popAt ho ha hbase hfew hline hs rfl) fun st H Q h => tBM_of (fun F H M v vs x rs R Q at0 i1 i2 hg po => ?_) h
  unfold gPopAt at hg
  split at hg
  · rename_i p i
    obtain ⟨ss, y, m, h0, h1, hy, hR⟩ := hg
    obtain ⟨u, rfl, i3⟩ := isAll1 i2
    have i4 : v = .ref p := i1
    subst i4
    obtain ⟨f, us, q1, q2⟩ := at0.mem p _ m
    obtain ⟨z, z1, z2⟩ := q2.get hy
    have hlt : i.toNat < us.length := (List.getElem?_eq_some_iff.mp z1).1
    exact ⟨p, us, i, i.toNat, z, rfl, by rw [dq_int i3], q1, by omega, by omega, seqIndex_of h0 (by omega), z1, po _ F _ _ _ hR (Go.put at0 m ⟨_, upd_same, q2.eraseIdx _⟩) z2⟩
  · exact hg.elim
theorem pd_pop (ho : PD X o wo) (hbase : attributeBase o "pop" X.env (eval o X.env) = eval o X.env := by rfl) (hline : (apos.endLine == cpos.line) = true := by rfl) : PD X (.Call (.Attribute o "pop" apos) [] [] cpos) (wLMeth gPop wo wNil) := by
  refine pe_imp (pe_bm0 PySem.F.plainAttrs_list PySem.F.slot_list_pop PySem.F.type_list_pop mt_pop ho hbase hline) fun st H Q ⟨F, dl, M, R, so, at0, hw, po⟩ => ?_
  refine tD_to so at0 hw fun v F1 H1 x M1 h1 g1 so1 at1 i1 => ?_
  obtain ⟨⟨ss, e1⟩, hg0⟩ := h1
  obtain ⟨a, vs, rfl, q1, q2⟩ := lsOf_at at1 i1 e1
  refine ⟨.inl ⟨rfl, vs, SqL.of q1⟩, ?_⟩
  have hg : gPop x [] M1 R := hg0
  clear hg0
  unfold gPop at hg
  split at hg
  · rename_i p _
    obtain ⟨ss, y, m, hy, hR⟩ := hg
    have i4 : V.ref a = .ref p := i1
    cases i4
    obtain ⟨f, us, q1, q2⟩ := at1.mem a _ m
    rw [q2.length] at hy
    obtain ⟨z, z1, z2⟩ := q2.get hy
    exact ⟨a, us, z, rfl, rfl, q1, z1, (po.mono g1) _ F1 _ _ _ hR (Go.put at1 m ⟨_, upd_same, all2_dropLast q2⟩) z2⟩
  · exact hg.elim
end

/-! ### xs[i] = v -/
abbrev gSetL (wo wi : WE) : WG := fun v dl M R => wo dl M fun r M1 => wi dl M1 fun q M2 => match r, q with
  | .v (.ref p), .d (.int i) => ∃ ss j, M2 p = some (.lst ss) ∧ ixN ss.length i = some j ∧ R dl (upM M2 p (.lst (ss.set j v)))
  | _, _ => False
theorem pdg_setL {o i : Expr} {wo wi : WE} {pos : Pos} (ho : PD X o wo) (hi : PD X i wi)
    (ha : ∀ v, assign (.Subscript o i pos) X.env v = (do
      let ov ← holding [v] (eval o X.env)
      let iv ← holding [v, ov] (eval i X.env)
      standAt pos
      holding [v, ov, iv] (setItem ov iv v)
      release [v, ov, iv] []) := by intro _; rfl) : PDG X (.Subscript o i pos) (gSetL wo wi) := by
  refine pg_imp (pg_sub ho hi set_list ha) fun v st H Q ⟨F, dl, M, r, R, so, at0, i1, hw, po⟩ => ?_
  refine tD_to so at0 hw fun x F1 H1 q M1 h1 g1 so1 at1 j1 => ?_
  refine tD_to so1 at1 h1 fun y F2 H2 z M2 h2 g2 so2 at2 j2 => ?_
  split at h2
  · rename_i p k
    obtain ⟨ss, j, m, hj, hR⟩ := h2
    have e : x = .ref p := j1
    subst e
    obtain ⟨f, us, q1, q2⟩ := at2.mem p _ m
    exact ⟨p, us, k, j, rfl, dq_int j2, q1, by rw [← q2.length]; exact hj, po _ F2 _ _ _ hR ((g1.trans g2).trans (Go.put at2 m ⟨_, upd_same, q2.set (is_mono (g1.trans g2).ex i1) j⟩)) so2⟩
  · exact h2.elim
end
end DL

set_option Elab.async false
set_option linter.all false
set_option maxRecDepth 100000
set_option maxHeartbeats 4000000
/-! DG: + and * by shapes, names of the module, calls of the module's defs. -/
namespace DL
open PySem PySem.Spec L2
open Evl (Ex)
section
variable {X : Cx}
abbrev gPlus : W2 := fun p q M R => match p, q with
  | .d (.int i), .d (.int j) => R (.i (i + j)) M
  | .d (.tuple xs), .d (.tuple ys) => xs.length + ys.length ≤ sizeLine ∧ R (.d (.tuple (xs ++ ys))) M
  | .d (.str a), .d (.str b) => a.length + b.length ≤ sizeLine ∧ R (.s (a ++ b)) M
  | p, q => gCat p q M R
/-- t + u makes a plain tuple, or is one of them -/
theorem op_catF : OpR X (binaryOp .Add) (fun x y H Q => ∃ a b xs ys, x = V.ref a ∧ y = V.ref b ∧ SqT X.K H a xs ∧ SqT X.K H b ys ∧ xs.length + ys.length ≤ sizeLine ∧ (xs = [] → Q (.ref b) H) ∧ (ys = [] → Q (.ref a) H) ∧
    (xs ≠ [] → ys ≠ [] → ∀ p o, o.dict = none → H p = none → Q (.ref p) (upd H p (.frz o (.tup (xs ++ ys)))))) := by
  intro pins s st H x y v u Q I rx ry ⟨a, b, xs, ys, e1, e2, ha, hb, hz, q0, q1, q2⟩
  subst e1 e2
  by_cases hx : xs = []
  · exact op_catA pins s st H _ _ v u Q I rx ry ⟨a, b, xs, ys, rfl, rfl, ha, hb, hz, q0, fun _ e => q1 e, fun z => absurd hx z⟩
  · cases rx
    cases ry
    obtain ⟨us, r1, p1, _⟩ := I.tuple ha
    obtain ⟨ws, r2, p2, _⟩ := I.tuple hb
    have hl1 := r1.length
    have hl2 := r2.length
    refine HT.cat_tup p1 p2 (fun z => hx (r1.nil_iff.mp z)) (fun z => ⟨.ref a, H, I, rfl, q1 (r2.nil_iff.mp z)⟩) (fun z => ?_) (by omega)
    have r3 := r1.append r2
    generalize us ++ ws = cat at r3 ⊢
    let ob : Obj := { cls := .type "tuple", data := .seq cat.toArray }
    have got : (s.heap.push ob).get? s.heap.objs.size = some ob := Heap.get?_push_size _ rfl
    have J : Inv X pins st (upd H s.heap.objs.size (.frz ob (.tup (xs ++ ys)))) { s with heap := s.heap.push ob } := I.laid (t' := s.toks) (fun _ _ e => Heap.get?_push_of_some _ e) (Nat.le_refl _) ⟨got, by rw [List.length_append]; exact hz, cat, r3, ob, got, rfl, _, rfl⟩
    exact ⟨.ref s.heap.objs.size, _, J, rfl, q2 hx (fun w => z (r2.nil_iff.mpr w)) _ ob rfl (I.hok.fresh (Nat.le_refl _))⟩
theorem o_plus : OpD X (binaryOp .Add) gPlus := opD_of fun F H M x y p q R Q at0 h1 h2 h3 po => by
  unfold gPlus at h3
  split at h3
  · exact ⟨_, op_add, _, _, dq_int h1, dq_int h2, po _ F H _ M h3 (Go.refl at0) (.int _)⟩
  · obtain ⟨hz, hR⟩ := h3
    obtain ⟨a, vs, rfl, q1, q2⟩ := sqT_at at0 h1
    obtain ⟨b, us, rfl, q3, q4⟩ := sqT_at at0 h2
    refine ⟨_, op_catF, a, b, vs, us, rfl, rfl, q1, q3, by rw [dqAll_len q2, dqAll_len q4]; exact hz, fun e => ?_, fun e => ?_, fun _ _ c o ho hc => ?_⟩
    · subst e
      cases q2
      exact po _ F H _ M hR (Go.refl at0) h2
    · subst e
      cases q4
      rw [List.append_nil] at hR
      exact po _ F H _ M hR (Go.refl at0) h1
    · exact po_dat at0 po hc hR fun F' e h => .tup (.inl ⟨o, h, ho⟩) (dqAll_mono e (dqAll_app q2 q4))
  · exact ⟨_, op_add_str, _, _, dq_str h1, dq_str h2, h3.1, po _ F H _ M h3.2 (Go.refl at0) (.str _)⟩
  · obtain ⟨r, ho, hr⟩ := o_cat (X := X)
    exact ⟨r, ho, hr F H M x y _ _ R Q at0 h1 h2 h3 po⟩
abbrev gTimes : W2 := fun p q M R => match p, q with
  | .d (.int i), .d (.int j) => ((-(2 ^ 64) < i ∧ i < 2 ^ 64) ∨ (-(2 ^ 64) < j ∧ j < 2 ^ 64)) ∧ R (.i (i * j)) M
  | p, q => gRep p q M R
theorem o_times : OpD X (binaryOp .Mult) gTimes := opD_of fun F H M x y p q R Q at0 h1 h2 h3 po => by
  unfold gTimes at h3
  split at h3
  · exact ⟨_, op_mul, _, _, dq_int h1, dq_int h2, h3.1, po _ F H _ M h3.2 (Go.refl at0) (.int _)⟩
  · obtain ⟨r, ho, hr⟩ := o_rep (X := X)
    exact ⟨r, ho, hr F H M x y _ _ R Q at0 h1 h2 h3 po⟩

/-! ### names of the module -/
theorem pd_gI {x : Str} {i : Int} {pos : Pos} (hg : Gl X x) (h : ∃ t, X.mg x = some (.int i t)) (hd : (x == ("__debug__" : Str)) = false := by decide) : PD X (.Name x pos) (wC (.i i)) := by
  obtain ⟨t, h⟩ := h
  exact pd_c (pe_glob (v := .int i) hg h ⟨t, rfl⟩ hd) fun _ => .int i
theorem pd_gS {x : Str} {i : Str} {pos : Pos} (hg : Gl X x) (h : ∃ t, X.mg x = some (.str i t)) (hd : (x == ("__debug__" : Str)) = false := by decide) : PD X (.Name x pos) (wC (.s i)) := by
  obtain ⟨t, h⟩ := h
  exact pd_c (pe_glob (v := .str i) hg h ⟨t, rfl⟩ hd) fun _ => .str i
/-- a datum of the module's own -/
def GD (K : PySem.W.Frag) (mg : Str → Option Value) (x : Str) (d : PyData) : Prop := ∃ a, mg x = some (.ref a) ∧ ∀ F, Dq K F (.ref a) d
theorem pd_gD {x : Str} {d : PyData} {pos : Pos} (hg : Gl X x) (h : GD X.K X.mg x d) (hd : (x == ("__debug__" : Str)) = false := by decide) : PD X (.Name x pos) (wC (.d d)) := by
  obtain ⟨a, h, hq⟩ := h
  exact pd_c (pe_glob (v := .ref a) hg h rfl hd) hq
/-- a tuple of texts that the top has made -/
theorem gd_strs {K : PySem.W.Frag} {mg : Str → Option Value} {x : Str} {a : Addr} {n : Nat} {sl : Array (Option Value)} {its : Array Value} (ss : List Str) (hm : mg x = some (.ref a)) (hk : K.lookup a = some ⟨.type "tuple", none, .seq its n, sl⟩)
    (hv : Vals (ss.map V.str) its.toList) (hz : its.size ≤ sizeLine) : GD K mg x (.tuple (ss.map PyData.str)) := by
  refine ⟨a, hm, fun F => .tup (.inr ⟨_, its, n, hk, rfl, rfl, hz, hv, rfl⟩) ?_⟩
  clear hv
  induction ss with
  | nil => exact .nil
  | cons s r ih => exact .cons (.str s) ih

/-! ### calls of the module's defs -/
structure Has (P : Program) (w : World) (K : PySem.W.Frag) (mg : Str → Option Value) (base : Heap) (k : Nat) (x : Str) (st : Stmt) (ps : List Str) (cn : Cn) : Prop where
  ex : ∃ f fd, mg x = some (.ref f) ∧ Fun K x x st f fd ∧ Binds K fd ps [] ∧ FnD P w K mg base k f fd ps cn
theorem Has.mono {P : Program} {w : World} {K : PySem.W.Frag} {mg : Str → Option Value} {base : Heap} {j k : Nat} {x : Str} {st : Stmt} {ps : List Str} {cn : Cn} (h : Has P w K mg base j x st ps cn) (l : j ≤ k) : Has P w K mg base k x st ps cn := by
  obtain ⟨f, fd, a, b, c, d⟩ := h.ex
  exact ⟨f, fd, a, b, c, d.mono l⟩
theorem Has.imp {P : Program} {w : World} {K : PySem.W.Frag} {mg : Str → Option Value} {base : Heap} {k : Nat} {x : Str} {st : Stmt} {ps : List Str} {cn cn' : Cn} (h : Has P w K mg base k x st ps cn) (i : ∀ rs M R, cn' rs M R → cn rs M R) : Has P w K mg base k x st ps cn' := by
  obtain ⟨f, fd, a, b, c, d⟩ := h.ex
  exact ⟨f, fd, a, b, c, d.imp i⟩
variable {k : Nat} {x : Str} {st : Stmt} {ps : List Str} {cn : Cn} {p pos : Pos} {e : Expr} {es : List Expr} {wa : WA}
theorem pd_fn (h : Has X.prog X.w X.K X.mg X.base k x st ps cn) (hgd : X.A.guards = some []) (hr : Room k X.A) (hg : Gl X x) (ha : PDA X (e :: es) wa)
    (hdb : (x == ("__debug__" : Str)) = false := by decide) (he : starEach (e :: es) X.env = (false, eval e X.env) :: starEach es X.env := by rfl) (hpl : (backTo pos (starEach es X.env)).any (·.1) = false := by rfl) : PD X (.Call (.Name x p) (e :: es) [] pos) (wCall cn wa) := by
  obtain ⟨f, fd, a, b, c, d⟩ := h.ex
  exact pd_call d hgd hr hg a b.kp c ha hdb he hpl
/-- keywords -/
def PDK (X : Cx) (kws : List Keyword) (w : WA) : Prop := L2.PK X kws (tDA X.K w)
theorem pk_imp {kws : List Keyword} {t u : TA} (h : L2.PK X kws t) (i : ∀ s H Q, u s H Q → t s H Q) : L2.PK X kws u := ⟨fun po pins s sg H Q I q => h.run po pins s sg H Q I (i sg H Q q)⟩
theorem pdk_nil : PDK X [] wNil := pk_imp pk_nil fun _ H _ ⟨F, _, M, _, _, at0, hw, po⟩ => po [] F H [] M hw (Go.refl at0) .nil
theorem pdk_cons {kws : List Keyword} {we : WE} {wr : WA} {nm : Option Str} {kpos : Pos} (ha : PD X e we) (hr : PDK X kws wr) : PDK X (⟨nm, e, kpos⟩ :: kws) (wCons we wr) := by
  refine pk_imp (pk_cons ha hr) fun sg H Q ⟨F, dl, M, R, so, at0, hw, po⟩ => ?_
  refine tD_to so at0 hw fun v F1 H1 p M1 h1 g1 so1 at1 i1 => ?_
  exact tDA_to so1 at1 h1 fun vs F2 H2 rs M2 h2 g2 so2 at2 i2 => po (v :: vs) F2 H2 (p :: rs) M2 h2 (g1.trans g2) (.cons (is_mono g2.ex i1) i2)
/-- f(k = v, ..), no places: pm puts the keywords' values in the parameters' order -/
abbrev wCallK (cn : Cn) (pm : {A : Type} → List A → List A) (wa : WA) : WE := fun dl M R => wa dl M fun rs M1 => cn (pm rs) M1 R
theorem pd_fnK {kws : List Keyword} {ks : List Str} (pm : {A : Type} → List A → List A) (h : Has X.prog X.w X.K X.mg X.base k x st ps cn) (hgd : X.A.guards = some []) (hr : Room k X.A) (hg : Gl X x) (hkw : PDK X kws wa)
    (hb : ∀ (kV doc pmv : Value) (an : Option Addr) (cdv ct : Value) (ws : List Value), (pm ws).length = ps.length → bindArgs (PySem.W.fnOf x x (defArgs st) (defBody st) (defScope st) .none kV doc pmv an cdv ct) ⟨[], ks.zip ws⟩ = pure (ps.zip (pm ws)))
    (hpm : ∀ {A B : Type} (R : A → B → Prop) (as : List A) (bs : List B), Paired R as bs → Paired R (pm as) (pm bs)) (hpm2 : ∀ {A B : Type} (R : A → B → Prop) (as : List A) (bs : List B), All2 R as bs → All2 R (pm as) (pm bs))
    (hall : (backToKw pos (keywordEach kws X.env)).all (·.1.isSome) = true := by rfl) (hks : (backToKw pos (keywordEach kws X.env)).filterMap (·.1) = ks := by rfl) (hdb : (x == ("__debug__" : Str)) = false := by decide)
    (hpl : ((backTo pos (starEach [] X.env)).any (·.1) || (backToKw pos (keywordEach kws X.env)).any (·.1.isNone)) = false := by rfl) : PD X (.Call (.Name x p) [] kws pos) (wCallK cn pm wa) := by
  obtain ⟨f, fd, hm, Fu, _, G⟩ := h.ex
  obtain ⟨oc, od, kV, doc, pmv, an, cdv, ct, osl, rfl, lk, hcd⟩ := Fu.ex
  refine ⟨fun pins s sg H Q I h => ?_⟩
  obtain ⟨F, dl, M, R, so, at0, hw, po⟩ := h
  refine wpAny_Call_Name_kw (ld_glob I hg hm ?_ hdb)
  refine PySem.W.callWith_KW0 (h₀ := X.base) I.ok.mod.kin Fu.kp hall ?_ hpl
  refine thn (L2.PK.run hkw pos pins s sg H _ I (tDA_to (Q := fun vs H' => spD X.K cn (pm vs) H' Q) so at0 hw fun vs F1 H1 rs M1 h1 g1 so1 at1 i1 => spD_of at1 (hpm2 _ _ _ i1) h1 (po.mono g1))) fun ws s1 ⟨zs, H1, I1, rz, q1⟩ => ⟨I1.kIn, ?_⟩
  rw [hks]
  have hl := G.lenV q1
  have rv := hpm _ _ _ rz
  exact run_fnD G hgd hr (.of_eq (hb kV doc pmv an cdv ct ws (by rw [← Vals.length rv]; exact hl))) I1 rv q1
/-- a def of the text gives a Has -/
theorem Has.of {P : Program} {w : World} {K : PySem.W.Frag} {mg : Str → Option Value} {base : Heap} {f : Addr} {fd : FuncData} (hm : mg x = some (.ref f)) (Fu : Fun K x x st f fd)
    (hb : ∀ (kV doc pm : Value) (an : Option Addr) (cdv ct : Value) (us : List Value), us.length = ps.length → bindArgs (PySem.W.fnOf x x (defArgs st) (defBody st) (defScope st) .none kV doc pm an cdv ct) ⟨us, []⟩ = pure (ps.zip us))
    (G : FnD P w K mg base k f fd ps cn) : Has P w K mg base k x st ps cn := ⟨f, fd, hm, Fu, Fu.binds hb, G⟩
end
end DL

set_option Elab.async false
set_option linter.all false
set_option maxRecDepth 100000
set_option maxHeartbeats 4000000
/-! DH: what is walked: any sequence, enumerate, zip. -/
namespace DL
open PySem PySem.Spec L2
open Evl (Ex)
section
variable {X : Cx} {tg e e2 : Expr} {we : WE} {wa : WA} {p pos tpos : Pos} {elts : List Expr} {kk : Nat}
/-- a list or a tuple, as the value is -/
abbrev wiS (we : WE) : WI := fun dl M T => we dl M fun r M1 => match r with
  | .d (.list ds) => T (ds.map Sl.d) C0 M1
  | .d (.tuple ds) => T (ds.map Sl.d) C0 M1
  | .v (.ref p) => ∃ ss, M1 p = some (.lst ss) ∧ T ss (fun M => M p = some (.lst ss)) M1
  | .r ns => T (ns.map fun n => Sl.i n) C0 M1
  | _ => False
theorem iter_l {pins : List (Addr × Obj)} {st : L2.St} {H : Hp} {s : Shared} {a : Addr} {xs : List V} {R : It → Hp → Prop} (I : Inv X pins st H s) (h : SqL X.K H a xs) (q : R (Itl X.K a) H) : wpAny (model X.prog X.w) X.A (pyIter (.ref a)) (PIE X pins st tg R) X.xe s := by
  obtain ⟨its, rv, pl, hz⟩ := I.list h
  refine wpAny_pyIter_list pl.isList ⟨s.heap.objs.size, [s.heap.objs.size], _, _, H, rfl, I.kept (t' := s.toks) fun b o z => Heap.get?_push_of_some _ z, turn_list a _, ⟨_, Heap.get?_push_size _ rfl, rfl, rfl⟩, fun b hb => ?_, q⟩
  obtain rfl : b = s.heap.objs.size := by simpa using hb
  exact I.fpOk (Nat.le_refl _) (I.hok.fresh (Nat.le_refl _))
theorem iter_t {pins : List (Addr × Obj)} {st : L2.St} {H : Hp} {s : Shared} {a : Addr} {xs : List V} {R : It → Hp → Prop} (I : Inv X pins st H s) (h : SqT X.K H a xs) (q : R (Itt X.K a) H) : wpAny (model X.prog X.w) X.A (pyIter (.ref a)) (PIE X pins st tg R) X.xe s := by
  obtain ⟨its, rv, pl, hz⟩ := I.tuple h
  refine wpAny_pyIter_tuple (show s.heap.IsTuple a its.toArray from pl) ⟨s.heap.objs.size, [s.heap.objs.size], _, _, H, rfl, I.kept (t' := s.toks) fun b o z => Heap.get?_push_of_some _ z, turn_tuple a _, ⟨_, Heap.get?_push_size _ rfl, rfl, rfl⟩, fun b hb => ?_, q⟩
  obtain rfl : b = s.heap.objs.size := by simpa using hb
  exact I.fpOk (Nat.le_refl _) (I.hok.fresh (Nat.le_refl _))
theorem pdi_seq (he : PD X e we) : PDI X tg e (wiS we) := by
  refine ⟨fun pins s st H R I h => ?_⟩
  obtain ⟨F, dl, M, T, so, at0, hw, po⟩ := h
  refine thn (PE.run he pins s st H (fun x H1 => ∃ a, x = .ref a ∧ ((∃ xs, SqL X.K H1 a xs ∧ R (Itl X.K a) H1) ∨ ∃ xs, SqT X.K H1 a xs ∧ R (Itt X.K a) H1)) I (tD_to so at0 hw fun v F1 H1 r M1 h1 g1 so1 at1 i1 => ?_)) fun v s1 ⟨x, H1, I1, r1, q1⟩ => ?_
  · split at h1
    · cases i1 with
      | lst q1 q2 =>
        exact ⟨_, rfl, .inl ⟨_, SqL.of (at1.ex _ _ q1), po F1 M1 H1 _ _ _ h1 g1 (wk_list (vs := []) fun F' M' H' e at' _ => ⟨_, SqL.of (at'.ex _ _ (e _ _ q1)), isAll_mono e (isAll_d q2)⟩)⟩⟩
    · obtain ⟨a, vs, rfl, q1, q2⟩ := sqT_at at1 i1
      refine ⟨a, rfl, .inr ⟨vs, q1, po F1 M1 H1 _ _ _ h1 g1 (wk_tup fun F' M' H' e at' _ => ?_)⟩⟩
      obtain ⟨b, us, e2, z1, z2⟩ := sqT_at at' (dq_mono e i1)
      cases e2
      exact ⟨us, z1, isAll_d z2⟩
    · rename_i q
      have i2 : v = .ref q := i1
      subst i2
      obtain ⟨ss, q0, h1⟩ := h1
      obtain ⟨_, vs, q1, q2⟩ := at1.mem q _ q0
      refine ⟨q, rfl, .inl ⟨vs, SqL.of q1, po F1 M1 H1 _ _ _ h1 g1 (wk_list (vs := []) fun F' M' H' e at' c => ?_)⟩⟩
      obtain ⟨_, us, z1, z2⟩ := at'.mem q _ c
      exact ⟨us, SqL.of z1, z2⟩
    · obtain ⟨a, rfl, q2⟩ := i1
      exact ⟨a, rfl, .inl ⟨_, ex_l at1.ex q2, po F1 M1 H1 _ _ _ h1 g1 (wk_list (vs := []) fun F' M' H' e at' _ => ⟨_, ex_l at'.ex (ex_l e q2), isAll_ints _⟩)⟩⟩
    · exact h1.elim
  · obtain ⟨a, rfl, hq⟩ := q1
    cases r1
    rcases hq with ⟨xs, h, q⟩ | ⟨xs, h, q⟩
    · exact iter_l I1 h q
    · exact iter_t I1 h q

/-! ### enumerate -/
def enumS (ds : List PyData) : List Sl := (ds.zipIdx 0).map fun (p : PyData × Nat) => Sl.w [.int (p.2 : Int), p.1]
abbrev wiEnum (wa : WA) : WI := fun dl M T => wa dl M fun rs M1 => match rs with
  | [.d (.list ds)] => T (enumS ds) C0 M1
  | _ => False
theorem enumS_get {ds : List PyData} {i : Nat} {r : Sl} (h : (enumS ds)[i]? = some r) : ∃ d, ds[i]? = some d ∧ r = .w [.int (i : Int), d] := by
  unfold enumS at h
  rw [List.getElem?_map] at h
  obtain ⟨q, h1, rfl⟩ := Option.map_eq_some_iff.mp h
  rw [List.getElem?_zipIdx] at h1
  obtain ⟨d, h2, rfl⟩ := Option.map_eq_some_iff.mp h1
  exact ⟨d, h2, by simp⟩
theorem enumS_len (ds : List PyData) : (enumS ds).length = ds.length := by unfold enumS; rw [List.length_map, List.length_zipIdx]
theorem dqAll_get {K : PySem.W.Frag} {F : Hp} {ds : List PyData} {vs : List V} {i : Nat} {d : PyData} (h : DqAll K F vs ds) (e : ds[i]? = some d) : ∃ v, vs[i]? = some v ∧ Dq K F v d := by
  obtain ⟨v, h1, h2⟩ := (isAll_d h).get (i := i) (a := Sl.d d) (by rw [List.getElem?_map, e]; rfl)
  exact ⟨v, h1, h2⟩
theorem pdi_enum (hg : Gl X "enumerate") (hm : X.mg "enumerate" = none) (ha : PDA X [e] wa) (hs : starEach [e] X.env = [(false, eval e X.env)] := by rfl) : PDI X (.Tuple elts kk tpos) (.Call (.Name "enumerate" p) [e] [] pos) (wiEnum wa) :=
  pi_imp (pi_enum hg hm ha hs) fun st H Q ⟨F, dl, M, T, so, at0, hw, po⟩ =>
    tDA_to so at0 hw fun vs F1 H1 rs M1 h1 g1 so1 at1 i1 => by
      split at h1
      · obtain ⟨v, rfl, i2⟩ := isAll1 i1
        cases i2 with
        | @lst a us ds q1 q2 =>
          refine ⟨a, us, rfl, SqL.of (at1.ex _ _ q1), po F1 M1 H1 _ _ _ h1 g1 ⟨fun F M H i e at0 c hi => ?_, fun F M H i x H' r e at0 c y hr => ?_, fun F M H e at0 c => ?_⟩⟩
          · rw [enumS_len] at hi
            obtain ⟨v, z1, z2⟩ := dqAll_get (i := i) q2 (List.getElem?_eq_getElem hi)
            exact ⟨us, v, SqL.of (at0.ex _ _ (e _ _ q1)), z1⟩
          · obtain ⟨Tp, xv, rfl, hT, rfl, hx⟩ := y
            obtain ⟨d, hd, rfl⟩ := enumS_get hr
            obtain ⟨v, z1, z2⟩ := dqAll_get (i := i) q2 hd
            have hxv := hx us (SqL.of (at0.ex _ _ (e _ _ q1)))
            rw [z1] at hxv
            obtain rfl : v = xv := Option.some.inj hxv
            have g := Go.laid at0 (o := .tup [.int (i : Int), v]) hT
            exact ⟨_, g, _, _, rfl, .inl (.inl upd_same), .cons (.int _) (.cons (dq_mono (e.trans g.ex) z2) .nil)⟩
          · rw [enumS_len]
            exact ⟨us, SqL.of (at0.ex _ _ (e _ _ q1)), by rw [dqAll_len q2]; exact Nat.le_refl _⟩
      · exact h1.elim

/-! ### zip of two lists, of two tuples -/
def zipS (xs ys : List PyData) : List Sl := (xs.zip ys).map fun (p : PyData × PyData) => Sl.w [p.1, p.2]
theorem zipS_get {xs ys : List PyData} {i : Nat} {r : Sl} (h : (zipS xs ys)[i]? = some r) : ∃ x y, xs[i]? = some x ∧ ys[i]? = some y ∧ r = .w [x, y] := by
  unfold zipS at h
  rw [List.getElem?_map] at h
  obtain ⟨q, h1, rfl⟩ := Option.map_eq_some_iff.mp h
  rw [List.getElem?_zip_eq_some] at h1
  exact ⟨q.1, q.2, h1.1, h1.2, rfl⟩
theorem zipS_len (xs ys : List PyData) : (zipS xs ys).length = min xs.length ys.length := by unfold zipS; rw [List.length_map, List.length_zip]
abbrev wiZip (wa : WA) : WI := fun dl M T => wa dl M fun rs M1 => match rs with
  | [.d (.list xs), .d (.list ys)] => T (zipS xs ys) C0 M1
  | [.d (.tuple xs), .d (.tuple ys)] => T (zipS xs ys) C0 M1
  | _ => False
theorem pdi_zip (hg : Gl X "zip") (hm : X.mg "zip" = none) (ha : PDA X [e, e2] wa) (hs : starEach [e, e2] X.env = (false, eval e X.env) :: starEach [e2] X.env := by rfl) (hpl : (backTo pos (starEach [e2] X.env)).any (·.1) = false := by rfl) :
    PDI X (.Tuple elts kk tpos) (.Call (.Name "zip" p) [e, e2] [] pos) (wiZip wa) :=
  pi_imp (RZ.pi_zipA hg hm ha hs hpl) fun st H Q ⟨F, dl, M, T, so, at0, hw, po⟩ =>
    tDA_to so at0 hw fun vs F1 H1 rs M1 h1 g1 so1 at1 i1 => by
      split at h1
      · rename_i xs ys
        obtain ⟨v, u, rfl, i2, i3⟩ := isAll2 i1
        cases i2 with
        | @lst a us _ q1 q2 =>
          cases i3 with
          | @lst b ws _ q3 q4 =>
            refine ⟨a, b, us, ws, rfl, .inl ⟨SqL.of (at1.ex _ _ q1), SqL.of (at1.ex _ _ q3), po F1 M1 H1 _ _ _ h1 g1 ⟨fun F M H i e at0 c hi => ?_, fun F M H i x H' r e at0 c y hr => ?_, fun F M H e at0 c => ?_⟩⟩⟩
            · rw [zipS_len] at hi
              obtain ⟨v1, z1, _⟩ := dqAll_get (i := i) q2 (List.getElem?_eq_getElem (by omega))
              obtain ⟨v2, z2, _⟩ := dqAll_get (i := i) q4 (List.getElem?_eq_getElem (by omega))
              exact ⟨us, ws, v1, v2, SqL.of (at0.ex _ _ (e _ _ q1)), SqL.of (at0.ex _ _ (e _ _ q3)), z1, z2⟩
            · obtain ⟨Tp, x1, x2, rfl, hT, rfl, hx, hy⟩ := y
              obtain ⟨d1, d2, e1, e2, rfl⟩ := zipS_get hr
              obtain ⟨v1, z1, w1⟩ := dqAll_get (i := i) q2 e1
              obtain ⟨v2, z2, w2⟩ := dqAll_get (i := i) q4 e2
              have hx1 := hx us (SqL.of (at0.ex _ _ (e _ _ q1)))
              have hx2 := hy ws (SqL.of (at0.ex _ _ (e _ _ q3)))
              rw [z1] at hx1; rw [z2] at hx2
              obtain rfl : v1 = x1 := Option.some.inj hx1
              obtain rfl : v2 = x2 := Option.some.inj hx2
              have g := Go.laid at0 (o := .tup [v1, v2]) hT
              exact ⟨_, g, _, _, rfl, .inl (.inl upd_same), .cons (dq_mono (e.trans g.ex) w1) (.cons (dq_mono (e.trans g.ex) w2) .nil)⟩
            · rw [zipS_len]
              refine ⟨us, ws, SqL.of (at0.ex _ _ (e _ _ q1)), SqL.of (at0.ex _ _ (e _ _ q3)), ?_⟩
              rw [dqAll_len q2, dqAll_len q4]
              omega
      · rename_i xs ys
        obtain ⟨v, u, rfl, i2, i3⟩ := isAll2 i1
        obtain ⟨a, us, rfl, q1, q2⟩ := sqT_at at1 i2
        obtain ⟨b, ws, rfl, q3, q4⟩ := sqT_at at1 i3
        have la : ∀ F M H, Ex F1 F → At X.K F M H → ∃ us, SqT X.K H a us ∧ DqAll X.K F us xs := fun F M H e at' => by
          obtain ⟨c, zs, e2, z1, z2⟩ := sqT_at at' (dq_mono e i2)
          cases e2
          exact ⟨zs, z1, z2⟩
        have lb : ∀ F M H, Ex F1 F → At X.K F M H → ∃ us, SqT X.K H b us ∧ DqAll X.K F us ys := fun F M H e at' => by
          obtain ⟨c, zs, e2, z1, z2⟩ := sqT_at at' (dq_mono e i3)
          cases e2
          exact ⟨zs, z1, z2⟩
        refine ⟨a, b, us, ws, rfl, .inr ⟨q1, q3, po F1 M1 H1 _ _ _ h1 g1 ⟨fun F M H i e at0 c hi => ?_, fun F M H i x H' r e at0 c y hr => ?_, fun F M H e at0 c => ?_⟩⟩⟩
        · rw [zipS_len] at hi
          obtain ⟨us, s1, q2⟩ := la F M H e at0
          obtain ⟨ws, s2, q4⟩ := lb F M H e at0
          obtain ⟨v1, z1, _⟩ := dqAll_get (i := i) q2 (List.getElem?_eq_getElem (by omega))
          obtain ⟨v2, z2, _⟩ := dqAll_get (i := i) q4 (List.getElem?_eq_getElem (by omega))
          exact ⟨us, ws, v1, v2, s1, s2, z1, z2⟩
        · obtain ⟨us, s1, q2⟩ := la F M H e at0
          obtain ⟨ws, s2, q4⟩ := lb F M H e at0
          obtain ⟨Tp, x1, x2, rfl, hT, rfl, hx, hy⟩ := y
          obtain ⟨d1, d2, e1, e2, rfl⟩ := zipS_get hr
          obtain ⟨v1, z1, w1⟩ := dqAll_get (i := i) q2 e1
          obtain ⟨v2, z2, w2⟩ := dqAll_get (i := i) q4 e2
          have hx1 := hx us s1
          have hx2 := hy ws s2
          rw [z1] at hx1; rw [z2] at hx2
          obtain rfl : v1 = x1 := Option.some.inj hx1
          obtain rfl : v2 = x2 := Option.some.inj hx2
          have g := Go.laid at0 (o := .tup [v1, v2]) hT
          exact ⟨_, g, _, _, rfl, .inl (.inl upd_same), .cons (dq_mono g.ex w1) (.cons (dq_mono g.ex w2) .nil)⟩
        · obtain ⟨us, s1, q2⟩ := la F M H e at0
          obtain ⟨ws, s2, q4⟩ := lb F M H e at0
          rw [zipS_len]
          refine ⟨us, ws, s1, s2, ?_⟩
          rw [dqAll_len q2, dqAll_len q4]
          omega
      · exact h1.elim
end
end DL

set_option Elab.async false
set_option linter.all false
set_option maxRecDepth 100000
set_option maxHeartbeats 4000000
/-! DI: how readings are run. -/
namespace DL
open PySem PySem.Spec L2
/-! ### what is looked up -/
section
variable {A B C : Type} {o : Option A} {f : A → Option B} {g : A → B → Option C} {a : A} {b : B} {c : C}
theorem e1 {k : A → Prop} (h : o = some a) (hk : k a) : ∃ x, o = some x ∧ k x := ⟨a, h, hk⟩
theorem e1s {o : Option (Option A)} {k : A → Prop} (h : o = some (some a)) (hk : k a) : ∃ x, o = some (some x) ∧ k x := ⟨a, h, hk⟩
theorem e2 {k : A → B → Prop} (h : o = some a) (h2 : f a = some b) (hk : k a b) : ∃ x y, o = some x ∧ f x = some y ∧ k x y := ⟨a, b, h, h2, hk⟩
theorem e3 {k : A → B → C → Prop} (h : o = some a) (h2 : f a = some b) (h3 : g a b = some c) (hk : k a b c) : ∃ x y z, o = some x ∧ f x = some y ∧ g x y = some z ∧ k x y z := ⟨a, b, c, h, h2, h3, hk⟩
theorem e0 (h : o = some a) : ∃ x, o = some x := ⟨a, h⟩
theorem e0a {k : Prop} (h : o = some a) (hk : k) : (∃ x, o = some x) ∧ k := ⟨⟨a, h⟩, hk⟩
end
section
variable {B : Type} {o : Option MO} {ss : List Sl} {f : List Sl → Option B} {b : B}
theorem l1 {k : List Sl → Prop} (h : o = some (.lst ss)) (hk : k ss) : ∃ x, o = some (.lst x) ∧ k x := ⟨ss, h, hk⟩
theorem l2 {k : List Sl → B → Prop} (h : o = some (.lst ss)) (h2 : f ss = some b) (hk : k ss b) : ∃ x y, o = some (.lst x) ∧ f x = some y ∧ k x y := ⟨ss, b, h, h2, hk⟩
end
theorem gN_go {i : Nat} {r : Sl} {dl dl' : Env'} {M : Mem} {R : Env' → Mem → Prop} (h : dl.set i (some r) = dl') (hk : R dl' M) : gN i r dl M R := by subst h; exact hk
/-! ### a tuple taken apart -/
section
variable {ws : WGs} {dl : Env'} {M : Mem} {R : Env' → Mem → Prop} {x0 x1 x2 x3 x4 x5 x6 x7 : PyData}
theorem gt1_go (h : ws [.d x0] dl M R) : gTup' 1 ws (.d (.tuple [x0])) dl M R := ⟨rfl, h⟩
theorem gt2_go (h : ws [.d x0, .d x1] dl M R) : gTup' 2 ws (.d (.tuple [x0, x1])) dl M R := ⟨rfl, h⟩
theorem gt3_go (h : ws [.d x0, .d x1, .d x2] dl M R) : gTup' 3 ws (.d (.tuple [x0, x1, x2])) dl M R := ⟨rfl, h⟩
theorem gt4_go (h : ws [.d x0, .d x1, .d x2, .d x3] dl M R) : gTup' 4 ws (.d (.tuple [x0, x1, x2, x3])) dl M R := ⟨rfl, h⟩
theorem gt5_go (h : ws [.d x0, .d x1, .d x2, .d x3, .d x4] dl M R) : gTup' 5 ws (.d (.tuple [x0, x1, x2, x3, x4])) dl M R := ⟨rfl, h⟩
theorem gt6_go (h : ws [.d x0, .d x1, .d x2, .d x3, .d x4, .d x5] dl M R) : gTup' 6 ws (.d (.tuple [x0, x1, x2, x3, x4, x5])) dl M R := ⟨rfl, h⟩
theorem gt7_go (h : ws [.d x0, .d x1, .d x2, .d x3, .d x4, .d x5, .d x6] dl M R) : gTup' 7 ws (.d (.tuple [x0, x1, x2, x3, x4, x5, x6])) dl M R := ⟨rfl, h⟩
theorem gt8_go (h : ws [.d x0, .d x1, .d x2, .d x3, .d x4, .d x5, .d x6, .d x7] dl M R) : gTup' 8 ws (.d (.tuple [x0, x1, x2, x3, x4, x5, x6, x7])) dl M R := ⟨rfl, h⟩
theorem gw1_go (h : ws [.d x0] dl M R) : gTup' 1 ws (.w [x0]) dl M R := ⟨rfl, h⟩
theorem gw2_go (h : ws [.d x0, .d x1] dl M R) : gTup' 2 ws (.w [x0, x1]) dl M R := ⟨rfl, h⟩
theorem gw3_go (h : ws [.d x0, .d x1, .d x2] dl M R) : gTup' 3 ws (.w [x0, x1, x2]) dl M R := ⟨rfl, h⟩
theorem gw4_go (h : ws [.d x0, .d x1, .d x2, .d x3] dl M R) : gTup' 4 ws (.w [x0, x1, x2, x3]) dl M R := ⟨rfl, h⟩
theorem gw5_go (h : ws [.d x0, .d x1, .d x2, .d x3, .d x4] dl M R) : gTup' 5 ws (.w [x0, x1, x2, x3, x4]) dl M R := ⟨rfl, h⟩
theorem gw6_go (h : ws [.d x0, .d x1, .d x2, .d x3, .d x4, .d x5] dl M R) : gTup' 6 ws (.w [x0, x1, x2, x3, x4, x5]) dl M R := ⟨rfl, h⟩
theorem gw7_go (h : ws [.d x0, .d x1, .d x2, .d x3, .d x4, .d x5, .d x6] dl M R) : gTup' 7 ws (.w [x0, x1, x2, x3, x4, x5, x6]) dl M R := ⟨rfl, h⟩
theorem gw8_go (h : ws [.d x0, .d x1, .d x2, .d x3, .d x4, .d x5, .d x6, .d x7] dl M R) : gTup' 8 ws (.w [x0, x1, x2, x3, x4, x5, x6, x7]) dl M R := ⟨rfl, h⟩
end
/-! ### both ways -/
theorem if_go {k : Bool} {a b : Prop} (h1 : k = true → a) (h2 : k = false → b) : if k = true then a else b := by
  cases k
  · exact h2 rfl
  · exact h1 rfl
theorem ifd_go {p a b : Prop} [Decidable p] (h1 : p → a) (h2 : ¬ p → b) : if decide p = true then a else b := by
  by_cases h : p
  · rw [decide_eq_true h]; exact h1 h
  · rw [decide_eq_false h]; exact h2 h
theorem ifnd_go {p a b : Prop} [Decidable p] (h1 : ¬ p → a) (h2 : p → b) : if (!decide p) = true then a else b := by
  by_cases h : p
  · rw [decide_eq_true h]; exact h2 h
  · rw [decide_eq_false h]; exact h1 h
theorem ifT_go {c : Bool} {a b : Prop} (h : c = true) (k : a) : if c = true then a else b := by rw [if_pos h]; exact k
theorem ifF_go {c : Bool} {a b : Prop} (h : c = false) (k : b) : if c = true then a else b := by rw [if_neg (by rw [h]; exact Bool.false_ne_true)]; exact k
theorem ift_go {a b : Prop} (h : a) : if true = true then a else b := h
theorem iff_go {a b : Prop} (h : b) : if false = true then a else b := h
/-- what stands between two statements -/
theorem seq_cut {w u : WS} {P : PK} {dl : Env'} {M : Mem} (Q : Env' → Mem → Prop) (h2 : ∀ dl M, Q dl M → u P dl M) (h1 : ∀ nx, (∀ dl M, Q dl M → nx dl M) → w { P with nx := nx } dl M) : wSeq w u P dl M := h1 _ h2
/-! ### memory -/
theorem upM_self {M : Mem} {a : Addr} {o : MO} (h : M a = some o) : upM M a o = M := by
  funext b; unfold upM; split
  · rename_i e; subst e; exact h.symm
  · rfl
theorem upM_comm {M : Mem} {a b : Addr} {o u : MO} (h : a ≠ b) : upM (upM M a o) b u = upM (upM M b u) a o := by
  funext c; unfold upM; split
  · rename_i e; subst e; rw [if_neg (Ne.symm h)]
  · rfl
/-! ### places -/
section
variable {A : Type} {a b c d e f g : A} {l : List A}
theorem atI_nat {i : Nat} {x : A} (h : l[i]? = some x) : atI l (i : Int) = some x := by
  have hi : i < l.length := (List.getElem?_eq_some_iff.mp h).1
  unfold atI ixN
  rw [if_pos (Int.natCast_nonneg i), if_pos (by omega)]
  show l[((i : Nat) : Int).toNat]? = some x
  rw [Int.toNat_natCast]; exact h
theorem atI_int {i : Int} {x : A} (h0 : 0 ≤ i) (h : l[i.toNat]? = some x) : atI l i = some x := by
  have := atI_nat h
  rwa [Int.toNat_of_nonneg h0] at this
end
end DL

set_option Elab.async false
set_option linter.all false
set_option maxRecDepth 100000
set_option maxHeartbeats 4000000
/-! DJ: loops by a law of their own; how long a datum's text is. -/
namespace DL
open PySem PySem.Spec L2
/-! ### loops -/
theorem for_ind {g : WG} {wb : WS} {C : Mem → Prop} {P : PK} (I : List Sl → Env' → Mem → Prop) (h0 : ∀ dl M, I [] dl M → C M ∧ P.nx dl M)
    (h1 : ∀ x xs (nx : Env' → Mem → Prop) dl M, (∀ dl M, I xs dl M → nx dl M) → I (x :: xs) dl M → C M ∧ g x dl M fun dl2 M2 => wb { nx := nx, rt := P.rt, bk := P.nx, ct := nx } dl2 M2) :
    ∀ {items : List Sl} {dl : Env'} {M : Mem}, I items dl M → forGo g wb C P items dl M
  | [], dl, M, h => h0 dl M h
  | x :: xs, dl, M, h => h1 x xs _ dl M (fun dl M h => for_ind I h0 h1 h) h
theorem lc_ind {g : WG} {wt : WT} {we : WE} {C : Mem → Prop} {dl : Env'} {R : List Sl → Mem → Prop} (I : List Sl → List Sl → Mem → Prop) (h0 : ∀ acc M, I [] acc M → C M ∧ R acc M)
    (h1 : ∀ x xs acc M (nx : List Sl → Mem → Prop), (∀ acc M, I xs acc M → nx acc M) → I (x :: xs) acc M → C M ∧ g x dl M fun dl2 M2 => wt dl2 M2 fun k M3 => if k = true then we dl2 M3 fun y M4 => acc.length < sizeLine ∧ nx (acc ++ [y]) M4 else nx acc M3) :
    ∀ {items acc : List Sl} {M : Mem}, I items acc M → lcGo g wt we C dl R items acc M
  | [], acc, M, h => h0 acc M h
  | x :: xs, acc, M, h => h1 x xs acc M _ (fun acc M h => lc_ind I h0 h1 h) h
/-- a comprehension that changes nothing -/
theorem lc_map {g : WG} {wt : WT} {we : WE} {C : Mem → Prop} {dl : Env'} {R : List Sl → Mem → Prop} {items : List Sl} {M : Mem} (f : Sl → Option Sl) (hC : C M) (hz : items.length ≤ sizeLine)
    (h : ∀ x ∈ items, ∀ (k1 : Sl → Mem → Prop) (k0 : Mem → Prop), (∀ y, f x = some y → k1 y M) → (f x = none → k0 M) → g x dl M fun dl2 M2 => wt dl2 M2 fun k M3 => if k = true then we dl2 M3 k1 else k0 M3)
    (hR : R (items.filterMap f) M) : lcGo g wt we C dl R items [] M := by
  refine lc_ind (fun xs acc M' => M' = M ∧ acc.length + xs.length ≤ items.length ∧ (∀ x ∈ xs, x ∈ items) ∧ acc ++ xs.filterMap f = items.filterMap f) (fun acc M' ⟨e, hl, _, ha⟩ => ?_) (fun x xs acc M' nx hnx ⟨e, hl, hm, ha⟩ => ?_) ⟨rfl, by simp, fun _ q => q, rfl⟩
  · subst e
    rw [List.filterMap_nil, List.append_nil] at ha
    subst ha
    exact ⟨hC, hR⟩
  · subst e
    rw [List.length_cons] at hl
    refine ⟨hC, h x (hm x List.mem_cons_self) _ _ (fun y hy => ⟨by omega, hnx _ _ ⟨rfl, by simp; omega, fun z q => hm z (List.mem_cons_of_mem _ q), ?_⟩⟩) fun hy => hnx _ _ ⟨rfl, by omega, fun z q => hm z (List.mem_cons_of_mem _ q), ?_⟩⟩
    · rw [List.filterMap_cons_some hy] at ha
      rw [List.append_assoc]; exact ha
    · rw [List.filterMap_cons_none hy] at ha
      exact ha
theorem fm_some (f : PyData → PyData) : ∀ ds : List PyData, (ds.map Sl.d).filterMap (fun x => match x with | .d d => some (.d (f d)) | _ => none) = (ds.map f).map Sl.d
  | [] => rfl
  | a :: r => by
    simp only [List.map_cons, List.filterMap_cons, fm_some f r]
theorem lc_mapD {g : WG} {wt : WT} {we : WE} {C : Mem → Prop} {dl : Env'} {R : List Sl → Mem → Prop} {ds : List PyData} {M : Mem} (f : PyData → PyData) (hC : C M) (hz : ds.length ≤ sizeLine)
    (h : ∀ d ∈ ds, ∀ (k1 : Sl → Mem → Prop) (k0 : Mem → Prop), k1 (.d (f d)) M → g (.d d) dl M fun dl2 M2 => wt dl2 M2 fun k M3 => if k = true then we dl2 M3 k1 else k0 M3)
    (hR : R ((ds.map f).map Sl.d) M) : lcGo g wt we C dl R (ds.map Sl.d) [] M := by
  refine lc_map (fun x => match x with | .d d => some (.d (f d)) | _ => none) hC (by rw [List.length_map]; exact hz) (fun x hx k1 k0 h1 h0 => ?_) ?_
  · obtain ⟨d, hd, rfl⟩ := List.mem_map.mp hx
    exact h d hd k1 k0 (h1 _ rfl)
  · rw [fm_some]; exact hR
theorem while_ind {c : WT} {wb : WS} {P : PK} (I : Nat → Env' → Mem → Prop)
    (h1 : ∀ n (nx : Env' → Mem → Prop) dl M, (∀ m dl M, m < n → I m dl M → nx dl M) → I n dl M → c dl M fun k M1 => if k = true then wb { nx := nx, rt := P.rt, bk := P.nx, ct := nx } dl M1 else P.nx dl M1)
    {n : Nat} {dl : Env'} {M : Mem} (h : I n dl M) (mono : ∀ k k' dl M, k ≤ k' → whGo c wb P k dl M → whGo c wb P k' dl M) : wWhile c wb P dl M := by
  suffices hs : ∀ n dl M, I n dl M → whGo c wb P (n + 1) dl M from ⟨_, hs n dl M h⟩
  intro n
  induction n using Nat.strongRecOn with
  | ind n ih =>
    intro dl M h
    exact h1 n (whGo c wb P n) dl M (fun m dl M hm hI => mono (m + 1) n dl M hm (ih m hm dl M hI)) h
/-- .. whose measure goes down by one -/
theorem while_ind1 {c : WT} {wb : WS} {P : PK} (I : Nat → Env' → Mem → Prop) (h0 : ∀ (nx : Env' → Mem → Prop) dl M, I 0 dl M → c dl M fun k M1 => if k = true then wb { nx := nx, rt := P.rt, bk := P.nx, ct := nx } dl M1 else P.nx dl M1)
    (h1 : ∀ n (nx : Env' → Mem → Prop) dl M, (∀ dl M, I n dl M → nx dl M) → I (n + 1) dl M → c dl M fun k M1 => if k = true then wb { nx := nx, rt := P.rt, bk := P.nx, ct := nx } dl M1 else P.nx dl M1)
    {n : Nat} {dl : Env'} {M : Mem} (h : I n dl M) : wWhile c wb P dl M := by
  suffices hs : ∀ n dl M, I n dl M → whGo c wb P (n + 1) dl M from ⟨_, hs n dl M h⟩
  intro n
  induction n with
  | zero => intro dl M h; exact h0 _ dl M h
  | succ n ih => intro dl M h; exact h1 n _ dl M ih h

/-! ### slices, ints -/
theorem datI (ns : List Int) : datOf (ns.map fun n => Sl.i n) = some (ns.map PyData.int) := by
  have := datOf_map (ns.map PyData.int)
  rwa [List.map_map] at this
theorem cutA_to {A : Type} {xs : List A} {m : Int} (h : 0 ≤ m) : cutA xs none (some m) = xs.take m.toNat := by
  unfold cutA HT.sIx
  simp only [if_neg (show ¬ m < 0 by omega), List.drop_zero, Nat.sub_zero]
  rcases Nat.le_total m.toNat xs.length with q | q
  · rw [Nat.min_eq_left q]
  · rw [Nat.min_eq_right q, List.take_length, List.take_of_length_le q]
theorem cutA_from {A : Type} {xs : List A} {m : Int} (h : 0 ≤ m) : cutA xs (some m) none = xs.drop m.toNat := by
  unfold cutA HT.sIx
  simp only [if_neg (show ¬ m < 0 by omega)]
  rcases Nat.le_total m.toNat xs.length with q | q
  · rw [Nat.min_eq_left q, List.take_of_length_le (by rw [List.length_drop]; exact Nat.le_refl _)]
  · rw [Nat.min_eq_right q, List.drop_length, List.drop_of_length_le q, List.take_nil]
theorem cutA_mid {A : Type} {xs : List A} {m n : Int} (h : 0 ≤ m) (h2 : 0 ≤ n) : cutA xs (some m) (some n) = (xs.take n.toNat).drop m.toNat := by
  unfold cutA HT.sIx
  simp only [if_neg (show ¬ m < 0 by omega), if_neg (show ¬ n < 0 by omega)]
  rw [← List.drop_take]
  apply List.ext_getElem?
  intro i
  rw [List.getElem?_drop, List.getElem?_drop, List.getElem?_take, List.getElem?_take]
  by_cases h1 : m.toNat ≤ xs.length
  · rw [Nat.min_eq_left h1]
    by_cases h3 : m.toNat + i < xs.length
    · by_cases h4 : m.toNat + i < n.toNat
      · rw [if_pos h4, if_pos (by omega)]
      · rw [if_neg h4, if_neg (by omega)]
    · rw [List.getElem?_eq_none (by omega : xs.length ≤ m.toNat + i)]
      split <;> split <;> rfl
  · rw [Nat.min_eq_right (by omega : xs.length ≤ m.toNat), List.getElem?_eq_none (by omega : xs.length ≤ m.toNat + i), List.getElem?_eq_none (by omega : xs.length ≤ xs.length + i)]
    split <;> split <;> rfl
theorem intsS_set (ns : List Int) (i : Nat) (v : Int) : (ns.map fun n => Sl.i n).set i (.i v) = (ns.set i v).map fun n => Sl.i n := by
  rw [List.map_set]
theorem mapI (ns : List Int) : (ns.map fun n => Sl.i n) = (ns.map PyData.int).map Sl.d := by rw [List.map_map]; rfl
theorem enumS_nil : enumS [] = [] := rfl
/-! ### how long a datum's text is: ints below 10 ^ 36, texts out of a list of words -/
mutual
def sz (W : List Str) : PyData → Nat
  | .none => 8
  | .bool _ => 8
  | .int i => if i.natAbs < 10 ^ 36 then 40 else 10 ^ 9
  | .str s => if s ∈ W then 40 else 10 ^ 9
  | .list xs => 4 + szs W xs
  | .tuple xs => 4 + szs W xs
  | .dict _ => 10 ^ 9
def szs (W : List Str) : List PyData → Nat
  | [] => 0
  | x :: xs => 2 + sz W x + szs W xs
end
def Wds (W : List Str) : Prop := ∀ s ∈ W, PyData.strOk s = true ∧ (reprText s).length ≤ 40
theorem listText_le (ts : List Str) : (listText ts).length ≤ piled ts + 2 := by
  cases ts with
  | nil => decide +kernel
  | cons t r =>
    have h := textFrom_length_pos r 1 (("[" : Str) ++ (if (0 : Nat) > 0 then ", " else "" : String) ++ t) (Nat.succ_pos 0)
    have e : ((("[" : Str) ++ (if (0 : Nat) > 0 then ", " else "" : String) ++ t)).length = 1 + t.length := by
      rw [strLen_append, strLen_append]; rfl
    have hX : (listText (t :: r)).length = (textFrom 0 "[" (t :: r)).length + 1 := by
      show (textFrom 0 "[" (t :: r) ++ "]").length = _
      rw [strLen_append]; rfl
    have hY : (textFrom 0 "[" (t :: r)).length = (textFrom 1 (("[" : Str) ++ (if (0 : Nat) > 0 then ", " else "" : String) ++ t) r).length := rfl
    rw [hX, hY, h, e, piled_cons]; omega
theorem tupleText_le (ts : List Str) : (tupleText ts).length ≤ piled ts + 3 := by
  unfold tupleText
  rw [strLen_append, strLen_append]
  have e1 : ((("(" : String) : Str)).length = 1 := rfl
  have e3 : (((if ts.length == 1 then ",)" else ")" : String) : Str)).length ≤ 2 := by split <;> decide
  rw [e1]
  by_cases h : ts = []
  · subst h; decide +kernel
  · have := join_length_add ts h
    omega
mutual
theorem sz_ok {W : List Str} (hW : Wds W) : ∀ d : PyData, sz W d < 10 ^ 9 → d.canLay0 = true ∧ d.showable = true ∧ d.shown.length ≤ sz W d
  | .none, _ => ⟨rfl, rfl, by simp only [sz]; decide +kernel⟩
  | .bool b, _ => ⟨rfl, rfl, by simp only [sz]; cases b <;> decide +kernel⟩
  | .int i, h => by
    simp only [sz] at h ⊢
    split at h
    · rename_i hi
      refine ⟨rfl, ?_, ?_⟩
      · simp only [PyData.showable, decide_eq_true_eq]
        by_cases h0 : i.natAbs = 0
        · rw [h0]; decide
        · exact (Nat.log2_lt h0).mpr (Nat.lt_trans hi (by decide +kernel))
      · rw [PyData.shown, ofString_length, if_pos hi]
        have := int_text_length_le10 (k := 36) (by decide) hi
        omega
    · omega
  | .str s, h => by
    simp only [sz] at h ⊢
    split at h
    · rename_i hs
      obtain ⟨h1, h2⟩ := hW s hs
      rw [if_pos hs]
      exact ⟨by rw [PyData.canLay0]; exact h1, rfl, by rw [PyData.shown]; exact h2⟩
    · omega
  | .list xs, h => by
    simp only [sz] at h ⊢
    obtain ⟨h1, h2, h3⟩ := szs_ok hW xs (by omega)
    refine ⟨by rw [PyData.canLay0]; exact h1, by rw [PyData.showable]; exact h2, ?_⟩
    rw [PyData.shown]
    have := listText_le (PyData.shownAll xs)
    omega
  | .tuple xs, h => by
    simp only [sz] at h ⊢
    obtain ⟨h1, h2, h3⟩ := szs_ok hW xs (by omega)
    refine ⟨by rw [PyData.canLay0]; exact h1, by rw [PyData.showable]; exact h2, ?_⟩
    rw [PyData.shown]
    have := tupleText_le (PyData.shownAll xs)
    omega
  | .dict _, h => by simp only [sz] at h; omega
theorem szs_ok {W : List Str} (hW : Wds W) : ∀ ds : List PyData, szs W ds < 10 ^ 9 → PyData.canLayAll0 ds = true ∧ PyData.showableAll ds = true ∧ piled (PyData.shownAll ds) ≤ szs W ds
  | [], _ => ⟨rfl, rfl, Nat.le_refl _⟩
  | x :: xs, h => by
    simp only [szs] at h ⊢
    obtain ⟨a1, a2, a3⟩ := sz_ok hW x (by omega)
    obtain ⟨b1, b2, b3⟩ := szs_ok hW xs (by omega)
    refine ⟨by rw [PyData.canLayAll0, a1, b1]; rfl, by rw [PyData.showableAll, a2, b2]; rfl, ?_⟩
    rw [PyData.shownAll, piled_cons]
    omega
end
theorem shw_of {W : List Str} (hW : Wds W) {d : PyData} (h : sz W d ≤ 16777216) (hd : d.depth ≤ 40) : Shw d := by
  obtain ⟨h1, h2, h3⟩ := sz_ok hW d (by omega)
  have e : sizeLine = 16777216 := by decide
  exact ⟨h1, hd, h2, by omega⟩
theorem shaped_of {W : List Str} (hW : Wds W) {d : PyData} (h : sz W d ≤ 16777216) (hd : d.depth ≤ 40) : SeqAt.shaped d = true := by
  obtain ⟨h1, h2, h3⟩ := sz_ok hW d (by omega)
  unfold SeqAt.shaped
  rw [h1]
  simp only [Bool.true_and, decide_eq_true_eq]
  omega
/-! ### a == a -/
mutual
theorem eqv_self : ∀ {d : PyData}, d.canLay0 = true → PyData.eqv d d = true
  | .none, _ => rfl
  | .bool b, _ => by simp [PyData.eqv]
  | .int i, _ => by simp [PyData.eqv]
  | .str s, _ => by simp [PyData.eqv]
  | .list xs, h => by
    rw [PyData.canLay0] at h
    rw [PyData.eqv]; exact eqvs_self h
  | .tuple xs, h => by
    rw [PyData.canLay0] at h
    rw [PyData.eqv]; exact eqvs_self h
  | .dict _, h => by simp [PyData.canLay0] at h
theorem eqvs_self : ∀ {ds : List PyData}, PyData.canLayAll0 ds = true → PyData.eqvAll ds ds = true
  | [], _ => rfl
  | x :: xs, h => by
    rw [PyData.canLayAll0, Bool.and_eq_true] at h
    rw [PyData.eqvAll, eqv_self h.1, eqvs_self h.2]; rfl
end
end DL

set_option Elab.async false
set_option linter.all false
set_option maxRecDepth 100000
set_option maxHeartbeats 4000000
/-! DK: a set of ints out of a list, in two steps: set(x) by what __init__ does; __init__ over a list. -/
namespace DL
open PySem PySem.Spec L2 PyProof.Rows
section
variable {P : Program} {w : World} {A : Around} {E : Value → Shared → Prop} {s : Shared}
/-- a set as __new__ leaves it -/
abbrev bareSet (w : World) : Obj := { cls := .type "set", dict := none, data := .set #[] 0 (.fresh 0 0 (!w.params.followText "set-order")) }
abbrev withSet (w : World) (s : Shared) : Shared := { s with heap := s.heap.push (bareSet w) }
theorem withSet_get : (withSet w s).heap.get? s.heap.objs.size = some (bareSet w) := Heap.get?_push_size _ rfl
theorem set_by_init {x : Value} {Q : Value → Shared → Prop}
    (h : ∀ A' : Around, A'.handled = A.handled → codeAny (model P w) A' (.call (.builtin "set.__init__") ⟨[.ref s.heap.objs.size, x], []⟩) (wants (fun r s₂ => r = .none ∧ Q (.ref s.heap.objs.size) s₂) E) (withSet w s)) : wpAny (model P w) A (call (.type "set") [x]) Q E s := by
  obtain ⟨c, tl, hmro⟩ := F.called_set.mro
  have hmade := F.called_set.made
  have hsub := F.called_set.sub
  have h1 := F.called_set.notType
  have h2 := F.called_set.canCreate
  have hct := F.typeCall_set_1 x
  refine wpAny_call (codeAny_of_tree ?_)
  show wpAny _ _ (callAny (.type "set") _) _ _ _
  refine wpAny_pure ⟨Code.quiet_builtin _ (by decide +kernel), codeAny_builtin F.entry_type_call ?_⟩
  rw [Around.under_plain (weight_type_call_type "set" [x] []) rfl]
  repeat (any_goals (first | assumption | wp_step))
  refine codeAny_mono (code_set_led1 x (E := E) (Q₁ := fun o s₁ => o = .ref s.heap.objs.size ∧ s₁ = withSet w s) ⟨rfl, rfl⟩) fun r s₁ hr => ?_
  cases r with
  | error e => exact hr
  | ok fl =>
    cases fl with
    | ret o =>
      obtain ⟨rfl, rfl⟩ := hr
      have hT : Shared.TypeIs (withSet w s) (.ref s.heap.objs.size) "set" := ⟨_, withSet_get, rfl⟩
      have hli := F.called_set.init.lookup
      have hbi := F.called_set.init.bind (.ref s.heap.objs.size)
      repeat (any_goals (first | assumption | wp_step))
      refine codeAny_mono (h _ rfl) fun r₂ s₂ hr₂ => ?_
      cases r₂ with
      | error e => exact hr₂
      | ok f2 =>
        cases f2 with
        | ret r =>
          obtain ⟨rfl, hq⟩ := hr₂
          repeat (any_goals (first | assumption | wp_step))
        | _ => exact hr₂.elim
    | _ => exact hr.elim
theorem init_list {l : Addr} {vs : Array Value} (ns : List Int) {Q : Value → Shared → Prop} (hh : A.handled = none) (hl : s.heap.IsList l vs) (hi : IntsAre vs.toList ns) (hb : ns.length + 1 < scanBound)
    (h : ∀ (h' : Heap) (tk c : Nat), SetR w h' s.heap.objs.size (fun j => decide (j ∈ ns)) c → c ≤ ns.length → (∀ b o, s.heap.get? b = some o → h'.get? b = some o) → Q (.ref s.heap.objs.size) { s with heap := h', toks := tk }) :
    codeAny (model P w) A (.call (.builtin "set.__init__") ⟨[.ref s.heap.objs.size, .ref l], []⟩) (wants (fun r s₂ => r = .none ∧ Q (.ref s.heap.objs.size) s₂) E) (withSet w s) := by
  have hsz : vs.size = ns.length := by have q := IntsAre.length hi; rwa [Array.length_toList] at q
  have hlt : l < s.heap.objs.size := hl.elim fun _ z => Heap.lt_size z.1
  have hl2 : (withSet w s).heap.IsList l vs := hl.push _
  have z1 : (withSet w s).heap.objs.size = s.heap.objs.size + 1 := Heap.size_push ..
  refine codeAny_call_builtin F.called_set.init.plain F.entry_set_init (check_set_init_1 ⟨_, withSet_get, rfl⟩ ?_)
  obtain ⟨⟨oc, od, odat, osl⟩, e1, e2, n, e3⟩ := hl2
  have hl2 : (withSet w s).heap.IsList l vs := ⟨_, e1, e2, n, e3⟩
  simp only at e2 e3
  subst e2 e3
  have a1 := F.sub_list_set
  have a2 := F.sub_list_frozenset
  have a3 : (Value.type "list" == Value.type "dict") = false := by decide
  unfold Builtin.«set.__init__» noKeywords Builtin.Frozenset.updateFrom
  generalize hp : pyIter = pit
  wp_walk
  subst hp
  have hv : ∀ (i : Nat) (v : Value), vs[i]? = some v → ∃ k t, ns[i]? = some k ∧ v = .int k t := fun i v q => by
    have hlt2 : i < ns.length := by rw [← hsz]; exact (Array.getElem?_eq_some_iff.mp q).1
    obtain ⟨t, e⟩ := IntsAre.int_at hi i v (by rw [Array.getElem?_toList]; exact q)
    exact ⟨ns[i], t, List.getElem?_eq_getElem hlt2, by rw [e, List.getD_eq_getElem?_getD, List.getElem?_eq_getElem hlt2]; rfl⟩
  have hne : l ≠ (withSet w s).heap.objs.size := by rw [z1]; exact Nat.ne_of_lt (Nat.lt_succ_of_lt hlt)
  refine wpAny_pyIter_list hl2 (wpAny_bind (wpAny_runValue ?_))
  have W := (Walks.list (prog := P) (w := w) (A := A.in1.in1) (by simp [hh]) (withSet w s).heap.objs.size l hne vs).toS
  refine set_update_ints W s.heap.objs.size (fun z => ?_) ns hsz hb hv (vs.size - 0) 0 _ (by omega) (Nat.zero_le _) ?_ ?_ ?_
  · rw [z1] at z
    rcases List.mem_cons.mp z with q | q
    · exact absurd q (Nat.ne_of_lt (Nat.lt_succ_self _))
    · exact absurd (List.mem_singleton.mp q) (Nat.ne_of_gt hlt)
  · exact ⟨⟨_, Heap.get?_push_size _ rfl, rfl, rfl⟩, hl2.push _⟩
  · have q : ((withSet w s).heap.push { cls := .type "list_iterator", data := .fields #[.ref l, .int 0 0] }).get? s.heap.objs.size = some (bareSet w) := Heap.get?_push_of_some _ withSet_get
    exact ⟨0, Nat.le_refl 0, setR_new_at q⟩
  · rintro ⟨h', g2, d2, tk2, os2⟩ c hm hc hS
    have e1 : g2 = s.gens := hm.gens
    have e2 : d2 = s.drawn := hm.drawn
    have e3 : os2 = s.os := hm.os
    subst e1 e2 e3
    show wpAny _ _ _ _ _ _
    refine wpAny_pure ?_
    show wpAny _ _ (ret Value.none) _ _ _
    rw [hsz] at hc
    refine wpAny_pure ⟨rfl, h h' tk2 c hS hc fun b o e => hm.heap b o (fun z => ?_) (Heap.get?_push_of_some _ (Heap.get?_push_of_some _ e))⟩
    have hb0 := Heap.lt_size e
    rcases List.mem_cons.mp z with q | q
    · exact absurd q (Nat.ne_of_lt hb0)
    · have q2 := List.mem_singleton.mp q
      rw [z1] at q2
      exact absurd q2 (Nat.ne_of_lt (Nat.lt_succ_of_lt hb0))
/-- set(l), l a list of ints -/
theorem set_of_list {l : Addr} {vs : Array Value} (ns : List Int) {Q : Value → Shared → Prop} (hh : A.handled = none) (hl : s.heap.IsList l vs) (hi : IntsAre vs.toList ns) (hb : ns.length + 1 < scanBound)
    (h : ∀ (h' : Heap) (tk c : Nat), SetR w h' s.heap.objs.size (fun j => decide (j ∈ ns)) c → c ≤ ns.length → (∀ b o, s.heap.get? b = some o → h'.get? b = some o) → Q (.ref s.heap.objs.size) { s with heap := h', toks := tk }) :
    wpAny (model P w) A (call (.type "set") [.ref l]) Q E s :=
  set_by_init fun A' e => init_list ns (e.trans hh) hl hi hb h
end
end DL

set_option Elab.async false
set_option linter.all false
set_option maxRecDepth 100000
set_option maxHeartbeats 4000000
/-! DM: sorted(set(xs)), len(set(xs)), a < b < c, list(range(n)). -/
namespace DL
open PySem PySem.Spec L2
open Evl (Ex)
/-! ### ints in order, each once -/
def insS (x : Int) : List Int → List Int
  | [] => [x]
  | y :: r => if x < y then x :: y :: r else if x = y then y :: r else y :: insS x r
def srtS : List Int → List Int
  | [] => []
  | x :: r => insS x (srtS r)
theorem insS_mem (x k : Int) : ∀ l : List Int, k ∈ insS x l ↔ k = x ∨ k ∈ l
  | [] => by simp [insS]
  | y :: r => by
    unfold insS
    split
    · simp
    · split
      · rename_i e; subst e; simp
      · simp only [List.mem_cons, insS_mem x k r]
        constructor
        · rintro (h | h | h)
          · exact .inr (.inl h)
          · exact .inl h
          · exact .inr (.inr h)
        · rintro (h | h | h)
          · exact .inr (.inl h)
          · exact .inl h
          · exact .inr (.inr h)
theorem srtS_mem (k : Int) : ∀ l : List Int, k ∈ srtS l ↔ k ∈ l
  | [] => by simp [srtS]
  | x :: r => by rw [srtS, insS_mem, srtS_mem k r, List.mem_cons]
theorem insS_lt (x : Int) : ∀ l : List Int, l.Pairwise (· < ·) → (insS x l).Pairwise (· < ·)
  | [], _ => List.pairwise_singleton _ _
  | y :: r, h => by
    have hy := List.pairwise_cons.mp h
    unfold insS
    split
    · rename_i hx
      refine List.pairwise_cons.mpr ⟨fun z hz => ?_, h⟩
      rcases List.mem_cons.mp hz with rfl | hz
      · exact hx
      · exact Int.lt_trans hx (hy.1 z hz)
    · split
      · exact h
      · refine List.pairwise_cons.mpr ⟨fun z hz => ?_, insS_lt x r hy.2⟩
        rcases (insS_mem x z r).mp hz with rfl | hz
        · omega
        · exact hy.1 z hz
theorem srtS_lt : ∀ l : List Int, (srtS l).Pairwise (· < ·)
  | [] => List.Pairwise.nil
  | x :: r => insS_lt x _ (srtS_lt r)
theorem insS_len (x : Int) : ∀ l : List Int, (insS x l).length ≤ l.length + 1
  | [] => by simp [insS]
  | y :: r => by
    unfold insS
    split
    · simp
    · split
      · simp
      · have := insS_len x r; simp only [List.length_cons]; omega
theorem srtS_len : ∀ l : List Int, (srtS l).length ≤ l.length
  | [] => Nat.le_refl _
  | x :: r => by have := insS_len x (srtS r); have := srtS_len r; simp only [srtS, List.length_cons]; omega
theorem lt_one : ∀ {l m : List Int}, (∀ k, k ∈ l ↔ k ∈ m) → l.Pairwise (· < ·) → m.Pairwise (· < ·) → l = m
  | [], [], _, _, _ => rfl
  | [], y :: m, h, _, _ => absurd ((h y).mpr List.mem_cons_self) (by simp)
  | x :: l, [], h, _, _ => absurd ((h x).mp List.mem_cons_self) (by simp)
  | x :: l, y :: m, h, hl, hm => by
    have h1 := List.pairwise_cons.mp hl
    have h2 := List.pairwise_cons.mp hm
    have e : x = y := by
      rcases List.mem_cons.mp ((h x).mp List.mem_cons_self) with e | e
      · exact e
      · rcases List.mem_cons.mp ((h y).mpr List.mem_cons_self) with e2 | e2
        · exact e2.symm
        · have := h1.1 y e2; have := h2.1 x e; omega
    subst e
    rw [lt_one (fun k => ?_) h1.2 h2.2]
    constructor
    · intro hk
      rcases List.mem_cons.mp ((h k).mp (List.mem_cons_of_mem _ hk)) with e | e
      · subst e; have := h1.1 k hk; omega
      · exact e
    · intro hk
      rcases List.mem_cons.mp ((h k).mpr (List.mem_cons_of_mem _ hk)) with e | e
      · subst e; have := h2.1 k hk; omega
      · exact e
theorem srtS_id {l : List Int} (h : l.Pairwise (· < ·)) : srtS l = l := lt_one (fun k => srtS_mem k l) (srtS_lt l) h
section
variable {X : Cx} {a b c : Expr} {wa wb wc : WE} {p p2 q pos : Pos}
abbrev kSortedSet (r : Sl) (M : Mem) (R : RK) : Prop := ∃ ss ns, lsOf M r = some ss ∧ intsOf ss = some ns ∧ ns.length < 63 ∧ R (.d (.list ((srtS ns).map PyData.int))) M
abbrev wSortedSet (wa : WE) : WE := fun dl M R => wa dl M fun r M1 => kSortedSet r M1 R
theorem pd_sortedSet (hc : X.calm = true) (hg : Gl X "sorted") (hm : X.mg "sorted" = none) (hg2 : Gl X "set") (hm2 : X.mg "set" = none) (ha : PD X a wa)
    (na : starEach [a] X.env = (false, eval a X.env) :: starEach [] X.env := by rfl) : PD X (.Call (.Name "sorted" p) [.Call (.Name "set" p2) [a] [] q] [] pos) (wSortedSet wa) := by
  refine ⟨fun pins s st H Q I h => ?_⟩
  obtain ⟨F, dl, M, R, so, at0, hw, po⟩ := h
  refine PyProof.Rows.Call_ (ld_blt I hg hm (u := .builtin "sorted") (by decide +kernel) ?_)
  refine PyProof.Rows.callWith_builtin1 (PyProof.Rows.args_cons ?_ rfl) rfl rfl
  refine PyProof.Rows.Call_ (ld_blt I hg2 hm2 PyProof.Rows.boot_set ?_)
  refine PyProof.Rows.callWith_type1 (PyProof.Rows.args_cons (thn (PE.run ha pins s st H (fun x H1 => ∃ l ns, x = .ref l ∧ SqL X.K H1 l (ns.map V.int) ∧ ns.length < 63 ∧ ∀ p, H1 p = none → Q (.ref p) (upd H1 p (.lst ((srtS ns).map V.int)))) I ?_) fun v s1 ⟨x, H1, I1, r1, q1⟩ => PyProof.Rows.args_nil ?_) na) na rfl
  · refine tD_to so at0 hw fun x F1 H1 r M1 h1 g1 so1 at1 i1 => ?_
    obtain ⟨ss, ns, e1, e2, hz, hR⟩ := h1
    obtain ⟨l, vs, rfl, q1, q2⟩ := lsOf_at at1 i1 e1
    have e3 := intsOf_at e2 q2
    subst e3
    exact ⟨l, ns, rfl, SqL.of q1, hz, fun p hp => po_dat at1 (po.mono g1) hp hR fun F' e h => .lst h (dqAll_ints _)⟩
  · obtain ⟨l, ns, rfl, hq, hz, q1⟩ := q1
    cases r1
    obtain ⟨its, r, pl, _⟩ := I1.list hq
    have hlen : its.length = ns.length := by rw [← r.length, List.length_map]
    refine set_of_list ns (I1.ok.hd hc) pl.isList (by simpa using RZ.intsAre_vals r) (by unfold scanBound; omega) fun h' tk n hS hn hk => PyProof.Rows.args_nil ?_
    have I2 : Inv X pins st H1 { s1 with heap := h', toks := tk } := I1.kept fun b o e => hk b o e
    refine sorted_set hS (I2.ok.hd hc) (by omega) fun s' p out c ms k g o hp hg hi hs hm hl => ?_
    have hn2 : H1 p = none := I2.hok.fresh hp
    have e : ms = srtS ns := lt_one (fun k => by rw [hm k, srtS_mem]; simp) hs (srtS_lt ns)
    have hlen2 : (ms.map V.int).length ≤ sizeLine := by rw [List.length_map, hl, sizeLine_eq]; omega
    have J : Inv X pins st (upd H1 p (.lst (ms.map V.int))) { ({ s1 with heap := h', toks := tk } : Shared) with heap := s'.heap, gens := s'.gens, drawn := s'.drawn, toks := s'.toks } :=
      I2.call (ch := []) (Un.laid k hp hn2) (I2.hok.laid k hp ⟨hlen2, out.toList, c, vals_of_ints hi, hg⟩) (by rw [g]; exact I2.bare) (fun _ z => nomatch z)
    have e5 : s' = { ({ s1 with heap := h', toks := tk } : Shared) with heap := s'.heap, gens := s'.gens, drawn := s'.drawn, toks := s'.toks } := by
      cases s'; cases s1; cases o; rfl
    rw [e5]
    exact ⟨.ref p, _, J, rfl, by rw [e]; exact q1 p hn2⟩
/-! ### len(set(xs)) -/
theorem setR_count {w : World} {h : Heap} {a : Addr} {ns : List Int} {c : Nat} (R : SetR w h a (fun j => decide (j ∈ ns)) c) : c = (srtS ns).length := by
  obtain ⟨o, es, ep, t, ho, hx, hd, g, nd, hm, hb, hf, hn, _⟩ := R
  have nd2 : (srtS ns).Nodup := (srtS_lt ns).imp fun h => by omega
  have pm := (List.perm_ext_iff_of_nodup nd nd2).mpr fun k => by rw [← hm k, srtS_mem]; simp
  have := pm.length_eq
  rw [List.length_map, Array.length_toList] at this
  omega
abbrev wLenSet (wa : WE) : WE := fun dl M R => wa dl M fun r M1 => ∃ ss ns, lsOf M1 r = some ss ∧ intsOf ss = some ns ∧ ns.length < 63 ∧ R (.i ((srtS ns).length : Int)) M1
theorem pd_lenSet (hc : X.calm = true) (hg : Gl X "len") (hm : X.mg "len" = none) (hg2 : Gl X "set") (hm2 : X.mg "set" = none) (ha : PD X a wa)
    (na : starEach [a] X.env = (false, eval a X.env) :: starEach [] X.env := by rfl) : PD X (.Call (.Name "len" p) [.Call (.Name "set" p2) [a] [] q] [] pos) (wLenSet wa) := by
  refine ⟨fun pins s st H Q I h => ?_⟩
  obtain ⟨F, dl, M, R, so, at0, hw, po⟩ := h
  refine PyProof.Rows.Call_ (ld_blt I hg hm (u := .builtin "len") (by decide +kernel) ?_)
  refine PyProof.Rows.callWith_builtin1 (PyProof.Rows.args_cons ?_ rfl) rfl rfl
  refine PyProof.Rows.Call_ (ld_blt I hg2 hm2 PyProof.Rows.boot_set ?_)
  refine PyProof.Rows.callWith_type1 (PyProof.Rows.args_cons (thn (PE.run ha pins s st H (fun x H1 => ∃ l ns, x = .ref l ∧ SqL X.K H1 l (ns.map V.int) ∧ ns.length < 63 ∧ Q (.int (srtS ns).length) H1) I ?_) fun v s1 ⟨x, H1, I1, r1, q1⟩ => PyProof.Rows.args_nil ?_) na) na rfl
  · refine tD_to so at0 hw fun x F1 H1 r M1 h1 g1 so1 at1 i1 => ?_
    obtain ⟨ss, ns, e1, e2, hz, hR⟩ := h1
    obtain ⟨l, vs, rfl, q1, q2⟩ := lsOf_at at1 i1 e1
    have e3 := intsOf_at e2 q2
    subst e3
    exact ⟨l, ns, rfl, SqL.of q1, hz, po _ F1 H1 _ M1 hR g1 (.int _)⟩
  · obtain ⟨l, ns, rfl, hq, hz, q1⟩ := q1
    cases r1
    obtain ⟨its, r, pl, _⟩ := I1.list hq
    refine set_of_list ns (I1.ok.hd hc) pl.isList (by simpa using RZ.intsAre_vals r) (by unfold scanBound; omega) fun h' tk n hS hn hk => PyProof.Rows.args_nil ?_
    have I2 : Inv X pins st H1 { s1 with heap := h', toks := tk } := I1.kept fun b o e => hk b o e
    have ec := setR_count hS
    obtain ⟨o, es, ep, t, ho, hex, hd, _, _, _, hb, hf, hn2, _⟩ := hS
    exact call_len_set ho hex hd hf (by omega) ⟨.int (srtS ns).length, H1, I2.tok _, ⟨_, by rw [hn2, ec]⟩, q1⟩
/-! ### a < b < c -/
theorem pd_chain {op op' : CmpOp} {g g' : W2} (ho : OpD X (compareOp op) g) (ho' : OpD X (compareOp op') g') (ha : PD X a wa) (hb : PD X b wb) (hc : PD X c wc)
    (hm : lastMarks [op, op'] [b, c] = false := by with_unfolding_all rfl) : PD X (.Compare a [op, op'] [b, c] pos) (wChain g g' wa wb wc) := by
  obtain ⟨r, h1, h2⟩ := ho
  obtain ⟨r', h1', h2'⟩ := ho'
  refine pe_imp (pe_chain h1 h1' ha hb hc hm) fun st H Q ⟨F, dl, M, R, so, at0, hw, po⟩ => ?_
  refine tD_to so at0 hw fun x F1 H1 u M1 k1 g1 so1 at1 i1 => ?_
  refine tD_to so1 at1 k1 fun y F2 H2 v M2 k2 g2 so2 at2 i2 => ?_
  refine h2 F2 H2 M2 x y u v _ _ at2 (is_mono g2.ex i1) i2 k2 fun z F3 H3 t M3 k3 g3 i3 => ?_
  split at k3
  · refine ⟨_, dq_bl i3, ?_⟩
    have at3 := g3.at'
    have so3 := sok_mono g3.ex so2
    split at k3
    · rw [if_pos (by assumption)]
      refine tD_to so3 at3 k3 fun w F4 H4 t4 M4 k4 g4 so4 at4 i4 => ?_
      exact h2' F4 H4 M4 y w v t4 R Q at4 (is_mono (g3.trans g4).ex i2) i4 k4 (po.mono (((g1.trans g2).trans g3).trans g4))
    · rw [if_neg (by assumption)]
      exact po _ F3 H3 _ M3 k3 ((g1.trans g2).trans g3) (.bl _)
  · exact k3.elim
theorem pdt_chain {op op' : CmpOp} {g g' : W2} (ho : OpD X (compareOp op) g) (ho' : OpD X (compareOp op') g') (ha : PD X a wa) (hb : PD X b wb) (hc : PD X c wc)
    (hm : lastMarks [op, op'] [b, c] = false := by with_unfolding_all rfl) : PDT X (.Compare a [op, op'] [b, c] pos) (wBl (wChain g g' wa wb wc)) := by
  obtain ⟨r, h1, h2⟩ := ho
  obtain ⟨r', h1', h2'⟩ := ho'
  refine pt_imp (pt_chain h1 h1' ha hb hc hm) fun st H Q ⟨F, dl, M, R, so, at0, hw, po⟩ => ?_
  refine tD_to so at0 hw fun x F1 H1 u M1 k1 g1 so1 at1 i1 => ?_
  refine tD_to so1 at1 k1 fun y F2 H2 v M2 k2 g2 so2 at2 i2 => ?_
  refine h2 F2 H2 M2 x y u v _ _ at2 (is_mono g2.ex i1) i2 k2 fun z F3 H3 t M3 k3 g3 i3 => ?_
  split at k3
  · refine ⟨_, dq_bl i3, ?_⟩
    have at3 := g3.at'
    have so3 := sok_mono g3.ex so2
    split at k3
    · rw [if_pos (by assumption)]
      refine tD_to so3 at3 k3 fun w F4 H4 t4 M4 k4 g4 so4 at4 i4 => ?_
      refine h2' F4 H4 M4 y w v t4 _ _ at4 (is_mono (g3.trans g4).ex i2) i4 k4 fun w5 F5 H5 t5 M5 k5 g5 i5 => ?_
      split at k5
      · exact ⟨_, dq_bl i5, po _ F5 H5 M5 k5 ((((g1.trans g2).trans g3).trans g4).trans g5)⟩
      · exact k5.elim
    · rw [if_neg (by assumption)]
      exact ⟨_, rfl, po _ F3 H3 M3 k3 ((g1.trans g2).trans g3)⟩
  · exact k3.elim
end
end DL

set_option Elab.async false
set_option linter.all false
set_option maxRecDepth 100000
set_option maxHeartbeats 4000000
/-! DN: dicts by data: {}, displays, d[k], d[k] = v, d.get(k, x), dict(pairs), sorted(d), len(d). -/
namespace DL
open PySem PySem.Spec L2
open Evl (Ex)

abbrev KS := List (Key × Sl)
def valS (ks : KS) (k : Key) : Option Sl := (ks.find? fun kv => decide (kv.1 = k)).map (·.2)
def putS (ks : KS) (k : Key) (v : Sl) : KS := if (ks.any fun kv => decide (kv.1 = k)) = true then ks.map (fun kv => if kv.1 = k then (kv.1, v) else kv) else ks ++ [(k, v)]
def keyS : Sl → Option Key
  | .d (.int i) => some (.inl i)
  | .d (.str s) => some (.inr s)
  | _ => none
theorem keyS_at {K : PySem.W.Frag} {F : Hp} : ∀ {r : Sl} {v : V} {k : Key}, Is K F r v → keyS r = some k → v = kV k
  | .d (.int i), _, _, h, e => by cases e; exact dq_int h
  | .d (.str s), _, _, h, e => by cases e; exact dq_str h
  | .d .none, _, _, _, e => by simp [keyS] at e
  | .d (.bool _), _, _, _, e => by simp [keyS] at e
  | .d (.list _), _, _, _, e => by simp [keyS] at e
  | .d (.tuple _), _, _, _, e => by simp [keyS] at e
  | .d (.dict _), _, _, _, e => by simp [keyS] at e
  | .v _, _, _, _, e => by simp [keyS] at e
  | .r _, _, _, _, e => by simp [keyS] at e
  | .w _, _, _, _, e => by simp [keyS] at e
section
variable {K : PySem.W.Frag} {F : Hp}
theorem valS_at {k : Key} : ∀ {ks : KS} {kvs : List (Key × V)}, All2 (KIs K F) ks kvs → (∀ r, valS ks k = some r → ∃ v, valV kvs k = some v ∧ Is K F r v) ∧ (valS ks k = none → valV kvs k = none)
  | _, _, .nil => ⟨fun r e => by simp [valS] at e, fun _ => rfl⟩
  | a :: as, b :: bs, .cons h t => by
    obtain ⟨i1, i2⟩ := valS_at (k := k) t
    by_cases e : a.1 = k
    · have e' : b.1 = k := h.1.symm.trans e
      refine ⟨fun r q => ⟨b.2, valV_pos e', ?_⟩, fun q => ?_⟩
      · simp [valS, List.find?_cons, e] at q
        subst q; exact h.2
      · simp [valS, List.find?_cons, e] at q
    · have e' : ¬ b.1 = k := fun z => e (h.1.trans z)
      have q0 : valS (a :: as) k = valS as k := by simp [valS, List.find?_cons, e]
      rw [q0, valV_neg e']
      exact ⟨i1, i2⟩
theorem any_at {k : Key} : ∀ {ks : KS} {kvs : List (Key × V)}, All2 (KIs K F) ks kvs → (ks.any fun kv => decide (kv.1 = k)) = (kvs.any fun kv => decide (kv.1 = k))
  | _, _, .nil => rfl
  | _, _, .cons h t => by rw [List.any_cons, List.any_cons, any_at t, h.1]
theorem map_at {k : Key} {r : Sl} {v : V} (h : Is K F r v) : ∀ {ks : KS} {kvs : List (Key × V)}, All2 (KIs K F) ks kvs → All2 (KIs K F) (ks.map fun kv => if kv.1 = k then (kv.1, r) else kv) (kvs.map fun kv => if kv.1 = k then (kv.1, v) else kv)
  | _, _, .nil => .nil
  | a :: _, _, .cons q t => by
    refine .cons ?_ (map_at h t)
    have q1 := q.1
    dsimp only
    by_cases e : (a : Key × Sl).1 = k
    · rw [if_pos e, if_pos (q1 ▸ e)]; exact ⟨q1, h⟩
    · rw [if_neg e, if_neg (q1 ▸ e)]; exact q
theorem putS_at {k : Key} {r : Sl} {v : V} {ks : KS} {kvs : List (Key × V)} (h : Is K F r v) (a : All2 (KIs K F) ks kvs) : All2 (KIs K F) (putS ks k r) (putK kvs k v) := by
  unfold putS putK
  rw [any_at a]
  split
  · exact map_at h a
  · exact a.append (.cons ⟨rfl, h⟩ .nil)
end
theorem valS_cons {k k' : Key} {v : Sl} {r : KS} : valS ((k', v) :: r) k = if k' = k then some v else valS r k := by
  unfold valS
  rw [List.find?_cons]
  by_cases h : k' = k
  · simp [h]
  · simp [h]
theorem valS_nil {k : Key} : valS [] k = none := rfl
theorem putS_new {ks : KS} {k : Key} {v : Sl} (h : k ∉ ks.map (·.1)) : putS ks k v = ks ++ [(k, v)] := by
  unfold putS
  rw [if_neg]
  intro z
  apply h
  obtain ⟨a, b, c⟩ := List.any_eq_true.mp z
  exact List.mem_map.mpr ⟨a, b, of_decide_eq_true c⟩
theorem valS_put (ks : KS) (k j : Key) (y : Sl) : valS (putS ks k y) j = if j = k then some y else valS ks j := by
  unfold putS
  split
  · rename_i h
    induction ks with
    | nil => cases h
    | cons a r ih =>
      obtain ⟨k', v⟩ := a
      rw [List.map_cons]
      by_cases e : k' = k
      · subst e
        simp only [if_true, valS_cons]
        by_cases ej : k' = j
        · subst ej; simp
        · rw [if_neg ej, if_neg (Ne.symm ej), if_neg ej]
          clear ih h
          induction r with
          | nil => rfl
          | cons b r ih =>
            obtain ⟨k2, v2⟩ := b
            rw [List.map_cons]
            by_cases e2 : k2 = k'
            · subst e2; simp only [if_true, valS_cons, if_neg ej]; exact ih
            · rw [if_neg e2]; simp only [valS_cons, ih]
      · rw [if_neg e]
        simp only [valS_cons]
        have h2 : (r.any fun kv => decide (kv.1 = k)) = true := by simpa [e] using h
        rw [ih h2]
        by_cases ej : k' = j
        · subst ej; simp [e]
        · simp [ej]
  · rename_i h
    have h2 : valS ks k = none := by
      unfold valS
      rw [Option.map_eq_none_iff, List.find?_eq_none]
      intro x hx hd
      exact h (List.any_eq_true.mpr ⟨x, hx, hd⟩)
    clear h
    induction ks with
    | nil => simp only [List.nil_append, valS_cons, valS_nil]; by_cases e : j = k
             · subst e; simp
             · rw [if_neg (Ne.symm e), if_neg e]
    | cons a r ih =>
      obtain ⟨k', v⟩ := a
      rw [valS_cons] at h2
      split at h2
      · cases h2
      · rename_i e
        rw [List.cons_append, valS_cons, valS_cons, ih h2]
        by_cases ej : k' = j
        · subst ej; simp [e]
        · simp [ej]
/-! ### d[k] -/
abbrev gDGet : W2 := fun p q M R => match p with
  | .v (.ref a) => ∃ ks k r, M a = some (.dic ks) ∧ keyS q = some k ∧ valS ks k = some r ∧ R r M
  | _ => False
section
variable {B C : Type} {o : Option MO} {ks : KS} {f : KS → Option B} {g : KS → B → Option C} {b : B} {c : C}
theorem d1 {k : KS → Prop} (h : o = some (.dic ks)) (hk : k ks) : ∃ x, o = some (.dic x) ∧ k x := ⟨ks, h, hk⟩
theorem d2 {k : KS → B → Prop} (h : o = some (.dic ks)) (h2 : f ks = some b) (hk : k ks b) : ∃ x y, o = some (.dic x) ∧ f x = some y ∧ k x y := ⟨ks, b, h, h2, hk⟩
theorem d3 {k : KS → B → C → Prop} (h : o = some (.dic ks)) (h2 : f ks = some b) (h3 : g ks b = some c) (hk : k ks b c) : ∃ x y z, o = some (.dic x) ∧ f x = some y ∧ g x y = some z ∧ k x y z := ⟨ks, b, c, h, h2, h3, hk⟩
end
section
variable {X : Cx} {a b c o i : Expr} {wa wb wc wo wi we : WE} {pos : Pos}
theorem pd_dget (hu : X.A.units + 1 < cLine) (ha : PD X a wa) (hb : PD X b wb) (hs : NoSl b := by exact fun _ _ => rfl) : PD X (.Subscript a b pos) (wOp gDGet wa wb) := by
  refine pe_imp (pe_dget hu ha hb hs) fun st H Q ⟨F, dl, M, R, so, at0, hw, po⟩ => ?_
  refine tD_to so at0 hw fun x F1 H1 p M1 h1 e1 so1 at1 i1 => ?_
  refine tD_to so1 at1 h1 fun y F2 H2 q M2 h2 e2 so2 at2 i2 => ?_
  unfold gDGet at h2
  split at h2
  · rename_i ad
    obtain ⟨ks, k, r, m, hk, hv, hR⟩ := h2
    have e : x = .ref ad := i1
    subst e
    obtain ⟨_, kvs, q1, q2⟩ := at2.mem ad _ m
    obtain ⟨v, z1, z2⟩ := (valS_at (k := k) q2).1 r hv
    refine ⟨ad, v, rfl, ?_, po _ F2 H2 _ M2 hR (e1.trans e2) z2⟩
    rw [keyS_at i2 hk, ← z1]
    exact DGet.k q1
  · exact h2.elim
/-- k in d -/
abbrev gDIn : W2 := fun q p M R => match p with
  | .v (.ref a) => ∃ ks k, M a = some (.dic ks) ∧ keyS q = some k ∧ R (.b (valS ks k).isSome) M
  | _ => False
theorem valS_isSome {K : PySem.W.Frag} {F : Hp} {k : Key} {ks : KS} {kvs : List (Key × V)} (h : All2 (KIs K F) ks kvs) : (valS ks k).isSome = (valV kvs k).isSome := by
  obtain ⟨h1, h2⟩ := valS_at (k := k) h
  cases e : valS ks k with
  | none => rw [h2 e]; rfl
  | some r => obtain ⟨v, z, _⟩ := h1 r e; rw [z]; rfl
theorem tD_din {X : Cx} {st : L2.St} {H : Hp} {Q : VK} (h : tD X.K (wOp gDIn wa wb) st H Q) : tDIn (tD X.K wa) (tD X.K wb) st H Q := by
  obtain ⟨F, dl, M, R, so, at0, hw, po⟩ := h
  refine tD_to so at0 hw fun x F1 H1 p M1 h1 e1 so1 at1 i1 => ?_
  refine tD_to so1 at1 h1 fun y F2 H2 q M2 h2 e2 so2 at2 i2 => ?_
  unfold gDIn at h2
  split at h2
  · rename_i ad
    obtain ⟨ks, k, m, hk, hR⟩ := h2
    have e : y = .ref ad := i2
    subst e
    obtain ⟨_, kvs, q1, q2⟩ := at2.mem ad _ m
    refine ⟨ad, _, rfl, by rw [keyS_at (is_mono e2.ex i1) hk]; exact DGet.k q1, ?_⟩
    rw [← valS_isSome q2]
    exact po _ F2 H2 _ M2 hR (e1.trans e2) (.bl _)
  · exact h2.elim
theorem pdt_din (hu : X.A.units + 1 < cLine) (ha : PD X a wa) (hb : PD X b wb) (hm : behindInMarks .In b = false := by rfl) : PDT X (.Compare a [.In] [b] pos) (wBl (wOp gDIn wa wb)) := by
  refine pt_imp (pt_cmp (pc_din hu ha hb) hm) fun st H Q ⟨F, dl, M, R, so, at0, hw, po⟩ => ?_
  refine tD_din (Q := fun x H' => ∃ k, x = V.bl k ∧ Q k H') ⟨F, dl, M, _, so, at0, hw, fun v F' H' r M' hr e i1 => ?_⟩
  split at hr
  · exact ⟨_, dq_bl i1, po _ F' H' M' hr e⟩
  · exact hr.elim
/-! ### d[k] = v -/
abbrev wDPut (we wo wi : WE) : WS := fun P dl M => we dl M fun v M1 => wo dl M1 fun p M2 => wi dl M2 fun q M3 => match p with
  | .v (.ref a) => ∃ ks k, M3 a = some (.dic ks) ∧ keyS q = some k ∧ ks.length < sizeLine ∧ P.nx dl (upM M3 a (.dic (putS ks k v)))
  | _ => False
theorem pds_dput {e : Expr} {pos' : Pos} (hu : X.A.units + 1 < cLine) (ho : PD X o wo) (hi : PD X i wi) (he : PD X e we) (hs : swapsWith e (some (.Subscript o i pos')) pos.line X.env = pure false := by rfl) : PDS X (.Assign [.Subscript o i pos'] e pos) (wDPut we wo wi) := by
  refine ps_imp (ps_dput hu ho hi he hs) fun D st H ⟨F, dl, M, P, so, at0, hw, po⟩ => ?_
  refine tD_to so at0 hw fun v F1 H1 r M1 h1 g1 so1 at1 i1 => ?_
  refine tD_to so1 at1 h1 fun x F2 H2 p M2 h2 g2 so2 at2 i2 => ?_
  refine tD_to so2 at2 h2 fun y F3 H3 q M3 h3 g3 so3 at3 i3 => ?_
  split at h3
  · rename_i ad
    obtain ⟨ks, k, m, hk, hz, hR⟩ := h3
    have e : x = .ref ad := i2
    subst e
    obtain ⟨_, kvs, q1, q2⟩ := at3.mem ad _ m
    refine ⟨ad, upd H3 ad (.dK (putK kvs k v)), rfl, ?_, po.nx _ F3 _ _ _ hR (((g1.trans g2).trans g3).trans (Go.put at3 m ⟨_, upd_same, putS_at (is_mono (g2.trans g3).ex i1) q2⟩)) so3⟩
    rw [keyS_at i3 hk]
    exact DPut.k q1 (by rw [← q2.length]; exact hz)
  · exact h3.elim
/-! ### {} -/
abbrev wDict0 : WE := fun _ M R => ∀ p, M p = none → R (.v (.ref p)) (upM M p (.dic []))
theorem pd_dict0 : PD X (.Dict [] [] pos) wDict0 := by
  refine pe_imp pe_dnewK fun st H Q ⟨F, dl, M, R, so, at0, hw, po⟩ p hp => ?_
  exact po _ F _ _ _ (hw p (at0.freeM hp)) (Go.new at0 hp ⟨[], upd_same, .nil⟩) rfl
/-! ### {k: v, ..} -/
abbrev WP := Env' → Mem → (KS → Mem → Prop) → Prop
abbrev wpNil : WP := fun _ M R => R [] M
abbrev wpCons (wk wv : WE) (wr : WP) : WP := fun dl M R => wk dl M fun q M1 => wv dl M1 fun v M2 => wr dl M2 fun ks M3 => ∃ k, keyS q = some k ∧ R ((k, v) :: ks) M3
def PDP (X : Cx) (pos : Pos) (keys : List (Option Expr)) (values : List Expr) (w : WP) : Prop := ∃ trs, PPs X pos keys values trs ∧ ∀ st H (Q : List (V × V) → Hp → Prop) F dl M (R : KS → Mem → Prop), SOk X.K F dl st → At X.K F M H → w dl M R →
  (∀ kvs F' H' ks M', R ks M' → Go X.K F M H F' M' H' → All2 (KIs X.K F') ks kvs → Q (kvs.map fun kv => (kV kv.1, kv.2)) H') → tPairs trs st H Q
theorem pdp_nil : PDP X pos [] [] wpNil := ⟨[], pps_nil, fun st H Q F dl M R so at0 hw po => po [] F H [] M hw (Go.refl at0) .nil⟩
theorem pdp_cons {k v : Expr} {ks : List (Option Expr)} {vs : List Expr} {wk wv : WE} {wr : WP} (hk : PD X k wk) (hv : PD X v wv) (hr : PDP X pos ks vs wr) : PDP X pos (some k :: ks) (v :: vs) (wpCons wk wv wr) := by
  obtain ⟨trs, h1, h2⟩ := hr
  refine ⟨(_, _) :: trs, pps_cons hk hv h1, fun st H Q F dl M R so at0 hw po => ?_⟩
  refine tD_to so at0 hw fun x F1 H1 q M1 k1 g1 so1 at1 i1 => ?_
  refine tD_to so1 at1 k1 fun y F2 H2 r M2 k2 g2 so2 at2 i2 => ?_
  refine h2 st H2 _ F2 dl M2 _ so2 at2 k2 fun kvs F3 H3 rs M3 k3 g3 i3 => ?_
  obtain ⟨kk, e, hR⟩ := k3
  have ex := keyS_at i1 e
  subst ex
  exact po ((kk, y) :: kvs) F3 H3 ((kk, r) :: rs) M3 hR ((g1.trans g2).trans g3) (.cons ⟨rfl, is_mono g3.ex i2⟩ i3)
def mergeS (ks more : KS) : KS := more.foldl (fun acc kv => putS acc kv.1 kv.2) ks
theorem mergeS_at {K : PySem.W.Frag} {F : Hp} : ∀ {more : KS} {mvs : List (Key × V)} {ks : KS} {kvs : List (Key × V)}, All2 (KIs K F) more mvs → All2 (KIs K F) ks kvs → All2 (KIs K F) (mergeS ks more) (mergeK kvs mvs)
  | _, _, _, _, .nil, h => h
  | a :: as, b :: bs, _, _, .cons q t, h => by
    show All2 _ (mergeS (putS _ a.1 a.2) as) (mergeK (putK _ b.1 b.2) bs)
    refine mergeS_at t ?_
    rw [q.1]
    exact putS_at q.2 h
abbrev wDisp (wp : WP) : WE := fun dl M R => ∀ p, M p = none → wp dl (upM M p (.dic [])) fun ks M2 => M2 p = some (.dic []) ∧ ks.length ≤ 15 ∧ R (.v (.ref p)) (upM M2 p (.dic (mergeS [] ks)))
theorem pd_disp {keys : List (Option Expr)} {values : List Expr} {wp : WP} (h : PDP X pos keys values wp) (hall : keys.all (·.isSome) = true := by rfl) (hl : keys.length = values.length := by rfl) (h0 : keys ≠ [] := by exact fun z => by cases z) (h15 : keys.length ≤ 15 := by decide) : PD X (.Dict keys values pos) (wDisp wp) := by
  obtain ⟨trs, h1, h2⟩ := h
  refine pe_imp (pe_disp h1 hall hl h0 h15) fun st H Q ⟨F, dl, M, R, so, at0, hw, po⟩ p hp => ?_
  have g0 : Go X.K F M H F (upM M p (.dic [])) (upd H p (.dK [])) := Go.new at0 hp ⟨[], upd_same, .nil⟩
  refine h2 st _ _ F dl _ _ so g0.at' (hw p (at0.freeM hp)) fun kvs F1 H1 ks M1 k1 g1 i1 => ?_
  obtain ⟨m, hz, hR⟩ := k1
  obtain ⟨_, kvs0, q1, q2⟩ := g1.at'.mem p _ m
  cases q2
  exact ⟨q1, kvs, rfl, by rw [← i1.length]; exact hz, po _ F1 _ _ _ hR ((g0.trans g1).trans (Go.put g1.at' m ⟨_, upd_same, mergeS_at i1 .nil⟩)) rfl⟩
end
end DL

set_option Elab.async false
set_option linter.all false
set_option maxRecDepth 100000
set_option maxHeartbeats 4000000
/-! DO: zip(xs, ys) of two lists over one name: each pair is a new plain tuple. -/
namespace DL
open PySem PySem.Spec PySem.Builtin.SmallTypes
/-- a zip of two: what is out, whether that is known -/
abbrev IsZ (h : Heap) (z TI TO : Addr) (v : Value) (f : Bool) : Prop := h.get? z = some { cls := .type "zip", dict := none, data := .fields #[v, .bool f, .bool false, .ref TI, .ref TO], slots := #[] }
section
variable {prog : Program} {w : World} {A : Around} {E : Value → Shared → Prop} {s : Shared} {z TI TO i1 i2 l1 l2 : Addr} {k1 k2 : Nat} {xs ys : Array Value} {x y a b v0 : Value} {f0 : Bool}
theorem zipF_item {Q : Value → Shared → Prop} (D : ZipApart z TI TO i1 i2 l1 l2) (hz : IsZ s.heap z TI TO v0 f0) (fr : ∀ R : Bool → Shared → Prop, R true s → wpAny (model prog w) A (ownedTupleIsFree (.ref z)) R E s)
    (pI : IsPair s.heap TI (.ref i1) (.ref i2)) (pO : IsPair s.heap TO a b) (t1 : s.heap.IsListIter i1 l1 k1) (t2 : s.heap.IsListIter i2 l2 k2) (y1 : s.heap.IsList l1 xs) (y2 : s.heap.IsList l2 ys) (hx : xs[k1]? = some x) (hy : ys[k2]? = some y)
    (hQ : ∀ g, IsZip g z TI TO (rawInt s.heap.objs.size) → IsPair g TO x y → g.IsListIter i1 l1 (k1 + 1) → g.IsListIter i2 l2 (k2 + 1) → IsPair g s.heap.objs.size x y → g.objs.size = s.heap.objs.size + 1 →
      (∀ c o, c ≠ z → c ≠ TO → c ≠ i1 → c ≠ i2 → s.heap.get? c = some o → g.get? c = some o) → Q (.ref s.heap.objs.size) { s with heap := g }) :
    wpAny (model prog w) A (Builtin.«zip.__next__» ⟨[.ref z], []⟩) (fun fin s2 => ∃ r, fin = .done (.ret r) ∧ Q r s2) E s := by
  refine wpAny_bind (m := field (.ref z) 2) (wpAny_field hz rfl (x := .bool false) rfl ?_)
  refine wpAny_bind (m := field (.ref z) 3) (wpAny_field hz rfl (x := .ref TI) rfl (wpAny_bind (wpAny_seqItems pI rfl ?_)))
  refine wpAny_bind (m := ownedTupleIsFree (.ref z)) (fr _ ?_)
  simp only [if_true]
  refine wpAny_bind (wpAny_rule (wpAny_bind (wpAny_field hz rfl (x := .ref TO) rfl (wpAny_bind (wpAny_setField_rec hz (by simp) fun g1 z1 s1 => wpAny_bind ?_)))))
  replace z1 : IsZ g1 z TI TO .ellipsis f0 := z1
  simp only [List.zipIdx_cons, List.zipIdx_nil, List.forIn_cons, List.forIn_nil]
  refine wpAny_bind (wpAny_bind (wpAny_onRaise (wpAny_bind (m := nextOf (.ref i1)) (wpAny_nextOf_list_item (t1.extBut s1.extBut D.i1z) (y1.extBut s1.extBut D.l1z) hx fun g2 u2 s2 => wpAny_pure ?_))))
  have o2 : IsPair g2 TO a b := s2.extBut _ _ D.TOi1 (s1.extBut _ _ D.TOz pO)
  refine wpAny_bind (wpAny_seqItems o2 rfl (wpAny_bind (wpAny_updateSeq_pair o2 fun g3 o3 s3 => wpAny_bind (wpAny_letGo (wpAny_pure ?_)))))
  replace o3 : IsPair g3 TO x b := o3
  have t2' := ((t2.extBut s1.extBut D.i2z).extBut s2.extBut D.i12.symm).extBut s3.extBut D.TOi2.symm
  have y2' := ((y2.extBut s1.extBut D.l2z).extBut s2.extBut D.l2i1).extBut s3.extBut D.l2TO
  refine wpAny_bind (wpAny_bind (wpAny_onRaise (wpAny_bind (m := nextOf (.ref i2)) (wpAny_nextOf_list_item t2' y2' hy fun g4 u4 s4 => wpAny_pure ?_))))
  have o4 : IsPair g4 TO x b := s4.extBut _ _ D.TOi2 o3
  refine wpAny_bind (wpAny_seqItems o4 rfl (wpAny_bind (wpAny_updateSeq_pair o4 fun g5 o5 s5 => wpAny_bind (wpAny_letGo (wpAny_pure (wpAny_pure ?_))))))
  replace o5 : IsPair g5 TO x y := o5
  refine wpAny_bind (wpAny_seqItems o5 rfl (wpAny_bind (wpAny_newTuple ?_)))
  have sz : g5.objs.size = s.heap.objs.size := by rw [s5.1, s4.1, s3.1, s2.1, s1.1]
  have z5 : IsZ g5 z TI TO .ellipsis f0 := s5.extBut _ _ D.TOz.symm (s4.extBut _ _ D.i2z.symm (s3.extBut _ _ D.TOz.symm (s2.extBut _ _ D.i1z.symm z1)))
  have k5 : ∀ c o, c ≠ z → c ≠ TO → c ≠ i1 → c ≠ i2 → s.heap.get? c = some o → g5.get? c = some o := fun c o c1 c2 c3 c4 e => s5.extBut _ _ c2 (s4.extBut _ _ c4 (s3.extBut _ _ c2 (s2.extBut _ _ c3 (s1.extBut _ _ c1 e))))
  have u5 : g5.IsListIter i1 l1 (k1 + 1) := ((u2.extBut s3.extBut D.TOi1.symm).extBut s4.extBut D.i12).extBut s5.extBut D.TOi1.symm
  have w5 : g5.IsListIter i2 l2 (k2 + 1) := u4.extBut s5.extBut D.TOi2.symm
  have lz : z < g5.objs.size := Heap.lt_size z5
  refine wpAny_bind (m := ownedTupleHandOut (.ref z) (.ref g5.objs.size)) ?_
  unfold ownedTupleHandOut
  have z6 : IsZ (g5.push { cls := .type "tuple", data := .seq #[x, y] }) z TI TO .ellipsis f0 := Heap.get?_push_of_some _ z5
  refine wpAny_bind (wpAny_setField_rec z6 (by simp) fun g7 z7 s7 => ?_)
  replace z7 : IsZ g7 z TI TO (rawInt g5.objs.size) f0 := z7
  refine wpAny_setField_rec z7 (by simp) fun g8 z8 s8 => wpAny_pure ⟨_, rfl, ?_⟩
  replace z8 : IsZip g8 z TI TO (rawInt g5.objs.size) := z8
  have up : ∀ c o, c ≠ z → g5.get? c = some o → g8.get? c = some o := fun c o c1 e => s8.extBut _ _ c1 (s7.extBut _ _ c1 (Heap.get?_push_of_some _ e))
  have p8 : IsPair g8 g5.objs.size x y := s8.extBut _ _ (Nat.ne_of_gt lz) (s7.extBut _ _ (Nat.ne_of_gt lz) (Heap.get?_push_size _ rfl))
  have q8 : g8.objs.size = g5.objs.size + 1 := by rw [s8.1, s7.1, Heap.size_push]
  rw [sz] at z8 p8 q8
  show Q (.ref g5.objs.size) _
  rw [sz]
  exact hQ g8 z8 (up _ _ D.TOz o5) (u5.at fun o e => up _ o D.i1z e) (w5.at fun o e => up _ o D.i2z e) p8 q8 fun c o c1 c2 c3 c4 e => up c o c1 (k5 c o c1 c2 c3 c4 e)
theorem zipF_end {Q : Fin → Shared → Prop} (hh : A.handled = none) (D : ZipApart z TI TO i1 i2 l1 l2) (hz : IsZ s.heap z TI TO v0 f0) (fr : ∀ R : Bool → Shared → Prop, R true s → wpAny (model prog w) A (ownedTupleIsFree (.ref z)) R E s)
    (pI : IsPair s.heap TI (.ref i1) (.ref i2)) (pO : IsPair s.heap TO a b) (t1 : s.heap.IsListIter i1 l1 k1) (t2 : s.heap.IsListIter i2 l2 k2) (y1 : s.heap.IsList l1 xs) (y2 : s.heap.IsList l2 ys) (he : xs[k1]? = none ∨ ys[k2]? = none)
    (hE : ∀ g e, (∀ c o, c ≠ z → c ≠ TO → c ≠ i1 → c ≠ i2 → s.heap.get? c = some o → g.get? c = some o) → (∃ o, g.get? e = some o ∧ o.cls = .type "StopIteration") → E (.ref e) { s with heap := g }) :
    wpAny (model prog w) A (Builtin.«zip.__next__» ⟨[.ref z], []⟩) Q E s := by
  refine wpAny_bind (m := field (.ref z) 2) (wpAny_field hz rfl (x := .bool false) rfl ?_)
  refine wpAny_bind (m := field (.ref z) 3) (wpAny_field hz rfl (x := .ref TI) rfl (wpAny_bind (wpAny_seqItems pI rfl ?_)))
  refine wpAny_bind (m := ownedTupleIsFree (.ref z)) (fr _ ?_)
  simp only [if_true]
  refine wpAny_bind (wpAny_rule (wpAny_bind (wpAny_field hz rfl (x := .ref TO) rfl (wpAny_bind (wpAny_setField_rec hz (by simp) fun g1 z1 s1 => wpAny_bind ?_)))))
  replace z1 : IsZ g1 z TI TO .ellipsis f0 := z1
  simp only [List.zipIdx_cons, List.zipIdx_nil, List.forIn_cons, List.forIn_nil]
  refine wpAny_bind (wpAny_bind (wpAny_onRaise (wpAny_bind (m := nextOf (.ref i1)) ?_)))
  cases hx : xs[k1]? with
  | none =>
    refine wpAny_nextOf_list_end hh (t1.extBut s1.extBut D.i1z) (y1.extBut s1.extBut D.l1z) hx fun g2 e s2 ⟨oe, he1, he2⟩ => ?_
    have z2 : IsZ g2 z TI TO .ellipsis f0 := s2 _ _ D.i1z.symm z1
    have ne : e ≠ z := fun q => by subst q; rw [z2] at he1; cases he1; simp at he2
    exact wpAny_setField_rec z2 (by simp) fun g3 _ s3 => hE g3 e (fun c o c1 _ c3 _ q => s3.extBut _ _ c1 (s2 _ _ c3 (s1.extBut _ _ c1 q))) ⟨oe, s3.extBut _ _ ne he1, he2⟩
  | some x =>
    have hy : ys[k2]? = none := he.elim (fun q => by rw [hx] at q; cases q) id
    refine wpAny_nextOf_list_item (t1.extBut s1.extBut D.i1z) (y1.extBut s1.extBut D.l1z) hx fun g2 u2 s2 => wpAny_pure ?_
    have o2 : IsPair g2 TO a b := s2.extBut _ _ D.TOi1 (s1.extBut _ _ D.TOz pO)
    refine wpAny_bind (wpAny_seqItems o2 rfl (wpAny_bind (wpAny_updateSeq_pair o2 fun g3 o3 s3 => wpAny_bind (wpAny_letGo (wpAny_pure ?_)))))
    have t2' := ((t2.extBut s1.extBut D.i2z).extBut s2.extBut D.i12.symm).extBut s3.extBut D.TOi2.symm
    have y2' := ((y2.extBut s1.extBut D.l2z).extBut s2.extBut D.l2i1).extBut s3.extBut D.l2TO
    refine wpAny_bind (wpAny_bind (wpAny_onRaise (wpAny_bind (m := nextOf (.ref i2)) (wpAny_nextOf_list_end hh t2' y2' hy fun g4 e s4 ⟨oe, he1, he2⟩ => ?_))))
    have z4 : IsZ g4 z TI TO .ellipsis f0 := s4 _ _ D.i2z.symm (s3.extBut _ _ D.TOz.symm (s2.extBut _ _ D.i1z.symm z1))
    have ne : e ≠ z := fun q => by subst q; rw [z4] at he1; cases he1; simp at he2
    exact wpAny_setField_rec z4 (by simp) fun g5 _ s5 => hE g5 e (fun c o c1 c2 c3 c4 q => s5.extBut _ _ c1 (s4 _ _ c4 (s3.extBut _ _ c2 (s2.extBut _ _ c3 (s1.extBut _ _ c1 q))))) ⟨oe, s5.extBut _ _ ne he1, he2⟩
/-- free: nothing is out, or what was out is gone -/
theorem free_none {R : Bool → Shared → Prop} (hz : IsZ s.heap z TI TO .none f0) (h : R true s) : wpAny (model prog w) A (ownedTupleIsFree (.ref z)) R E s := by
  unfold ownedTupleIsFree
  exact wpAny_bind (wpAny_field hz rfl (x := .none) rfl (wpAny_pure h))
theorem free_gone {T : Addr} {R : Bool → Shared → Prop} (hz : IsZ s.heap z TI TO (rawInt T) f0) (g : s.heap.get? T = none) (h : R true s) : wpAny (model prog w) A (ownedTupleIsFree (.ref z)) R E s := by
  unfold ownedTupleIsFree
  refine wpAny_bind (wpAny_field hz rfl (x := rawInt T) rfl ?_)
  show wpAny _ _ (loadIfAlive ((T : Int).toNat) >>= _) _ _ _
  rw [Int.toNat_natCast]
  have q : ∀ R : Option Obj → Shared → Prop, R none s → wpAny (model prog w) A (loadIfAlive T) R E s := fun R hr => by
    have hr2 : R (s.heap.get? T) s := by rw [g]; exact hr
    exact fun _ _ _ => hr2
  exact wpAny_bind (q _ (wpAny_pure h))
/-- what a zip may be like between two turns -/
structure ZSt (h : Heap) (z TI TO i1 i2 l1 l2 : Addr) (i : Nat) : Prop where
  z : ∃ v f, IsZ h z TI TO v f ∧ (v = .none ∨ ∃ T : Addr, v = rawInt T)
  pI : IsPair h TI (.ref i1) (.ref i2)
  pO : ∃ x y, IsPair h TO x y
  t1 : h.IsListIter i1 l1 i
  t2 : h.IsListIter i2 l2 i
theorem next_item {i : Nat} {Q : Option Value → Shared → Prop} (D : ZipApart z TI TO i1 i2 l1 l2) (S : ZSt s.heap z TI TO i1 i2 l1 l2 i) (y1 : s.heap.IsList l1 xs) (y2 : s.heap.IsList l2 ys) (hx : xs[i]? = some x) (hy : ys[i]? = some y)
    (hQ : ∀ g, ZSt g z TI TO i1 i2 l1 l2 (i + 1) → IsPair g s.heap.objs.size x y → (∀ c o, c ≠ z → c ≠ TO → c ≠ i1 → c ≠ i2 → s.heap.get? c = some o → g.get? c = some o) → Q (some (.ref s.heap.objs.size)) { s with heap := g }) : wpAny (model prog w) A (pyNext (.ref z)) Q E s := by
  obtain ⟨⟨v, f, hz, hv⟩, pI, ⟨a, b, pO⟩, t1, t2⟩ := S
  have hT : s.TypeIs (.ref z) "zip" := ⟨_, hz, rfl⟩
  have fin : (∀ (A : Around) (E : Value → Shared → Prop) (R : Bool → Shared → Prop), R true s → wpAny (model prog w) A (ownedTupleIsFree (.ref z)) R E s) → wpAny (model prog w) A (pyNext (.ref z)) Q E s := fun fr => by
    unfold pyNext
    refine wpAny_bind (wpAny_attempt (wpAny_callSpecial?_slot (name := Str.ofString "__next__") hT F.slot_zip_next (wpAny_call_entry F.slot_zip_next hT F.entry_zip_next ?_ (F.args_zip_next_1 _))))
    exact zipF_item D hz (fr _ _) pI pO t1 t2 y1 y2 hx hy fun g a1 a2 a3 a4 a5 a6 a7 => wpAny_pure (hQ g ⟨⟨_, _, a1, .inr ⟨_, rfl⟩⟩, a7 _ _ D.TIz D.TITO D.TIi1 D.TIi2 pI, ⟨_, _, a2⟩, a3, a4⟩ a5 a7)
  rcases hv with rfl | ⟨T, rfl⟩
  · exact fin fun _ _ _ h => free_none hz h
  · cases e : s.heap.get? T with
    | none => exact fin fun _ _ _ h => free_gone hz e h
    | some oT =>
      refine wpAny_pyNext_zip_item_held D hz e pI t1 t2 y1 y2 hx hy fun g a1 a2 a3 a4 a5 a6 => hQ g ⟨⟨_, _, a1, .inr ⟨_, rfl⟩⟩, a6 _ _ D.TIz D.TIi1 D.TIi2 pI, ⟨a, b, a6 _ _ D.TOz D.TOi1 D.TOi2 pO⟩, a2, a3⟩ a4 fun c o c1 _ c3 c4 q => a6 c o c1 c3 c4 q
theorem next_end {i : Nat} {Q : Option Value → Shared → Prop} (hh : A.handled = none) (D : ZipApart z TI TO i1 i2 l1 l2) (S : ZSt s.heap z TI TO i1 i2 l1 l2 i) (y1 : s.heap.IsList l1 xs) (y2 : s.heap.IsList l2 ys) (he : xs[i]? = none ∨ ys[i]? = none)
    (hQ : ∀ g, (∀ c o, c ≠ z → c ≠ TO → c ≠ i1 → c ≠ i2 → s.heap.get? c = some o → g.get? c = some o) → Q none { s with heap := g }) : wpAny (model prog w) A (pyNext (.ref z)) Q E s := by
  obtain ⟨⟨v, f, hz, hv⟩, pI, ⟨a, b, pO⟩, t1, t2⟩ := S
  have hT : s.TypeIs (.ref z) "zip" := ⟨_, hz, rfl⟩
  have fin : (∀ (A : Around) (E : Value → Shared → Prop) (R : Bool → Shared → Prop), R true s → wpAny (model prog w) A (ownedTupleIsFree (.ref z)) R E s) → wpAny (model prog w) A (pyNext (.ref z)) Q E s := fun fr => by
    unfold pyNext
    refine wpAny_bind (wpAny_attempt (wpAny_callSpecial?_slot (name := Str.ofString "__next__") hT F.slot_zip_next (wpAny_call_entry F.slot_zip_next hT F.entry_zip_next ?_ (F.args_zip_next_1 _))))
    refine zipF_end hh D hz (fr _ _) pI pO t1 t2 y1 y2 he fun g e k ⟨o, ho, hc⟩ => ?_
    exact wpAny_bind (wpAny_isInstance (T := "StopIteration") (b := true) ⟨o, ho, hc⟩ isSubtype_stop (wpAny_pure (hQ g k)))
  rcases hv with rfl | ⟨T, rfl⟩
  · exact fin fun _ _ _ h => free_none hz h
  · cases e : s.heap.get? T with
    | none => exact fin fun _ _ _ h => free_gone hz e h
    | some oT => exact wpAny_pyNext_zip_end_held hh D hz e pI t1 t2 y1 y2 he fun g k => hQ g fun c o c1 _ c3 c4 q => k c o c1 c3 c4 q
end
end DL
namespace DL
open PySem PySem.Spec L2
open Evl (Ex)
/-- the lists at a and b, each pair a new plain tuple -/
def ItzF (K : PySem.W.Frag) (a b : Addr) : It :=
  ⟨fun i H => ∃ (xs ys : List V) (x y : V), SqL K H a xs ∧ SqL K H b ys ∧ xs[i]? = some x ∧ ys[i]? = some y,
    fun i H v H' => ∃ T x y o, v = .ref T ∧ H T = none ∧ o.dict = none ∧ H' = upd H T (.frz o (.tup [x, y])) ∧ (∀ xs, SqL K H a xs → xs[i]? = some x) ∧ ∀ ys, SqL K H b ys → ys[i]? = some y,
    fun i H => ∃ xs ys : List V, SqL K H a xs ∧ SqL K H b ys ∧ (xs.length ≤ i ∨ ys.length ≤ i)⟩
theorem mem5 {z TI TO i1 i2 c : Addr} (h : c ∈ [z, TI, TO, i1, i2]) : c = z ∨ c = TI ∨ c = TO ∨ c = i1 ∨ c = i2 := by simpa using h
theorem turn_zipF {P : Program} {w : World} {K : PySem.W.Frag} {x : Str} {tpos : Pos} {a b z TI TO i1 i2 : Addr} (D : ZipApart z TI TO i1 i2 a b) :
    Turn P w K (.Name x tpos) (ItzF K a b) [z, TI, TO, i1, i2] z (fun i h => ZSt h z TI TO i1 i2 a b i) where
  mem := by simp
  obj := fun i h ⟨⟨v, f, hz, _⟩, pI, ⟨x, y, pO⟩, ⟨o1, e1, _, d1⟩, ⟨o2, e2, _, d2⟩⟩ c hc => by
    rcases mem5 hc with rfl | rfl | rfl | rfl | rfl
    · exact ⟨_, hz, fun v q => nomatch q⟩
    · exact ⟨_, pI, fun v q => nomatch q⟩
    · exact ⟨_, pO, fun v q => nomatch q⟩
    · exact ⟨o1, e1, fun v q => by rw [d1] at q; cases q⟩
    · exact ⟨o2, e2, fun v q => by rw [d2] at q; cases q⟩
  keep := fun i h g ⟨⟨v, f, hz, hv⟩, pI, ⟨x, y, pO⟩, t1, t2⟩ k =>
    ⟨⟨v, f, k z (by simp) _ hz, hv⟩, k TI (by simp) _ pI, ⟨x, y, k TO (by simp) _ pO⟩, t1.at fun o q => k i1 (by simp) o q, t2.at fun o q => k i2 (by simp) o q⟩
  item := by
    intro X hP hw hK hc i pins s st H E I hf S ⟨xs, ys, x, y, hqx, hqy, hx, hy⟩
    subst hP hw hK
    obtain ⟨us, rv, p, _⟩ := I.list hqx
    obtain ⟨ws, rv2, p2, _⟩ := I.list hqy
    obtain ⟨u, hu, ru⟩ := rv.get hx
    obtain ⟨u2, hu2, ru2⟩ := rv2.get hy
    refine next_item D S p.isList p2.isList (x := u) (y := u2) (by simpa using hu) (by simpa using hu2) fun g S2 pT k => ⟨_, rfl, wpAny_pure ?_⟩
    have J := I.turnedNew (T := s.heap.objs.size) (ob := .frz _ (.tup [x, y])) (h' := g) (t' := s.toks) (ch := [z, TI, TO, i1, i2]) (fun c o hb q => k c o (fun e => hb (by simp [e])) (fun e => hb (by simp [e])) (fun e => hb (by simp [e])) (fun e => hb (by simp [e])) q) hf (Nat.le_refl _)
      (show ObjOk X.prog X.w _ _ _ (.frz _ (.tup [x, y])) from ⟨pT, by show 2 ≤ sizeLine; decide, [u, u2], .cons ru (.cons ru2 .nil), ⟨_, pT, rfl, _, rfl⟩⟩)
    refine ⟨.ref s.heap.objs.size, _, J, rfl, ⟨_, x, y, _, rfl, I.hok.fresh (Nat.le_refl _), rfl, rfl, fun l hl => by rw [I.list_inj hl hqx]; exact hx, fun l hl => by rw [I.list_inj hl hqy]; exact hy⟩, S2, fun c hcm => ?_⟩
    have hlt : c < s.heap.objs.size := by
      obtain ⟨⟨v, f, hz, _⟩, pI, ⟨x, y, pO⟩, ⟨o1, e1, _, d1⟩, ⟨o2, e2, _, d2⟩⟩ := S
      rcases mem5 hcm with rfl | rfl | rfl | rfl | rfl
      · exact Heap.lt_size hz
      · exact Heap.lt_size pI
      · exact Heap.lt_size pO
      · exact Heap.lt_size e1
      · exact Heap.lt_size e2
    rw [upd_ne (Nat.ne_of_lt hlt)]
    exact (hf c hcm).1
  done := by
    intro X hP hw hK hc i pins s st H E I hf S ⟨xs, ys, hqx, hqy, hend⟩
    subst hP hw hK
    obtain ⟨us, rv, p, _⟩ := I.list hqx
    obtain ⟨ws, rv2, p2, _⟩ := I.list hqy
    have e1 := rv.length
    have e2 := rv2.length
    have he : us.toArray[i]? = none ∨ ws.toArray[i]? = none := hend.imp (fun q => by simp; omega) fun q => by simp; omega
    exact next_end (I.ok.hd hc) D S p.isList p2.isList he fun g k => ⟨rfl, I.turnedL (t' := s.toks) (ch := [z, TI, TO, i1, i2]) (fun c o hb q => k c o (fun e => hb (by simp [e])) (fun e => hb (by simp [e])) (fun e => hb (by simp [e])) (fun e => hb (by simp [e])) q) hf⟩
  self := fun A i s Q E S h => by
    obtain ⟨v, f, hz, _⟩ := S.z
    have hT : s.TypeIs (.ref z) "zip" := ⟨_, hz, rfl⟩
    exact wpAny_pyIter_slot hT F.slot_zip_iter (wpAny_call_entry F.slot_zip_iter hT F.entry_zip_iter (wpAny_pure ⟨_, rfl, "zip", _, hT, F.slot_zip_next.lookup, h⟩) (F.args_zip_iter_1 _))
section
variable {X : Cx} {e e2 : Expr} {wa : WA} {p pos tpos : Pos} {x : Str}
def zipD (xs ys : List PyData) : List PyData := (xs.zip ys).map fun (p : PyData × PyData) => .tuple [p.1, p.2]
abbrev wiZipN (wa : WA) : WI := fun dl M T => wa dl M fun rs M1 => match rs with
  | [.d (.list xs), .d (.list ys)] => T ((zipD xs ys).map Sl.d) C0 M1
  | _ => False
theorem pdi_zipN (hg : Gl X "zip") (hm : X.mg "zip" = none) (ha : PDA X [e, e2] wa) (hs : starEach [e, e2] X.env = (false, eval e X.env) :: starEach [e2] X.env := by rfl) (hpl : (backTo pos (starEach [e2] X.env)).any (·.1) = false := by rfl) :
    PDI X (.Name x tpos) (.Call (.Name "zip" p) [e, e2] [] pos) (wiZipN wa) := by
  refine ⟨fun pins s st H R I ⟨F, dl, M, T, so, at0, hw, po⟩ => ?_⟩
  refine PyProof.Rows.Call_ (ld_blt I hg hm PyProof.Rows.boot_zip (PyProof.Rows.callWith_type1 (thn (PA.run ha pos pins s st H (fun vs H1 => ∃ a b us ws, vs = [.ref a, .ref b] ∧ SqL X.K H1 a us ∧ SqL X.K H1 b ws ∧ R (ItzF X.K a b) H1) I ?_) fun us s1 ⟨vs, H1, I1, r1, q1⟩ => ?_) hs hpl))
  · refine tDA_to so at0 hw fun vs F1 H1 rs M1 h1 g1 so1 at1 i1 => ?_
    split at h1
    · rename_i xs ys
      obtain ⟨v, u, rfl, i2, i3⟩ := isAll2 i1
      cases i2 with
      | @lst a us _ q1 q2 =>
        cases i3 with
        | @lst b ws _ q3 q4 =>
          have hl : (zipD xs ys).length = min xs.length ys.length := by unfold zipD; rw [List.length_map, List.length_zip]
          refine ⟨a, b, us, ws, rfl, SqL.of (at1.ex _ _ q1), SqL.of (at1.ex _ _ q3), po F1 M1 H1 _ _ _ h1 g1 ⟨fun F M H i e at0 c hi => ?_, fun F M H i x H' r e at0 c y hr => ?_, fun F M H e at0 c => ?_⟩⟩
          · rw [List.length_map, hl] at hi
            obtain ⟨v1, z1, _⟩ := dqAll_get (i := i) q2 (List.getElem?_eq_getElem (by omega))
            obtain ⟨v2, z2, _⟩ := dqAll_get (i := i) q4 (List.getElem?_eq_getElem (by omega))
            exact ⟨us, ws, v1, v2, SqL.of (at0.ex _ _ (e _ _ q1)), SqL.of (at0.ex _ _ (e _ _ q3)), z1, z2⟩
          · obtain ⟨Tp, x1, x2, o, rfl, hT, ho, rfl, hx, hy⟩ := y
            rw [List.getElem?_map] at hr
            obtain ⟨d, hd, rfl⟩ := Option.map_eq_some_iff.mp hr
            unfold zipD at hd
            rw [List.getElem?_map] at hd
            obtain ⟨⟨d1, d2⟩, hd2, rfl⟩ := Option.map_eq_some_iff.mp hd
            rw [List.getElem?_zip_eq_some] at hd2
            obtain ⟨v1, z1, w1⟩ := dqAll_get (i := i) q2 hd2.1
            obtain ⟨v2, z2, w2⟩ := dqAll_get (i := i) q4 hd2.2
            have hx1 := hx us (SqL.of (at0.ex _ _ (e _ _ q1)))
            have hx2 := hy ws (SqL.of (at0.ex _ _ (e _ _ q3)))
            rw [z1] at hx1; rw [z2] at hx2
            obtain rfl : v1 = x1 := Option.some.inj hx1
            obtain rfl : v2 = x2 := Option.some.inj hx2
            have g := Go.laid at0 (o := .frz o (.tup [v1, v2])) hT
            exact ⟨_, g, .tup (.inl ⟨o, upd_same, ho⟩) (.cons (dq_mono (e.trans g.ex) w1) (.cons (dq_mono (e.trans g.ex) w2) .nil))⟩
          · rw [List.length_map, hl]
            refine ⟨us, ws, SqL.of (at0.ex _ _ (e _ _ q1)), SqL.of (at0.ex _ _ (e _ _ q3)), ?_⟩
            rw [dqAll_len q2, dqAll_len q4]
            omega
    · exact h1.elim
  · obtain ⟨a, b, xs, ys, ex, hqx, hqy, q⟩ := q1
    subst ex
    obtain ⟨u1, u2, rfl, r, r'⟩ := vals2 r1
    cases r
    cases r'
    obtain ⟨ts, rv, p1, _⟩ := I1.list hqx
    obtain ⟨ws, rv2, p2, _⟩ := I1.list hqy
    refine call_zip_2 p1.isList p2.isList fun g hz pI pO t1 t2 hsz hk => wpAny_pyIter_zip hz ?_
    have I2 : Inv X pins st H1 { s1 with heap := g } := I1.kept (t' := s1.toks) hk
    refine ⟨s1.heap.objs.size + 4, _, _, _, H1, rfl, I2, turn_zipF (PySem.W.ktu_apart s1.heap.objs.size a b p1.lt p2.lt), ⟨⟨_, _, hz, .inl rfl⟩, pI, ⟨_, _, pO⟩, t1, t2⟩, fun c hcm => ?_, q⟩
    have hle : s1.heap.objs.size ≤ c := by
      rcases mem5 hcm with rfl | rfl | rfl | rfl | rfl
      all_goals first | exact Nat.le_refl _ | exact Nat.le_add_right _ _
    exact I1.fpOk hle (I1.hok.fresh hle)
end
end DL

set_option Elab.async false
set_option linter.all false
set_option maxRecDepth 100000
set_option maxHeartbeats 4000000
/-! DP: d.get(k, x), dict(pairs), sorted(d), sorted of keyed pairs, a, *b = t, list(range(..)). -/
namespace DL
open PySem PySem.Spec L2
open Evl (Ex)
section
variable {X : Cx} {a b c o e f : Expr} {wa wb wc wo we wx : WE} {pos apos cpos : Pos}
/-! ### d.get(k, x), d.get(k) -/
abbrev wGet2 (wo we wx : WE) : WE := fun dl M R => wo dl M fun p M1 => match p with
  | .v (.ref a) => (∃ ks, M1 a = some (.dic ks)) ∧ we dl M1 fun q M2 => wx dl M2 fun z M3 => ∃ ks k r, M3 a = some (.dic ks) ∧ keyS q = some k ∧ some ((valS ks k).getD z) = some r ∧ R r M3
  | _ => False
theorem d0 {o : Option MO} {ks : KS} {k : Prop} (h : o = some (.dic ks)) (hk : k) : (∃ x, o = some (.dic x)) ∧ k := ⟨⟨ks, h⟩, hk⟩
theorem pd_get2 (hu : X.A.units + 1 < cLine) (ho : PD X o wo) (he : PD X e we) (hf : PD X f wx) (hbase : attributeBase o "get" X.env (eval o X.env) = eval o X.env := by rfl)
    (few : ((backTo cpos (starEach [e, f] X.env)).all (fun x => !x.1) && (backToKw cpos (keywordEach [] X.env)).all (fun x => x.1.isSome) && decide (([e, f] : List Expr).length + ([] : List Keyword).length + (if ([] : List Keyword).isEmpty then 0 else 1) < 30)) = true := by rfl)
    (line : (apos.endLine == cpos.line) = true := by rfl) (trees : backTo cpos (starEach [e, f] X.env) = [(false, eval e X.env), (false, eval f X.env)] := by rfl) : PD X (.Call (.Attribute o "get" apos) [e, f] [] cpos) (wGet2 wo we wx) := by
  refine pe_imp (pe_dget2 hu ho he hf ⟨hbase, few, line, trees⟩) fun st H Q ⟨F, dl, M, R, so, at0, hw, po⟩ => ?_
  refine tD_to so at0 hw fun x F1 H1 p M1 h1 g1 so1 at1 i1 => ?_
  split at h1
  · rename_i ad
    obtain ⟨⟨ks, m⟩, h1⟩ := h1
    have ex : x = .ref ad := i1
    subst ex
    obtain ⟨_, kvs, q1, _⟩ := at1.mem ad _ m
    refine ⟨ad, rfl, .inl ⟨kvs, .inl q1⟩, ?_⟩
    refine tD_to so1 at1 h1 fun y F2 H2 q M2 h2 g2 so2 at2 i2 => ?_
    refine tD_to so2 at2 h2 fun z F3 H3 r M3 h3 g3 so3 at3 i3 => ?_
    obtain ⟨ks, k, r, m, hk, hv, hR⟩ := h3
    obtain ⟨_, kvs, q1, q2⟩ := at3.mem ad _ m
    obtain ⟨z1, z2⟩ := valS_at (k := k) q2
    refine ⟨valV kvs k, by rw [keyS_at (is_mono g3.ex i2) hk]; exact DGet.k q1, ?_⟩
    cases hv
    cases ev : valS ks k with
    | none => rw [ev] at hR; rw [z2 ev]; exact po _ F3 H3 _ M3 hR ((g1.trans g2).trans g3) i3
    | some r => rw [ev] at hR; obtain ⟨v, e1, e2⟩ := z1 r ev; rw [e1]; exact po _ F3 H3 _ M3 hR ((g1.trans g2).trans g3) e2
  · exact h1.elim
abbrev wGet1 (wo we : WE) : WE := fun dl M R => wo dl M fun p M1 => match p with
  | .v (.ref a) => (∃ ks, M1 a = some (.dic ks)) ∧ we dl M1 fun q M3 => ∃ ks k r, M3 a = some (.dic ks) ∧ keyS q = some k ∧ some ((valS ks k).getD .n) = some r ∧ R r M3
  | _ => False
theorem pd_get1 (hu : X.A.units + 1 < cLine) (ho : PD X o wo) (he : PD X e we) (hbase : attributeBase o "get" X.env (eval o X.env) = eval o X.env := by rfl)
    (few : ((backTo cpos (starEach [e] X.env)).all (fun x => !x.1) && (backToKw cpos (keywordEach [] X.env)).all (fun x => x.1.isSome) && decide (([e] : List Expr).length + ([] : List Keyword).length + (if ([] : List Keyword).isEmpty then 0 else 1) < 30)) = true := by rfl)
    (line : (apos.endLine == cpos.line) = true := by rfl) (trees : backTo cpos (starEach [e] X.env) = [(false, eval e X.env)] := by rfl) : PD X (.Call (.Attribute o "get" apos) [e] [] cpos) (wGet1 wo we) := by
  refine pe_imp (pe_dget1 hu ho he ⟨hbase, few, line, trees⟩) fun st H Q ⟨F, dl, M, R, so, at0, hw, po⟩ => ?_
  refine tD_to so at0 hw fun x F1 H1 p M1 h1 g1 so1 at1 i1 => ?_
  split at h1
  · rename_i ad
    obtain ⟨⟨ks, m⟩, h1⟩ := h1
    have ex : x = .ref ad := i1
    subst ex
    obtain ⟨_, kvs, q1, _⟩ := at1.mem ad _ m
    refine ⟨ad, rfl, .inl ⟨kvs, .inl q1⟩, ?_⟩
    refine tD_to so1 at1 h1 fun y F3 H3 q M3 h3 g3 so3 at3 i2 => ?_
    obtain ⟨ks, k, r, m, hk, hv, hR⟩ := h3
    obtain ⟨_, kvs, q1, q2⟩ := at3.mem ad _ m
    obtain ⟨z1, z2⟩ := valS_at (k := k) q2
    refine ⟨valV kvs k, by rw [keyS_at i2 hk]; exact DGet.k q1, ?_⟩
    cases hv
    cases ev : valS ks k with
    | none => rw [ev] at hR; rw [z2 ev]; exact po _ F3 H3 _ M3 hR (g1.trans g3) .non
    | some r => rw [ev] at hR; obtain ⟨v, e1, e2⟩ := z1 r ev; rw [e1]; exact po _ F3 H3 _ M3 hR (g1.trans g3) e2
  · exact h1.elim
/-! ### dict(pairs) -/
def pairsD : List PyData → Option KS
  | [] => some []
  | .tuple [.int i, v] :: r => (pairsD r).map ((.inl i, .d v) :: ·)
  | .tuple [.str i, v] :: r => (pairsD r).map ((.inr i, .d v) :: ·)
  | _ => none
theorem dq_tup2 {K : PySem.W.Frag} {F : Hp} {v : V} {x y : PyData} (h : Dq K F v (.tuple [x, y])) : ∃ p u w, v = .ref p ∧ TqT K F p [u, w] ∧ Dq K F u x ∧ Dq K F w y := by
  cases h with
  | tup h1 h2 =>
    cases h2 with
    | cons a t =>
      cases t with
      | cons b t => cases t; exact ⟨_, _, _, rfl, h1, a, b⟩
theorem pairsD_at {K : PySem.W.Frag} {F : Hp} : ∀ {ds : List PyData} {ks : KS} {vs : List V}, pairsD ds = some ks → DqAll K F vs ds → ∃ (ps : List Addr) (kvs : List (Key × V)), vs = ps.map V.ref ∧ Paired (fun p kv => SqT K F p [kV kv.1, kv.2]) ps kvs ∧ All2 (KIs K F) ks kvs := by
  intro ds
  induction ds with
  | nil => intro ks vs h hd; cases h; cases hd; exact ⟨[], [], rfl, .nil, .nil⟩
  | cons d r ih =>
    intro ks vs h hd
    cases hd with
    | cons h1 h2 =>
      unfold pairsD at h
      split at h
      · rename_i e; cases e
      · rename_i i v r e
        cases e
        obtain ⟨ks', hk, rfl⟩ := Option.map_eq_some_iff.mp h
        obtain ⟨ps, kvs, rfl, q1, q2⟩ := ih hk h2
        obtain ⟨p, u, w, rfl, t, hu, hw⟩ := dq_tup2 h1
        rw [dq_int hu] at t
        exact ⟨p :: ps, (.inl i, w) :: kvs, rfl, .cons t.sq q1, .cons ⟨rfl, hw⟩ q2⟩
      · rename_i i v r e
        cases e
        obtain ⟨ks', hk, rfl⟩ := Option.map_eq_some_iff.mp h
        obtain ⟨ps, kvs, rfl, q1, q2⟩ := ih hk h2
        obtain ⟨p, u, w, rfl, t, hu, hw⟩ := dq_tup2 h1
        rw [dq_str hu] at t
        exact ⟨p :: ps, (.inr i, w) :: kvs, rfl, .cons t.sq q1, .cons ⟨rfl, hw⟩ q2⟩
      · cases h
theorem pairs_val {pins : List (Addr × Obj)} {st : St} {H : Hp} {s : Shared} (I : Inv X pins st H s) : ∀ {ps : List Addr} {kvs : List (Key × V)}, Paired (fun p kv => SqT X.K H p [kV kv.1, kv.2]) ps kvs →
    ∃ (vvs : List (Value × Value)) (prs : List (Key × Value)), KV kvs prs ∧ vvs.length = ps.length ∧ prs.length = ps.length ∧ ∀ j k v, vvs[j]? = some (k, v) → PySem.PairAt s.heap (ps.getD j 0) k v ∧ (∃ q, ps[j]? = some q) ∧ ∃ kk, prs[j]? = some (kk, v) ∧ keyIs kk k = true
  | _, _, .nil => ⟨[], [], .nil, rfl, rfl, fun j k v e => by simp at e⟩
  | _, _, .cons (a := p) (b := kv) h t => by
    obtain ⟨vvs, prs, r, l1, l2, hp⟩ := pairs_val I t
    obtain ⟨ws, rv, ht, _⟩ := I.tuple h
    obtain ⟨u, y, ei, ru, ry⟩ := vals2 rv
    subst ei
    refine ⟨(u, y) :: vvs, (kv.1, y) :: prs, .cons ⟨rfl, ry⟩ r, by simp [l1], by simp [l2], fun j k v e => ?_⟩
    cases j with
    | zero =>
      have e2 : (u, y) = (k, v) := Option.some.inj e
      cases e2
      exact ⟨.inl ht, ⟨p, rfl⟩, kv.1, rfl, kV_is (P := X.prog) (w := X.w) ru⟩
    | succ j =>
      obtain ⟨a1, ⟨q, a2⟩, kk, a3, a4⟩ := hp j k v (by simpa using e)
      exact ⟨by simpa using a1, ⟨q, by simpa using a2⟩, kk, by simpa using a3, a4⟩
/-- dict(t), t a tuple of pairs -/
theorem call_dictT (hcalm : X.calm = true) : CallR X (.type "dict") (fun xs H Q => ∃ (a : Addr) (ps : List Addr) (kvs : List (Key × V)), xs = [.ref a] ∧ TqT X.K H a (ps.map V.ref) ∧ Paired (fun p kv => SqT X.K H p [kV kv.1, kv.2]) ps kvs ∧
    ∀ p, H p = none → Q (.ref p) (upd H p (.dK (mergeK [] kvs)))) := by
  intro pins s st H xs us Q I r ⟨a, ps, kvs, ex, hq, hp, q⟩
  subst ex
  obtain ⟨u, eu, rx⟩ := vals1 r
  subst eu
  cases rx
  obtain ⟨ws, n, rv, pl, hz⟩ : ∃ (ws : List Value) (n : Nat), Vals (ps.map V.ref) ws ∧ PySem.PlainSeq "tuple" s.heap a ws.toArray ∧ ps.length ≤ sizeLine := by
    rcases hq with ⟨ob, hH, hd⟩ | ⟨ob, ws, n, hk, hc, hs, hz, rv, hd⟩
    · obtain ⟨e, z, ws, rv, ob2, e2, hc, n, hs⟩ := I.hok _ _ hH
      rw [e] at e2
      cases e2
      exact ⟨ws, n, rv, ⟨ob, n, e, hc, hd, hs⟩, by simpa using z⟩
    · refine ⟨ws.toList, n, rv, ⟨ob, n, I.kIn a ob hk, hc, hd, by simpa using hs⟩, ?_⟩
      have := rv.length
      simp only [Array.length_toList, List.length_map] at this
      omega
  have ei := refs_at rv
  subst ei
  obtain ⟨vvs, prs, rel, l1, l2, hv⟩ := pairs_val I hp
  have pi : PySem.PairItems s.heap (ps.map Value.ref).toArray (fun j => ps.getD j 0) vvs := by
    refine ⟨by simp [l1], fun j k v e => ?_⟩
    obtain ⟨a1, ⟨b, a2⟩, _⟩ := hv j k v e
    exact ⟨by simp [List.getD_eq_getElem?_getD, a2], a1⟩
  refine PySem.call_dict_pairs (knd := mixKind X.prog X.w) (kvs := prs) (PairArg.tuple a (ps.map Value.ref).toArray (fun j => ps.getD j 0) vvs) (I.ok.hd hcalm) ⟨pl, pi⟩ ⟨by rw [l1, l2], fun i key v hr => ?_⟩ (by rw [l1]; exact hz) fun g tk hd k => ?_
  · obtain ⟨_, _, kk, a3, a4⟩ := hv i key v hr
    exact ⟨kk, a3, a4⟩
  · have hm : (s.heap.objs.size == sysModules) = false := beq_eq_false_iff_ne.mpr (Nat.ne_of_gt I.big)
    have hlen : (mergeK [] kvs).length ≤ sizeLine := by
      refine Nat.le_trans (length_mergeK kvs []) ?_
      rw [List.length_nil, Nat.zero_add, rel.length, l2]
      exact hz
    have J : Inv X pins st (upd H s.heap.objs.size (.dK (mergeK [] kvs))) { s with heap := g, toks := tk } := I.laid (t' := tk) (fun b o e => k b o (fun z => nomatch z) e) (Nat.le_refl _) (show ObjOk X.prog X.w _ _ _ (.dK (mergeK [] kvs)) from ⟨hlen, hm, merged [] prs, KV.merge rel .nil, hd⟩)
    exact ⟨.ref s.heap.objs.size, _, J, rfl, q _ (I.hok.fresh (Nat.le_refl _))⟩
abbrev gDict : Sl → Mem → RK → Prop := fun r M R => match r with
  | .d (.tuple ds) => ∃ ks, pairsD ds = some ks ∧ ∀ p, M p = none → R (.v (.ref p)) (upM M p (.dic (mergeS [] ks)))
  | .d (.list ds) => ∃ ks, pairsD ds = some ks ∧ ∀ p, M p = none → R (.v (.ref p)) (upM M p (.dic (mergeS [] ks)))
  | _ => False
theorem paired_mono {K : PySem.W.Frag} {F H : Hp} (e : Ex F H) : ∀ {ps : List Addr} {kvs : List (Key × V)}, Paired (fun p kv => SqT K F p [kV kv.1, kv.2]) ps kvs → Paired (fun p kv => SqT K H p [kV kv.1, kv.2]) ps kvs
  | _, _, .nil => .nil
  | _, _, .cons h t => .cons (Evl.ex_t e h) (paired_mono e t)
theorem c_dict (hc : X.calm = true) : CaD X (.type "dict") (g1 gDict) := ca1 fun F H M v r R Q at0 i1 h1 po => by
  unfold gDict at h1
  split at h1
  · obtain ⟨ks, e, hR⟩ := h1
    cases i1 with
    | @tup ad vs _ q1 q2 =>
      obtain ⟨ps, kvs, rfl, z1, z2⟩ := pairsD_at e q2
      exact ⟨_, call_dictT hc, ad, ps, kvs, rfl, q1.mono at0.ex, paired_mono at0.ex z1, fun p hp => po _ F _ _ _ (hR p (at0.freeM hp)) (Go.new at0 hp ⟨_, upd_same, mergeS_at z2 .nil⟩) rfl⟩
  · obtain ⟨ks, e, hR⟩ := h1
    cases i1 with
    | @lst ad vs _ q1 q2 =>
      obtain ⟨ps, kvs, rfl, z1, z2⟩ := pairsD_at e q2
      exact ⟨_, call_dictP hc, ad, ps, kvs, rfl, SqL.of (at0.ex _ _ q1), paired_mono at0.ex z1, fun p hp => po _ F _ _ _ (hR p (at0.freeM hp)) (Go.new at0 hp ⟨_, upd_same, mergeS_at z2 .nil⟩) rfl⟩
  · exact h1.elim
/-! ### sorted(d) -/
def keysI : KS → Option (List Int)
  | [] => some []
  | (.inl i, _) :: r => (keysI r).map (i :: ·)
  | (.inr _, _) :: _ => none
theorem keysI_at {K : PySem.W.Frag} {F : Hp} : ∀ {ks : KS} {kvs : List (Key × V)} {ns : List Int}, All2 (KIs K F) ks kvs → keysI ks = some ns → kvs.map (·.1) = ns.map Sum.inl
  | [], _, _, .nil, e => by cases e; rfl
  | (.inl i, _) :: r, _, _, .cons h t, e => by
    simp only [keysI, Option.map_eq_some_iff] at e
    obtain ⟨rs, h1, rfl⟩ := e
    rw [List.map_cons, List.map_cons, keysI_at t h1, ← h.1]
  | (.inr _, _) :: _, _, _, .cons _ _, e => by cases e
abbrev gSortedD : Sl → Mem → RK → Prop := fun r M R => match r with
  | .v (.ref a) => ∃ ks ns, M a = some (.dic ks) ∧ keysI ks = some ns ∧ ns.length < 64 ∧ R (.d (.list ((srtI ns).map PyData.int))) M
  | _ => False
theorem c_sortedD (hc : X.calm = true) : CaD X (.builtin "sorted") (g1 gSortedD) := ca1 fun F H M v r R Q at0 i1 h1 po => by
  unfold gSortedD at h1
  split at h1
  · rename_i ad
    obtain ⟨ks, ns, m, e, hz, hR⟩ := h1
    have ex : v = .ref ad := i1
    subst ex
    obtain ⟨_, kvs, q1, q2⟩ := at0.mem ad _ m
    refine ⟨_, call_sortedDI hc, ad, kvs, ns, rfl, .inl q1, keysI_at q2 e, hz, fun ys p hp hs hn => ?_⟩
    have e4 := sorted_one (hp.trans (srtI_perm ns).symm) hs (srtI_sorted ns)
    subst e4
    exact po_dat at0 po hn hR fun F' e h => .lst h (dqAll_ints _)
  · exact h1.elim
/-! ### list(range(..)) -/
abbrev wLRg1 (wa : WE) : WE := fun dl M R => wa dl M fun r M1 => match r with
  | .d (.int n) => (0 ≤ n ∧ n ≤ 16777216) ∧ R (.d (.list ((List.range n.toNat).map fun (i : Nat) => .int (i : Int)))) M1
  | _ => False
abbrev wLRg2 (wa wb : WE) : WE := fun dl M R => wa dl M fun r M1 => wb dl M1 fun q M2 => match r, q with
  | .d (.int m), .d (.int n) => (0 ≤ m ∧ m ≤ n ∧ n ≤ 16777216) ∧ R (.d (.list ((List.range (n - m).toNat).map fun (i : Nat) => .int (m + (i : Int))))) M2
  | _, _ => False
theorem dqAll_rg {K : PySem.W.Frag} {F : Hp} (a b : Int) : DqAll K F (rgV a b) ((List.range (b - a).toNat).map fun (i : Nat) => .int (a + (i : Int))) := by
  unfold rgV
  generalize List.range (b - a).toNat = l
  induction l with
  | nil => exact .nil
  | cons x r ih => exact .cons (.int _) ih
theorem pd_listRg1 {p p2 q : Pos} (hc : X.calm = true) (hg : Gl X "list") (hm : X.mg "list" = none) (hg2 : Gl X "range") (hm2 : X.mg "range" = none) (ha : PD X a wa)
    (na : starEach [a] X.env = (false, eval a X.env) :: starEach [] X.env := by rfl) : PD X (.Call (.Name "list" p) [.Call (.Name "range" p2) [a] [] q] [] pos) (wLRg1 wa) := by
  refine pe_imp (pe_listRg hc hg hm (prg_1 hg2 hm2 ha na)) fun st H Q ⟨F, dl, M, R, so, at0, hw, po⟩ => ?_
  refine tD_to so at0 hw fun x F1 H1 r M1 h1 g1 so1 at1 i1 => ?_
  split at h1
  · rename_i n
    obtain ⟨⟨h0, h2⟩, hR⟩ := h1
    refine ⟨n, dq_int i1, RgOk.of_le (by omega) h2 (by omega) h0, fun c hc => po_dat at1 (po.mono g1) hc hR fun F' e h => .lst h ?_⟩
    have := dqAll_rg (K := X.K) (F := F') 0 n
    simpa using this
  · exact h1.elim
theorem pd_listRg2 {p p2 q : Pos} (hc : X.calm = true) (hg : Gl X "list") (hm : X.mg "list" = none) (hg2 : Gl X "range") (hm2 : X.mg "range" = none) (ha : PD X a wa) (hb : PD X b wb)
    (na : starEach [a, b] X.env = (false, eval a X.env) :: starEach [b] X.env := by rfl) (nb : starEach [b] X.env = (false, eval b X.env) :: starEach [] X.env := by rfl) (hp : (backTo q (starEach [b] X.env)).any (·.1) = false := by rfl) :
    PD X (.Call (.Name "list" p) [.Call (.Name "range" p2) [a, b] [] q] [] pos) (wLRg2 wa wb) := by
  refine pe_imp (pe_listRg hc hg hm (prg_2 hg2 hm2 ha hb na nb hp)) fun st H Q ⟨F, dl, M, R, so, at0, hw, po⟩ => ?_
  refine tD_to so at0 hw fun x F1 H1 r M1 h1 g1 so1 at1 i1 => ?_
  refine tD_to so1 at1 h1 fun y F2 H2 r2 M2 h2 g2 so2 at2 i2 => ?_
  split at h2
  · rename_i m n
    obtain ⟨⟨h0, h2, h3⟩, hR⟩ := h2
    exact ⟨m, n, dq_int i1, dq_int i2, RgOk.of_le h0 h3 (by omega) (by omega), fun c hc => po_dat at2 (po.mono (g1.trans g2)) hc hR fun F' e h => .lst h (dqAll_rg m n)⟩
  · exact h2.elim
end
end DL

set_option Elab.async false
set_option linter.all false
set_option maxRecDepth 100000
set_option maxHeartbeats 4000000
/-! DQ: a, *b = t; sorted of pairs with different int keys. -/
namespace DL
open PySem PySem.Spec PyProof.Rows
/-- a walk, from its k-th item on -/
theorem walk_shift {prog : Program} {w : World} {A : Around} {I : Addr} {fp wr : List Addr} {G : Array GenState → Array GenState → Prop} {n k : Nat} {P : Nat → Value → Prop} {S : Nat → Shared → Prop} (W : WalksS prog w A I fp wr G n P S) (hk : k ≤ n) :
    WalksS prog w A I fp wr G (n - k) (fun i => P (i + k)) (fun i => S (i + k)) where
  sub := W.sub
  grefl := W.grefl
  gtrans := W.gtrans
  frame := fun i s h tk st a b => W.frame (i + k) s h tk st a b
  item := fun i s Q E hi st hQ => W.item (i + k) s Q E (by omega) st fun v s2 a b c => hQ v s2 a (by rw [show i + 1 + k = i + k + 1 by omega]; exact b) c
  done := fun s Q E st hQ => W.done s Q E (by rw [show n - k + k = n by omega] at st; exact st) hQ
  self := fun i s Q E st h => W.self (i + k) s Q E st h
section
variable {prog : Program} {w : World} {A : Around} {E : Value → Shared → Prop} {s : Shared}
theorem unpack_star {t : Addr} {x : Value} {xs : List Value} {Q : List Value → Shared → Prop} (hh : A.handled = none) (ht : IsTup s.heap t (x :: xs).toArray) (hz : xs.length ≤ sizeLine)
    (hQ : ∀ (g : Heap) (tk : Nat), (∀ b o, s.heap.get? b = some o → g.get? b = some o) → Q [x, .ref g.objs.size] { s with heap := g.push { cls := .type "list", data := .seq xs.toArray }, toks := tk }) : wpAny (model prog w) A (unpackItems (.ref t) 2 (some 1)) Q E s := by
  have hlt : t ≠ s.heap.objs.size := by obtain ⟨o, ho, _⟩ := ht; exact Nat.ne_of_lt (Heap.lt_size ho)
  unfold unpackItems notIterableAtAll
  refine wpAny_bind (wpAny_bind (wpAny_specialOf ht.typeIs slot_tuple_iter.lookup (wpAny_pure ?_)))
  simp only [Bool.false_eq_true, if_false]
  refine wpAny_bind (wpAny_holding (iter_tuple ht ?_))
  refine wpAny_bind (wpAny_holding (draw_tuple hlt 1 0 _ _ ⟨_, Heap.get?_push_size _ rfl, rfl, rfl⟩ (ht.push _) (by simp) fun g1 it1 s1 => ?_))
  simp only [List.drop_zero, List.take_succ_cons, List.take_zero, List.length_cons, List.length_nil]
  rw [if_neg (by decide)]
  have t1 : IsTup g1 t (x :: xs).toArray := (ht.push _).extBut s1.extBut hlt
  have W := walk_shift (k := 1) (Walks.tuple (prog := prog) (w := w) (A := A.in1) (show A.in1.handled = none from hh) s.heap.objs.size t hlt (x :: xs).toArray).toS (by simp)
  have hfp : ∀ b ∈ [s.heap.objs.size, t], b < g1.objs.size := fun b hb => by
    simp only [List.mem_cons, List.not_mem_nil, or_false] at hb
    rcases hb with rfl | rfl
    · obtain ⟨o, e, _⟩ := it1; exact Heap.lt_size e
    · obtain ⟨o, e, _⟩ := t1; exact Heap.lt_size e
  refine wpAny_bind (wpAny_holding (wpAny_collect_iter (T := "tuple_iterator") (.inr (.inr (.inr rfl))) W (fun i s st => by obtain ⟨o, e, c, _⟩ := st.1; exact ⟨o, e, c⟩) ⟨it1, t1⟩ hfp (by simp) (fun s2 acc mv ac => ?_) (by simp; exact hz)))
  have ea : acc.toList = xs := by
    apply List.ext_getElem?
    intro j
    cases e : acc.toList[j]? with
    | none =>
      rw [List.getElem?_eq_none_iff, Array.length_toList, ac.1] at e
      simp at e
      rw [List.getElem?_eq_none (by omega)]
    | some v =>
      have q := ac.2 j v (by rw [← Array.getElem?_toList]; exact e)
      simpa using q.symm
  rw [ea, if_neg (by omega)]
  obtain ⟨g2, gn, dr, tk, os⟩ := s2
  obtain ⟨m1, m2, m3, m4, _⟩ := mv
  simp only at m1 m2 m3 m4
  subst m2 m3 m4
  refine wpAny_bind (wpAny_newList (wpAny_pure ?_) (by simp; exact hz))
  simp only [Nat.reduceSub, Nat.sub_zero, List.take_length, List.drop_length, List.append_nil, List.cons_append, List.nil_append]
  exact hQ g2 tk fun b o e => m1 b o (fun z => by
    simp only [List.mem_cons, List.not_mem_nil, or_false] at z
    exact absurd (Heap.lt_size e) (by rw [z]; exact Nat.lt_irrefl _)) (s1.extBut b o (Nat.ne_of_lt (Heap.lt_size e)) (Heap.get?_push_of_some _ e))
end
end DL
namespace DL
open PySem PySem.Spec L2
open Evl (Ex)
section
variable {X : Cx} {pos : Pos}
/-- a, *b = a tuple -/
def gStar (ws : WGs) : WG := fun r dl M R => match r with
  | .d (.tuple (x :: ds)) => ws [.d x, .d (.list ds)] dl M R
  | _ => False
theorem gs_go {ws : WGs} {x : PyData} {ds : List PyData} {dl : Env'} {M : Mem} {R : Env' → Mem → Prop} (h : ws [.d x, .d (.list ds)] dl M R) : gStar ws (.d (.tuple (x :: ds))) dl M R := h
theorem pdg_star {e f : Expr} {k : Nat} {ws : WGs} {sp : Pos} (hc : X.calm = true) (h : PDGs X [e, f] ws) (hn : (assignEach [e, .Starred f sp] X.env).length = 2 := by rfl) (hst : (assignEach [e, .Starred f sp] X.env).findIdx? (·.1) = some 1 := by rfl)
    (hm : (assignEach [e, .Starred f sp] X.env).map (·.2) = (assignEach [e, f] X.env).map (·.2) := by rfl) : PDG X (.Tuple [e, .Starred f sp] k pos) (gStar ws) := by
  refine ⟨fun pins s st H v u Q I r ⟨F, dl, M, q, R, so, at0, i1, hw, po⟩ => ?_⟩
  unfold gStar at hw
  split at hw
  · rename_i x ds
    obtain ⟨a, vs, rfl, h1, h2⟩ := sqT_at at0 i1
    cases r
    cases h2 with
    | @cons v vs _ _ a1 a2 =>
      obtain ⟨ws', rv, ht, hz⟩ := I.tuple h1
      cases rv with
      | @cons _ y _ ys r1 r2 =>
        rw [PyProof.Rows.assign_Tuple]
        refine wpAny_bind (wpAny_standAt ?_)
        unfold unpack
        rw [hn, hst, hm]
        have hl := r2.length
        refine wpAny_bind (wpAny_holding (unpack_star (I.ok.hd hc) ht (by rw [List.length_cons] at hz; omega) fun g tk kp => ?_))
        have I1 : Inv X pins st H { s with heap := g, toks := tk } := I.kept kp
        have hf : H g.objs.size = none := I1.hok.fresh (Nat.le_refl _)
        have J : Inv X pins st (upd H g.objs.size (.lst vs)) { s with heap := g.push { cls := .type "list", data := .seq ys.toArray }, toks := tk } := I1.laid (t' := tk) (fun _ _ e => Heap.get?_push_of_some _ e) (Nat.le_refl _) ⟨by rw [List.length_cons] at hz; omega, ys, 0, r2, Heap.get?_push_size _ rfl⟩
        have g1 := Go.laid at0 (o := .lst vs) hf
        have at1 := g1.at'
        have i2 : IsAll X.K (upd F g.objs.size (.lst vs)) [.d x, .d (.list ds)] [v, .ref g.objs.size] := .cons (dq_mono g1.ex a1) (.cons (.lst upd_same (dqAll_mono g1.ex a2)) .nil)
        exact PGs.run h pins _ st _ [v, .ref g.objs.size] _ Q J (.cons r1 (.cons (show RelV (.ref g.objs.size) (.ref g.objs.size) from rfl) .nil)) ⟨_, dl, M, _, R, sok_mono g1.ex so, at1, i2, hw, po.mono g1⟩
  · exact hw.elim
end
end DL
namespace DL
open PySem PySem.Spec PyProof.Rows Srt SrtO
/-- a pair whose first is an int -/
def IsKey (h : Heap) (v : Value) (x : Int) : Prop := ∃ a o t y n, v = .ref a ∧ h.get? a = some o ∧ o.cls = .type "tuple" ∧ o.data = .seq #[.int x t, y] n
theorem IsKey.keeps {h g : Heap} {v : Value} {x : Int} (p : IsKey h v x) (k : ∀ b o, h.get? b = some o → o.cls = .type "tuple" → g.get? b = some o) : IsKey g v x :=
  let ⟨a, o, t, y, n, e, ho, hc, hd⟩ := p; ⟨a, o, t, y, n, e, k _ _ ho hc, hc, hd⟩
def ltK (k : Value → Int) : Value → Value → Bool := fun v u => decide (k v < k u)
theorem swoK (k : Value → Int) : Swo (ltK k) := by
  refine ⟨fun x y h => ?_, fun x y z h1 h2 => ?_⟩
  · simp only [ltK, decide_eq_true_eq, decide_eq_false_iff_not] at *; omega
  · simp only [ltK, decide_eq_false_iff_not] at *; omega
section
variable {prog : Program} {w : World} {A : Around} {E : Value → Shared → Prop} {s : Shared}
theorem key_cmp {vs : List Value} {k : Value → Int} (hp : ∀ v ∈ vs, IsKey s.heap v (k v)) (inj : ∀ v ∈ vs, ∀ u ∈ vs, k v = k u → v = u) : Cmp prog w A s (tuples' true) (fun p => p.1 ∈ vs) (lt2 (ltK k)) := by
  intro p q hm hm2
  have h1 := hp _ hm
  have h2 := hp _ hm2
  show wpAny (model prog w) A (keyLt' (tuples' true) p.1 q.1) (fun r s2 => s2 = s ∧ r = decide (k p.1 < k q.1)) (fun _ _ => False) s
  by_cases e : k p.1 = k q.1
  · rw [inj _ hm _ hm2 e] at h1 ⊢
    obtain ⟨a, o, t, y, n, e1, ho, hc, hd⟩ := h2
    rw [e1, decide_eq_false (Int.lt_irrefl _)]
    refine PySem.W.kat_lt ho hd ho hd ?_
    show PySem.W.KatLex prog w A true (decide (2 < 2)) _ [(_, _), (y, y)] 0 s
    refine PySem.W.kat_cons (SeqAt.EqAt.same _ prog w _ _ (PySem.W.kat_yes (PySem.W.kat_cons (SeqAt.EqAt.same _ prog w _ _ (PySem.W.kat_yes (PySem.W.kat_nil ⟨rfl, rfl⟩))))))
  · obtain ⟨a, o, t, y, n, e1, ho, hc, hd⟩ := h1
    obtain ⟨b, o2, t2, y2, n2, e2, ho2, hc2, hd2⟩ := h2
    generalize k p.1 = i at *
    generalize k q.1 = j at *
    rw [e1, e2]
    refine PySem.W.kat_lt ho hd ho2 hd2 ?_
    show PySem.W.KatLex prog w A true (decide (2 < 2)) _ [(.int i t, .int j t2), (y, y2)] 0 s
    refine PySem.W.kat_cons (SeqAt.EqAt.int_int i t j t2 prog w _ _ ?_)
    rw [show (i == j) = false from beq_eq_false_iff_ne.mpr e]
    exact PySem.W.kat_no (oneLt_int ⟨rfl, rfl⟩)
theorem keys_first {h : Heap} : ∀ {vs : List Value}, (∀ v ∈ vs, ∃ x, IsKey h v x) → ∃ fs : List Value, PySem.W.KatTups h vs fs ∧ fs.length = vs.length ∧ ∀ f ∈ fs, ∃ x t, f = Value.int x t
  | [], _ => ⟨[], PySem.W.KatTups.nil, rfl, fun _ hm => by simp at hm⟩
  | v :: vs, hp => by
    obtain ⟨fs, h1, h2, h3⟩ := keys_first (vs := vs) fun u hm => hp u (List.mem_cons_of_mem _ hm)
    obtain ⟨x, a, o, t, y, n, e, ho, hc, hd⟩ := hp v List.mem_cons_self
    subst e
    refine ⟨.int x t :: fs, PySem.W.KatTups.cons ho hc hd rfl h1, by simp [h2], fun f hm => ?_⟩
    rcases List.mem_cons.mp hm with e | hm
    · exact ⟨x, t, e⟩
    · exact h3 f hm
theorem sorted_key {l : Addr} {vs : List Value} {k : Value → Int} {Q : Value → Shared → Prop} (hl : s.heap.IsList l vs.toArray) (hz : vs.length ≤ sizeLine) (hp : ∀ v ∈ vs, IsKey s.heap v (k v)) (inj : ∀ v ∈ vs, ∀ u ∈ vs, k v = k u → v = u)
    (h : ∀ (g : Heap) (d : Addr) (out : List Value), Srtd (ltK k) out → out.Perm vs → (∀ b o, s.heap.get? b = some o → g.get? b = some o) → s.heap.objs.size ≤ d → (∃ n, g.get? d = some (seqObj "list" out.toArray n)) → Q (.ref d) { s with heap := g }) :
    wpAny (model prog w) A (call (.builtin "sorted") [.ref l]) Q E s := by
  refine sorted_ord (swoK k) hl hz (fun h2 g a ha kk => ?_) fun out hs hb => h _ _ out hs hb.perm (fun b o e => sortedAll_old e) (Nat.le_succ _) (sortedAll_at s.heap vs out.toArray)
  intro g2 kp
  have hp2 : ∀ v ∈ vs, IsKey g2 v (k v) := fun v hm => (hp v hm).keeps fun b o e c => kp b o (fun z => by
    subst z
    exact absurd rfl (kk b o e).1) (kk b o e).2
  obtain ⟨fs, f1, f2, f3⟩ := keys_first fun v hm => ⟨_, hp2 v hm⟩
  refine ⟨tuples' true, fun R E2 hq => ?_, key_cmp hp2 inj⟩
  refine PySem.W.kat_kind (T := .type "int") f1 (by omega) (fun f hm => ?_) (by rfl) ?_
  · obtain ⟨x, t, rfl⟩ := f3 f hm
    exact PySem.W.Looks.now
  · rw [show (Value.type "int" != Value.type "tuple") = true by decide +kernel]
    exact hq
end
end DL
namespace DL
open PySem PySem.Spec L2
open Evl (Ex)
section
variable {X : Cx}
abbrev Kr (K : PySem.W.Frag) (H : Hp) (x : V) (n : Int) : Prop := ∃ t y, x = V.ref t ∧ SqT K H t [.int n, y]
theorem all2_inj {A B : Type} {R : A → B → Prop} {k : A → B} (hk : ∀ a b, R a b → k a = b) : ∀ {as : List A} {bs : List B}, All2 R as bs → bs.Nodup → ∀ x ∈ as, ∀ y ∈ as, k x = k y → x = y
  | _, _, .nil, _, x, hx, _, _, _ => by cases hx
  | a :: as, b :: bs, .cons h t, nd, x, hx, y, hy, e => by
    have n1 := List.nodup_cons.mp nd
    have kin : ∀ z ∈ as, k z ∈ bs := fun z hz => by
      obtain ⟨i, hi⟩ := List.getElem?_of_mem hz
      obtain ⟨c, h1, h2⟩ := t.get hi
      rw [hk _ _ h2]; exact List.mem_of_getElem? h1
    rcases List.mem_cons.mp hx with ex | hx
    · rcases List.mem_cons.mp hy with ey | hy
      · rw [ex, ey]
      · exact absurd (kin y hy) (by rw [← e, ex, hk _ _ h]; exact n1.1)
    · rcases List.mem_cons.mp hy with ey | hy
      · exact absurd (kin x hx) (by rw [e, ey, hk _ _ h]; exact n1.1)
      · exact all2_inj hk t n1.2 x hx y hy e
theorem all2_mem {A B : Type} {R : A → B → Prop} {as : List A} {bs : List B} (h : All2 R as bs) {x : A} (hx : x ∈ as) : ∃ b ∈ bs, R x b := by
  obtain ⟨i, hi⟩ := List.getElem?_of_mem hx
  obtain ⟨c, h1, h2⟩ := h.get hi
  exact ⟨c, List.mem_of_getElem? h1, h2⟩
open Classical in
/-- sorted(xs), xs a list of pairs whose firsts are different ints -/
theorem cr_sortedK : CallR X (.builtin "sorted") (fun vs H Q => ∃ (a : Addr) (xs : List V) (ns : List Int), vs = [V.ref a] ∧ SqL X.K H a xs ∧ All2 (Kr X.K H) xs ns ∧ ns.Nodup ∧
    ∀ k : V → Int, (∀ x n, Kr X.K H x n → k x = n) → ∀ ys p, ys.Pairwise (fun x y => k x ≤ k y) → ys.Perm xs → H p = none → Q (.ref p) (upd H p (.lst ys))) := by
  intro pins s st H vs us Q I r ⟨a, xs, ns, ex, hs, hx, nd, q⟩
  subst ex
  obtain ⟨ws, rv, hl, hz⟩ := I.list hs
  obtain ⟨u, eu, ru⟩ := vals1 r
  subst eu
  obtain rfl : u = Value.ref a := ru
  let k : V → Int := fun x => if h : ∃ n, Kr X.K H x n then h.choose else 0
  have hk : ∀ x n, Kr X.K H x n → k x = n := fun x n h => by
    have ex : ∃ n, Kr X.K H x n := ⟨n, h⟩
    show (if h : ∃ n, Kr X.K H x n then h.choose else 0) = n
    rw [dif_pos ex]
    obtain ⟨t, y, e1, h1⟩ := ex.choose_spec
    obtain ⟨t2, y2, e2, h2⟩ := h
    rw [e1] at e2
    cases e2
    have := I.tuple_inj h1 h2
    injection this with z _
    injection z
  have inj := all2_inj hk hx nd
  obtain ⟨e1, e2⟩ := refs_back rv fun x m => let ⟨_, _, t, _, e, _⟩ := all2_mem hx m; ⟨t, e⟩
  have mem : ∀ t, Value.ref t ∈ ws → V.ref t ∈ xs := fun t ht => by rw [e1]; exact List.mem_map.mpr ⟨_, ht, rfl⟩
  refine sorted_key (k := fun u => k (backV u)) hl.isList (by rw [← rv.length]; exact hz) (fun v hv => ?_) (fun v hv u hu e => ?_) fun g d out h1 h2 kp hd hn => ?_
  · obtain ⟨t, rfl⟩ := e2 v hv
    obtain ⟨n, _, hr⟩ := all2_mem hx (mem t hv)
    show IsKey s.heap (.ref t) (k (.ref t))
    rw [hk _ _ hr]
    obtain ⟨t2, y, e, ht⟩ := hr
    cases e
    obtain ⟨zs, r2, ⟨o, ho, hc, n, hd⟩, _⟩ := I.tuple ht
    obtain ⟨u1, u2, rfl, ri, rj⟩ := vals2 r2
    obtain ⟨t1, rfl⟩ := ri
    exact ⟨t, o, t1, u2, n, rfl, ho, hc, hd⟩
  · obtain ⟨t, rfl⟩ := e2 v hv
    obtain ⟨t2, rfl⟩ := e2 u hu
    have := inj _ (mem t hv) _ (mem t2 hu) e
    cases this
    rfl
  · have h3 : ∀ u ∈ out, ∃ a, u = Value.ref a := fun u hu => e2 u (h2.mem_iff.mp hu)
    obtain ⟨n, hn⟩ := hn
    have hb : (out.map backV).Perm xs := by rw [e1]; exact h2.map backV
    have J : Inv X pins st (upd H d (.lst (out.map backV))) { s with heap := g } := I.laid (t' := s.toks) kp hd ⟨by rw [hb.length_eq]; exact hz, out, n, vals_back h3, hn⟩
    refine ⟨.ref d, _, J, rfl, q k hk _ d ?_ hb (I.hok.fresh hd)⟩
    refine List.pairwise_map.mpr (h1.imp fun {x y} h => ?_)
    simp only [ltK, decide_eq_false_iff_not] at h
    omega
/-! ### by data -/
def keyD : PyData → Int
  | .tuple (.int i :: _) => i
  | _ => 0
def isKeyD : PyData → Bool
  | .tuple [.int _, _] => true
  | _ => false
def insD (x : PyData) : List PyData → List PyData
  | [] => [x]
  | y :: r => if keyD x ≤ keyD y then x :: y :: r else y :: insD x r
def srtD : List PyData → List PyData
  | [] => []
  | x :: r => insD x (srtD r)
theorem insD_perm (x : PyData) : ∀ l : List PyData, (insD x l).Perm (x :: l)
  | [] => List.Perm.refl _
  | y :: r => by
    unfold insD
    split
    · exact List.Perm.refl _
    · exact ((insD_perm x r).cons y).trans (List.Perm.swap x y r)
theorem srtD_perm : ∀ l : List PyData, (srtD l).Perm l
  | [] => List.Perm.refl _
  | x :: r => (insD_perm x (srtD r)).trans ((srtD_perm r).cons x)
theorem insD_sorted (x : PyData) : ∀ l : List PyData, l.Pairwise (fun a b => keyD a ≤ keyD b) → (insD x l).Pairwise fun a b => keyD a ≤ keyD b
  | [], _ => List.pairwise_singleton _ _
  | y :: r, h => by
    unfold insD
    have hy := List.pairwise_cons.mp h
    split
    · rename_i hx
      refine List.pairwise_cons.mpr ⟨fun z hz => ?_, h⟩
      rcases List.mem_cons.mp hz with rfl | hz
      · exact hx
      · exact Int.le_trans hx (hy.1 z hz)
    · rename_i hx
      refine List.pairwise_cons.mpr ⟨fun z hz => ?_, insD_sorted x r hy.2⟩
      rcases List.mem_cons.mp ((insD_perm x r).mem_iff.mp hz) with rfl | hz
      · omega
      · exact hy.1 z hz
theorem srtD_sorted : ∀ l : List PyData, (srtD l).Pairwise fun a b => keyD a ≤ keyD b
  | [] => List.Pairwise.nil
  | x :: r => insD_sorted x _ (srtD_sorted r)
theorem srtD_one : ∀ {l m : List PyData}, l.Perm m → l.Pairwise (fun a b => keyD a ≤ keyD b) → m.Pairwise (fun a b => keyD a ≤ keyD b) → (l.map keyD).Nodup → l = m
  | [], m, p, _, _, _ => (List.Perm.eq_nil p.symm).symm
  | x :: l, [], p, _, _, _ => absurd p.length_eq (by simp)
  | x :: l, y :: m, p, hl, hm, nd => by
    have h1 := List.pairwise_cons.mp hl
    have h2 := List.pairwise_cons.mp hm
    have n1 := List.nodup_cons.mp nd
    have e : x = y := by
      rcases List.mem_cons.mp (p.mem_iff.mp List.mem_cons_self) with e | e
      · exact e
      · rcases List.mem_cons.mp (p.mem_iff.mpr List.mem_cons_self) with e3 | e3
        · exact e3.symm
        · have a := h2.1 x e
          have b := h1.1 y e3
          exact absurd (List.mem_map.mpr ⟨y, e3, by omega⟩) n1.1
    subst e
    rw [srtD_one p.cons_inv h1.2 h2.2 n1.2]
theorem perm_all2 {A B : Type} {R : A → B → Prop} {l m : List A} (p : l.Perm m) : ∀ {ds : List B}, All2 R m ds → ∃ es, All2 R l es ∧ es.Perm ds := by
  induction p with
  | nil => intro ds h; exact ⟨ds, h, List.Perm.refl _⟩
  | cons x _ ih =>
    intro ds h
    cases h with
    | cons a t =>
      obtain ⟨es, h1, h2⟩ := ih t
      exact ⟨_, .cons a h1, h2.cons _⟩
  | swap x y l =>
    intro ds h
    cases h with
    | cons a t =>
      cases t with
      | cons b t => exact ⟨_, .cons b (.cons a t), List.Perm.swap _ _ _⟩
  | trans _ _ i1 i2 =>
    intro ds h
    obtain ⟨es, h1, h2⟩ := i2 h
    obtain ⟨fs, h3, h4⟩ := i1 h1
    exact ⟨fs, h3, h4.trans h2⟩
abbrev gSortedK : Sl → Mem → RK → Prop := fun r M R => ∃ ss ds, lsOf M r = some ss ∧ datOf ss = some ds ∧ ds.all isKeyD = true ∧ (ds.map keyD).Nodup ∧ R (.d (.list (srtD ds))) M
theorem keyD_at {K : PySem.W.Frag} {F : Hp} {v : V} {d : PyData} (h : Dq K F v d) (e : isKeyD d = true) : ∃ t y, v = .ref t ∧ SqT K F t [.int (keyD d), y] := by
  unfold isKeyD at e
  split at e
  · obtain ⟨p, u, w, rfl, t, hu, hw⟩ := dq_tup2 h
    rw [dq_int hu] at t
    exact ⟨p, w, rfl, t.sq⟩
  · cases e
theorem all2_of_dq {K : PySem.W.Frag} {F : Hp} : ∀ {ds : List PyData} {vs : List V}, DqAll K F vs ds → All2 (fun v d => Dq K F v d) vs ds
  | _, _, .nil => .nil
  | _, _, .cons a t => .cons a (all2_of_dq t)
theorem dq_of_all2 {K : PySem.W.Frag} {F : Hp} : ∀ {ds : List PyData} {vs : List V}, All2 (fun v d => Dq K F v d) vs ds → DqAll K F vs ds
  | _, _, .nil => .nil
  | _, _, .cons a t => .cons a (dq_of_all2 t)
theorem all2_keys {K : PySem.W.Frag} {F H : Hp} (e : Ex F H) : ∀ {ds : List PyData} {vs : List V}, All2 (fun v d => Dq K F v d) vs ds → ds.all isKeyD = true → All2 (Kr K H) vs (ds.map keyD)
  | _, _, .nil, _ => .nil
  | d :: ds, _, .cons a t, h => by
    rw [List.all_cons, Bool.and_eq_true] at h
    obtain ⟨p, y, e1, e2⟩ := keyD_at a h.1
    exact .cons ⟨p, y, e1, Evl.ex_t e e2⟩ (all2_keys e t h.2)
theorem c_sortedK : CaD X (.builtin "sorted") (g1 gSortedK) := ca1 fun F H M v r R Q at0 i1 h1 po => by
  obtain ⟨ss, ds, e1, e2, hk, nd, hR⟩ := h1
  obtain ⟨a, vs, rfl, q1, q2⟩ := lsOf_at at0 i1 e1
  rw [datOf_eq e2] at q2
  have al := all2_of_dq (dqAll_of q2)
  refine ⟨_, cr_sortedK, a, vs, ds.map keyD, rfl, SqL.of q1, all2_keys at0.ex al hk, nd, fun k hkx ys p hs hp hn => ?_⟩
  obtain ⟨es, a1, a2⟩ := perm_all2 hp al
  have ke : es.all isKeyD = true := by
    rw [List.all_eq_true] at hk ⊢
    exact fun x hx => hk x (a2.mem_iff.mp hx)
  have hs2 : es.Pairwise fun a b => keyD a ≤ keyD b := by
    have h3 := all2_keys at0.ex a1 ke
    clear hp a2 al ke hR
    clear hn
    revert hs h3
    induction a1 with
    | nil => intro _ _; exact List.Pairwise.nil
    | @cons v d vs' ds' h t ih =>
      intro hs h3
      cases h3 with
      | cons b1 b2 =>
        have hs := List.pairwise_cons.mp hs
        refine List.pairwise_cons.mpr ⟨fun z hz => ?_, ih hs.2 b2⟩
        obtain ⟨i, hi⟩ := List.getElem?_of_mem hz
        obtain ⟨x, g1, g2⟩ := b2.get' (b := keyD z) (i := i) (by rw [List.getElem?_map, hi]; rfl)
        have := hs.1 x (List.mem_of_getElem? g1)
        rw [hkx _ _ b1, hkx _ _ g2] at this
        exact this
  have e5 : es = srtD ds := srtD_one (a2.trans (srtD_perm ds).symm) hs2 (srtD_sorted ds) ((a2.map keyD).nodup_iff.mpr nd)
  subst e5
  exact po_dat at0 po hn hR fun F' e h => .lst h (dqAll_mono e (dq_of_all2 a1))
end
end DL

set_option Elab.async false
set_option linter.all false
set_option maxRecDepth 100000
set_option maxHeartbeats 4000000
/-! DR: comprehensions over typed lists, over draws; memory. -/
namespace DL
open PySem PySem.Spec L2
section
variable {g : WG} {wt : WT} {we : WE} {C : Mem → Prop} {dl : Env'} {R : List Sl → Mem → Prop} {M : Mem}
/-- nothing changes; an item is kept or not -/
theorem lc_fm {A : Type} (l : List A) (φ : A → Sl) (f : A → Option Sl) (hC : C M) (hz : l.length ≤ sizeLine)
    (h : ∀ a ∈ l, ∀ (k1 : Sl → Mem → Prop) (k0 : Mem → Prop), (∀ y, f a = some y → k1 y M) → (f a = none → k0 M) → g (φ a) dl M fun dl2 M2 => wt dl2 M2 fun k M3 => if k = true then we dl2 M3 k1 else k0 M3)
    (hR : R (l.filterMap f) M) : lcGo g wt we C dl R (l.map φ) [] M := by
  suffices hs : ∀ (l' : List A) (acc : List Sl), (∀ a ∈ l', a ∈ l) → acc.length + l'.length ≤ sizeLine → R (acc ++ l'.filterMap f) M → lcGo g wt we C dl R (l'.map φ) acc M from hs l [] (fun _ h => h) (by simpa using hz) hR
  intro l'
  induction l' with
  | nil => intro acc _ _ h; exact ⟨hC, by simpa using h⟩
  | cons a r ih =>
    intro acc hm hl hr
    rw [List.length_cons] at hl
    refine ⟨hC, h a (hm a List.mem_cons_self) _ _ (fun y hy => ⟨by omega, ih _ (fun b hb => hm b (List.mem_cons_of_mem _ hb)) (by simp; omega) ?_⟩) fun hy => ih _ (fun b hb => hm b (List.mem_cons_of_mem _ hb)) (by omega) ?_⟩
    · rw [List.filterMap_cons_some hy] at hr
      simpa using hr
    · rwa [List.filterMap_cons_none hy] at hr
/-- .. each is kept -/
theorem lc_m {A : Type} (l : List A) (φ f : A → Sl) (hC : C M) (hz : l.length ≤ sizeLine)
    (h : ∀ a ∈ l, ∀ (k1 : Sl → Mem → Prop) (k0 : Mem → Prop), k1 (f a) M → g (φ a) dl M fun dl2 M2 => wt dl2 M2 fun k M3 => if k = true then we dl2 M3 k1 else k0 M3)
    (hR : R (l.map f) M) : lcGo g wt we C dl R (l.map φ) [] M :=
  lc_fm l φ (fun a => some (f a)) hC hz (fun a ha k1 k0 h1 _ => h a ha k1 k0 (h1 _ rfl)) (by simpa [List.filterMap_eq_map'] using hR)
/-- each is made while something changes -/
theorem lc_seq {items : List Sl} (I : Nat → List Sl → Mem → Prop) (hz : items.length ≤ sizeLine) (h0 : I 0 [] M)
    (h : ∀ i x acc M (nx : Sl → Mem → Prop) (k0 : Mem → Prop), items[i]? = some x → acc.length = i → I i acc M → (∀ y M, I (i + 1) (acc ++ [y]) M → nx y M) → C M ∧ g x dl M fun dl2 M2 => wt dl2 M2 fun k M3 => if k = true then we dl2 M3 nx else k0 M3)
    (hR : ∀ acc M, acc.length = items.length → I items.length acc M → C M ∧ R acc M) : lcGo g wt we C dl R items [] M := by
  suffices hs : ∀ (n : Nat) (acc : List Sl) (M : Mem) (i : Nat), i + n = items.length → acc.length = i → I i acc M → lcGo g wt we C dl R (items.drop i) acc M from by simpa using hs items.length [] M 0 (by omega) rfl h0
  intro n
  induction n with
  | zero =>
    intro acc M i hi ha hI
    have e : i = items.length := by omega
    subst e
    rw [List.drop_length]
    exact hR acc M ha hI
  | succ n ih =>
    intro acc M i hi ha hI
    have hlt : i < items.length := by omega
    rw [List.drop_eq_getElem_cons hlt]
    obtain ⟨hc, hg⟩ := h i items[i] acc M (fun y M4 => acc.length < sizeLine ∧ lcGo g wt we C dl R (items.drop (i + 1)) (acc ++ [y]) M4) (lcGo g wt we C dl R (items.drop (i + 1)) acc) (List.getElem?_eq_getElem hlt) ha hI fun y M4 hy => ⟨by omega, ih _ _ _ (by omega) (by simp [ha]) hy⟩
    exact ⟨hc, hg⟩
end
theorem blsOf_map : ∀ bs : List Bool, blsOf ((bs.map PyData.bool).map Sl.d) = some bs
  | [] => rfl
  | b :: r => by rw [List.map_cons, List.map_cons, blsOf, blsOf_map r]; rfl
theorem blsOf_f {A : Type} (l : List A) (f : A → Bool) : blsOf ((l.map fun a => PyData.bool (f a)).map Sl.d) = some (l.map f) := by
  rw [← blsOf_map (l.map f), List.map_map (l := l) (f := f)]; rfl
theorem all_mapid {A : Type} (l : List A) (f : A → Bool) : (l.map f).all id = l.all f := by rw [List.all_map]; rfl
theorem intsOf_mapD (ns : List Int) : intsOf ((ns.map PyData.int).map Sl.d) = some ns := by rw [← mapI]; exact intsOf_map ns
theorem mapD_d {A : Type} (l : List A) (f : A → PyData) : (l.map fun a => Sl.d (f a)) = (l.map f).map Sl.d := by rw [List.map_map]; rfl
theorem zipS_map {A : Type} (l m : List A) (f : A → PyData) : zipS (l.map f) (m.map f) = (l.zip m).map fun p => Sl.w [f p.1, f p.2] := by
  unfold zipS
  rw [List.zip_map, List.map_map]
  rfl
theorem zipS_map2 {A B : Type} (l : List A) (m : List B) (f : A → PyData) (h : B → PyData) : zipS (l.map f) (m.map h) = (l.zip m).map fun p => Sl.w [f p.1, h p.2] := by
  unfold zipS
  rw [List.zip_map, List.map_map]
  rfl
theorem zipD_map2 {A B : Type} (l : List A) (m : List B) (f : A → PyData) (h : B → PyData) : zipD (l.map f) (m.map h) = (l.zip m).map fun p => PyData.tuple [f p.1, h p.2] := by
  unfold zipD
  rw [List.zip_map, List.map_map]
  rfl
theorem atI_map0 {A B : Type} {f : A → B} {x : A} {r : List A} : atI ((x :: r).map f) 0 = some (f x) := atI_nat (i := 0) rfl
theorem atI_map1 {A B : Type} {f : A → B} {x y : A} {r : List A} : atI ((x :: y :: r).map f) 1 = some (f y) := atI_nat (i := 1) rfl
theorem atI_last {A : Type} {l : List A} {x : A} (h : l.getLast? = some x) : atI l (-1) = some x := by
  have hl : l ≠ [] := fun e => by rw [e] at h; cases h
  have h0 : 0 < l.length := List.length_pos_iff.mpr hl
  rw [List.getLast?_eq_getElem?] at h
  unfold atI ixN
  rw [if_neg (by omega), if_pos (by omega)]
  have e : ((l.length : Int) + -1).toNat = l.length - 1 := by omega
  show l[((l.length : Int) + -1).toNat]? = some x
  rw [e]; exact h
theorem map_erase {A B : Type} (f : A → B) : ∀ (l : List A) (i : Nat), (l.map f).eraseIdx i = (l.eraseIdx i).map f
  | [], _ => rfl
  | _ :: _, 0 => rfl
  | a :: r, i + 1 => by rw [List.map_cons, List.eraseIdx_cons_succ, map_erase f r i, List.eraseIdx_cons_succ, List.map_cons]
theorem erase_perm {A : Type} : ∀ {l : List A} {i : Nat} {x : A}, l[i]? = some x → (x :: l.eraseIdx i).Perm l
  | [], _, _, h => by simp at h
  | a :: r, 0, x, h => by simp at h; subst h; exact List.Perm.refl _
  | a :: r, i + 1, x, h => by
    rw [List.eraseIdx_cons_succ]
    exact (List.Perm.swap a x _).trans ((erase_perm (by simpa using h)).cons a)
section
variable {M : Mem} {p : Addr} {ss : List Sl} {ks : KS}
theorem lsOf_m (h : M p = some (.lst ss)) : lsOf M (.v (.ref p)) = some ss := by simp only [lsOf, h]
theorem rlOf_m (h : M p = some (.lst ss)) : rlOf M (.v (.ref p)) = some ss := by simp only [rlOf, lsOf, h]
theorem sqOf_m (h : M p = some (.lst ss)) : sqOf M (.v (.ref p)) = some ss := by simp only [sqOf, rlOf, lsOf, h]
theorem sqOf'_m (h : M p = some (.lst ss)) : sqOf' M (.v (.ref p)) = some ss := by simp only [sqOf', lsOf, h]
theorem tru_l (h : M p = some (.lst ss)) : tru M (.v (.ref p)) = some (!ss.isEmpty) := by simp only [tru, h]
theorem tru_d (h : M p = some (.dic ks)) : tru M (.v (.ref p)) = some (!ks.isEmpty) := by simp only [tru, h]
end
/-! ### memory: what stays -/
/-- all but some of it stays -/
def Kp (ex : List Addr) (M M' : Mem) : Prop := ∀ a o, a ∉ ex → M a = some o → M' a = some o
theorem Kp.refl (ex : List Addr) (M : Mem) : Kp ex M M := fun _ _ _ h => h
theorem Kp.trans {ex : List Addr} {M M1 M2 : Mem} (a : Kp ex M M1) (b : Kp ex M1 M2) : Kp ex M M2 := fun x o h e => b x o h (a x o h e)
theorem Kp.up {ex : List Addr} {M M' : Mem} {p : Addr} {o : MO} (h : Kp ex M M') (hp : p ∈ ex) : Kp ex M (upM M' p o) := fun a u ha e => by
  rw [upM_ne (fun z : a = p => ha (by rw [z]; exact hp))]; exact h a u ha e
theorem Kp.new {ex : List Addr} {M M' : Mem} {p : Addr} {o : MO} (h : Kp ex M M') (hp : M' p = none) : Kp ex M (upM M' p o) := fun a u ha e => by
  have := h a u ha e
  rw [upM_ne (neM this hp)]; exact this
theorem Kp.upN {ex : List Addr} {M M' : Mem} {p : Addr} {o : MO} (h : Kp ex M M') (hp : M p = none) : Kp ex M (upM M' p o) := fun a u ha e => by
  rw [upM_ne (neM e hp)]; exact h a u ha e
theorem Kp.le {ex : List Addr} {M M1 M2 : Mem} (h : Kp ex M M1) (l : Le M1 M2) : Kp ex M M2 := fun a u ha e => l a u (h a u ha e)
theorem Kp.mono {ex ex2 : List Addr} {M M' : Mem} (h : Kp ex M M') (s : ∀ a, a ∈ ex → a ∈ ex2) : Kp ex2 M M' := fun a u ha e => h a u (fun z => ha (s a z)) e
/-- what is wished for at a memory, from a wider one -/
theorem le1 {M M' : Mem} {a : Addr} {o : MO} (h : M' a = some o) (k : Kp [a] M M') : Le (upM M a o) M' := fun c u e => by
  by_cases hc : c = a
  · subst hc; rw [upM_same] at e; cases e; exact h
  · rw [upM_ne hc] at e; exact k c u (by simpa using hc) e
theorem le2 {M M' : Mem} {a b : Addr} {o u : MO} (ha : M' a = some o) (hb : M' b = some u) (k : Kp [a, b] M M') : Le (upM (upM M a o) b u) M' := fun c x e => by
  by_cases hc : c = b
  · subst hc; rw [upM_same] at e; cases e; exact hb
  · rw [upM_ne hc] at e
    by_cases hd : c = a
    · subst hd; rw [upM_same] at e; cases e; exact ha
    · rw [upM_ne hd] at e; exact k c x (by simp [hc, hd]) e
theorem le3 {M M' : Mem} {a b d : Addr} {o u v : MO} (ha : M' a = some o) (hb : M' b = some u) (hd : M' d = some v) (k : Kp [a, b, d] M M') : Le (upM (upM (upM M a o) b u) d v) M' := fun c x e => by
  by_cases h1 : c = d
  · subst h1; rw [upM_same] at e; cases e; exact hd
  · rw [upM_ne h1] at e
    by_cases h2 : c = b
    · subst h2; rw [upM_same] at e; cases e; exact hb
    · rw [upM_ne h2] at e
      by_cases h3 : c = a
      · subst h3; rw [upM_same] at e; cases e; exact ha
      · rw [upM_ne h3] at e; exact k c x (by simp [h1, h2, h3]) e
end DL

set_option Elab.async false
set_option linter.all false
namespace DL
open PySem PySem.Spec L2
theorem nx_go {P : PK} {dl : Env'} {M : Mem} (h : P.nx dl M) : wNext P dl M := h
/-- an expression's ways come together -/
theorem we_cut {w : WE} {dl : Env'} {M : Mem} {R : RK} (Q : Sl → Mem → Prop) (h2 : ∀ r M, Q r M → R r M) (h1 : ∀ R' : RK, (∀ r M, Q r M → R' r M) → w dl M R') : w dl M R := h1 _ h2
end DL
namespace DL
open PySem PySem.Spec L2
/-! ### keywords in another order -/
def pmId {A : Type} (l : List A) : List A := l
def pmSwap {A : Type} : List A → List A
  | [x, y] => [y, x]
  | _ => []
theorem pmId_p {A B : Type} (R : A → B → Prop) (as : List A) (bs : List B) (h : Paired R as bs) : Paired R (pmId as) (pmId bs) := h
theorem pmId_a {A B : Type} (R : A → B → Prop) (as : List A) (bs : List B) (h : All2 R as bs) : All2 R (pmId as) (pmId bs) := h
theorem pmSwap_p {A B : Type} (R : A → B → Prop) (as : List A) (bs : List B) (h : Paired R as bs) : Paired R (pmSwap as) (pmSwap bs) := by
  cases h with
  | nil => exact .nil
  | cons a t =>
    cases t with
    | nil => exact .nil
    | cons b t =>
      cases t with
      | nil => exact .cons b (.cons a .nil)
      | cons c t => exact .nil
theorem pmSwap_a {A B : Type} (R : A → B → Prop) (as : List A) (bs : List B) (h : All2 R as bs) : All2 R (pmSwap as) (pmSwap bs) := by
  cases h with
  | nil => exact .nil
  | cons a t =>
    cases t with
    | nil => exact .nil
    | cons b t =>
      cases t with
      | nil => exact .cons b (.cons a .nil)
      | cons c t => exact .nil
end DL

set_option Elab.async false
set_option linter.all false
set_option maxRecDepth 100000
set_option maxHeartbeats 4000000
/-! DT: the end of a law row, from a def's promise by data. -/
namespace DL
open PySem PySem.Spec PyProof.Rows L2
open Evl (Ex)
theorem at_none {K : PySem.W.Frag} (G : Hp) : At K G (fun _ => none) G := ⟨Ex.refl G, fun a o e => by cases e⟩
/-- what the call of the law's def does, from a heap in which the script alone may be tracked -/
theorem law_core {P : Program} {w : World} {K : PySem.W.Frag} {mg mb : Str → Option Value} {lv : Nat} {fn ad : Addr} {fd : FuncData} {x : Str} {cn : Cn} {s : Shared} {us : List Value} {ns : List Int} (G : Hp)
    (kin : K.In s.heap) (g1 : s.heap.Ns mainGlobals mg) (g2 : s.heap.Ns builtinsNs mb) (g3 : ∀ y : Str, y ≠ "__name__" → mb y = bootBuiltins y) (g4 : s.heap.NoLimit) (g5 : s.gens = #[]) (scr : s.heap.get? ad = some { cls := .type "list", data := .seq us.toArray })
    (room : Room lv callerA) (F : ∀ base : Heap, FnD P w K mg base lv fn fd [x] cn) (bnd : ∀ (s : Shared) (u : Value), BindsTo s fd ⟨[u], []⟩ [(x, u)]) (prm : cn [.r ns] (fun _ => none) fun r _ => r = .b true)
    (only : ∀ b, G b = none ∨ ∃ o l, G b = some (.frz o (.lst l))) (sq : SqL K G ad (ns.map V.int)) (hok : HOk P w G s.heap) (one : ∀ b, G b ≠ none → b = ad) (off : G ad ≠ none → K.lookup ad = none) :
    codeAny (model P w) callerA (.call (.ref fn) ⟨[.ref ad], []⟩) (fun r t => r = .ok (.ret (.bool true)) ∧ OldK s.heap t.heap ∧ t.os = s.os ∧ AllBare t.gens) s := by
  have there : ∀ {c : Addr} {o : Obj}, s.heap.get? c = some o → G c = none → (hidT s.heap G).get? c = some o := fun e n => hidT_get e n
  have untracked : ∀ {c : Addr} {o : Obj} {es : Array DictEntry} {ep : Nat}, s.heap.get? c = some o → o.data = .dict es ep → G c = none := fun {c o es ep} e d => by
    cases q : G c with
    | none => rfl
    | some u =>
      obtain rfl := one c (by rw [q]; exact fun z => nomatch z)
      rw [scr] at e
      cases e
      exact nomatch (show Data.seq us.toArray _ = Data.dict es ep from d)
  have ns_of : ∀ {c : Addr} {f : Str → Option Value}, s.heap.Ns c f → (hidT s.heap G).Ns c f := fun ⟨o, es, ep, e, d, r⟩ => ⟨o, es, ep, there e (untracked e d), d, r⟩
  have kb : K.In (hidT s.heap G) := fun c o e => there (kin c o e) (by
    cases q : G c with
    | none => rfl
    | some u =>
      have n : G c ≠ none := by rw [q]; exact fun z => nomatch z
      obtain rfl := one c n
      rw [off n] at e
      cases e)
  have lim : (hidT s.heap G).NoLimit := let ⟨mc, h1, h2⟩ := g4; ⟨mc, ns_of h1, h2⟩
  have env : Env0 P w K mg (hidT s.heap G) callerA [] s G := ⟨rfl, ⟨kb, ns_of g1, ⟨mb, ns_of g2, g3⟩, lim⟩, fun c o e => of_hidT e, Nat.le_of_eq (hidT_size _ _), trivial, fun c hc => (List.not_mem_nil (a := c) hc).elim, hok, .of_eq g5⟩
  have wish : spD K cn [.ref ad] G (fun v _ => v = .bl true) := ⟨G, fun _ => none, [.r ns], fun r _ => r = .b true, .cons ⟨ad, rfl, sq⟩ .nil, at_none G, prm, fun v F' H' r M' e _ i => by subst e; exact dq_bl i⟩
  refine codeAny_mono ((F _).run callerA [] s G ⟨[.ref ad], []⟩ [.ref ad] [.ref ad] _ rfl room env (bnd s (.ref ad)) (.cons rfl .nil) wish) fun r t h => ?_
  cases r with
  | error e => exact False.elim h
  | ok fl =>
    cases fl with
    | next => exact False.elim h
    | brk => exact False.elim h
    | cont => exact False.elim h
    | ret u =>
      obtain ⟨v, G', os, bare, un, hok', rel, q⟩ := h
      obtain rfl : v = .bl true := q
      obtain rfl : u = Value.bool true := rel
      refine ⟨rfl, OldK.of_keep fun c o e => ?_, os, bare⟩
      rcases only c with z | ⟨ob, l, z⟩
      · exact un.keep c o e z (fun q => (List.not_mem_nil (a := c) q).elim) (by simp)
      · have e1 := (hok c _ z).1
        have e2 := (hok' c _ (un.frzs c ob _ z)).1
        rw [e] at e1
        cases e1
        exact e2
theorem law_end {l : PySem.W.OpenLaw} {n lv : Nat} {q : Program} {loose : List Str} {XP : (Str → Option Value) → Heap → Prop} {YP : World → Heap → Prop} {d : DefRec} {K : Params → PySem.W.Frag} {cn : Cn} {x : Str}
    (most : l.most = some n) (few : n ≤ sizeLine) (nodef : d.params.defaults = []) (room : Room lv callerA) (hY : ∀ (w : World) (h : Heap), YP w h → (K w.params).In h)
    (F : ∀ (w : World) (mg : Str → Option Value) (fa : Addr) (h : Heap), (K w.params).In h → h.Ns mainGlobals mg → mg d.name = some (.ref fa) → ∃ fd : FuncData, (∀ (s : Shared) (u : Value), BindsTo s fd ⟨[u], []⟩ [(x, u)]) ∧ ∀ base : Heap, FnD l.prog w (K w.params) mg base lv fa fd [x] cn)
    (prm : ∀ ns : List Int, ns.length ≤ n → cn [.r ns] (fun _ => none) fun r _ => r = .b true) : PySem.W.WalkO q loose XP YP l.row.toRowW d [] (fun f vs => PySem.call f vs) := by
  refine Att.attach_call most nodef fun w s0 s mg mb fa o pm cd doc ad us ns G Y ho hd hcd hmg scr inl len g5 => ?_
  obtain ⟨fd, bnd, hF⟩ := F w mg fa _ (hY w _ Y) G.T.g hmg
  have rv := vals_ints inl
  have lu := inl.length
  have core := fun H => law_core (P := l.prog) (w := w) (us := us) (ns := ns) H (hY w _ Y) G.T.g G.T.b G.T.builtins G.T.nolimit g5 scr room hF bnd (prm ns len)
  cases e : (K w.params).lookup ad with
  | some ob =>
    have e2 := hY w _ Y ad ob e
    rw [scr] at e2
    cases e2
    refine core (fun _ => none) (fun _ => .inl rfl) (.inr ⟨_, us.toArray, _, e, rfl, rfl, rfl, ?_, by simpa using rv⟩) (fun c u z => nomatch (show (none : Option HO) = some u from z)) (fun c z => absurd rfl z) fun z => absurd rfl z
    rw [List.size_toArray, lu]; omega
  | none =>
    let H : Hp := fun c => if c = ad then some (.frz { cls := .type "list", data := .seq us.toArray } (.lst (ns.map V.int))) else none
    have at1 : H ad = some (.frz { cls := .type "list", data := .seq us.toArray } (.lst (ns.map V.int))) := if_pos rfl
    have at2 : ∀ c, c ≠ ad → H c = none := fun c hc => if_neg hc
    refine core H (fun c => ?_) (.inl (.inr ⟨_, at1⟩)) (fun c u z => ?_) (fun c z => ?_) fun _ => e
    · by_cases hc : c = ad
      · subst hc; exact .inr ⟨_, _, at1⟩
      · exact .inl (at2 c hc)
    · by_cases hc : c = ad
      · subst hc
        rw [at1] at z
        cases z
        exact ⟨scr, by rw [List.length_map]; omega, us, _, rv, scr⟩
      · rw [at2 c hc] at z; cases z
    · by_cases hc : c = ad
      · exact hc
      · exact absurd (at2 c hc) z
end DL
namespace DL
open PySem PySem.Spec L2
/-- a def of the top -/
def DefAt (K : PySem.W.Frag) (mg : Str → Option Value) (x : Str) (st : Stmt) : Prop := ∃ f fd, mg x = some (.ref f) ∧ Fun K x x st f fd
theorem def_mk {K : PySem.W.Frag} {h : Heap} {mg : Str → Option Value} {x : Str} {st : Stmt} {f : Addr} {od an : Option Addr} {sl : Array (Option Value)} {oc kV doc pm cd ct : Value} (X : K.In h) (G : h.Ns mainGlobals mg)
    (a : PySem.W.nsIn K mainGlobals x = some (some (.ref f))) (l : K.lookup f = some ⟨oc, od, .func (PySem.W.fnOf x x (defArgs st) (defBody st) (defScope st) .none kV doc pm an cd ct), sl⟩) (c : PySem.W.codeIn K cd x = true) (k : PySem.W.keepIn K (.ref f) = true) : DefAt K mg x st :=
  ⟨f, _, PySem.W.mg_of X G a, fun_mk (st := st) l c k⟩
theorem const_mk {K : PySem.W.Frag} {h : Heap} {mg : Str → Option Value} {x : Str} {v : Value} (X : K.In h) (G : h.Ns mainGlobals mg) (a : PySem.W.nsIn K mainGlobals x = some (some v)) : mg x = some v := PySem.W.mg_of X G a
end DL
namespace DL
open PySem PySem.Spec L2
theorem gd_mk {K : PySem.W.Frag} {h : Heap} {mg : Str → Option Value} {x : Str} {f : Addr} {n : Nat} {sl : Array (Option Value)} {ws : Array Value} (ss : List Str) (X : K.In h) (G : h.Ns mainGlobals mg) (a : PySem.W.nsIn K mainGlobals x = some (some (.ref f))) (l : K.lookup f = some ⟨.type "tuple", none, .seq ws n, sl⟩)
    (v : Vals (ss.map V.str) ws.toList) (c : ws.size ≤ sizeLine) : GD K mg x (.tuple (ss.map PyData.str)) := gd_strs ss (PySem.W.mg_of X G a) l v c
end DL

set_option Elab.async false
set_option linter.all false
set_option maxRecDepth 100000
set_option maxHeartbeats 4000000
/-! DU: -a, a, b, c = x, y, z, + of data by shapes, tuple(..), [..] * k of data. -/
namespace DL
open PySem PySem.Spec L2
open Evl (Ex)
section
variable {X : Cx} {a b c : Expr} {wa wb wc : WE} {pos : Pos}
abbrev wNeg (wa : WE) : WE := fun dl M R => wa dl M fun r M1 => match r with
  | .d (.int i) => R (.i (-i)) M1
  | _ => False
theorem pd_neg (ha : PD X a wa) : PD X (.UnaryOp .USub a pos) (wNeg wa) := by
  refine pe_imp (pe_un un_neg ha) fun st H Q ⟨F, dl, M, R, so, at0, hw, po⟩ => ?_
  refine tD_to so at0 hw fun x F1 H1 r M1 h1 g1 so1 at1 i1 => ?_
  split at h1
  · exact ⟨_, dq_int i1, po _ F1 H1 _ M1 h1 g1 (.int _)⟩
  · exact h1.elim
abbrev wPar3 (i j l : Nat) (wa : WA) : WS := fun P dl M => wa dl M fun rs M1 => match rs with
  | [r, q, t] => P.nx (((dl.set i (some r)).set j (some q)).set l (some t)) M1
  | _ => False
theorem isAll3 {K : PySem.W.Frag} {F : Hp} {r q t : Sl} {vs : List V} (h : IsAll K F [r, q, t] vs) : ∃ v u w, vs = [v, u, w] ∧ Is K F r v ∧ Is K F q u ∧ Is K F t w := by
  cases h with
  | cons h k => obtain ⟨u, w, rfl, h2, h3⟩ := isAll2 k; exact ⟨_, _, _, rfl, h, h2, h3⟩
theorem pds_par3 (i j l : Nat) {x y z : Str} {wa : WA} {px py pz pt : Pos} {kt k2 pt2} (hc : X.calm = true) (hN : X.N.Nodup) (hij : i ≠ j) (hil : i ≠ l) (hjl : j ≠ l) (ha : PDA X [a, b, c] wa) (hi : X.N[i]? = some x := by rfl) (hj : X.N[j]? = some y := by rfl) (hl : X.N[l]? = some z := by rfl)
    (hx : X.env.scope.names.lookup x = some .local := by rfl) (hy : X.env.scope.names.lookup y = some .local := by rfl) (hz : X.env.scope.names.lookup z = some .local := by rfl)
    (hw : swappedStores [.Tuple [.Name x px, .Name y py, .Name z pz] kt pt] (.Tuple [a, b, c] k2 pt2) X.env = pure (some [x, y, z]) := by rfl)
    (hs : swapsWithSole [.Tuple [.Name x px, .Name y py, .Name z pz] kt pt] (.Tuple [a, b, c] k2 pt2) pos.line X.env = pure false := by rfl) : PDS X (.Assign [.Tuple [.Name x px, .Name y py, .Name z pz] kt pt] (.Tuple [a, b, c] k2 pt2) pos) (wPar3 i j l wa) :=
  ps_imp (ps_par3 hc hN hi hj hl hij hil hjl hx hy hz ha hw hs) fun D st H ⟨F, dl, M, P, so, at0, hw, po⟩ =>
    tDA_to so at0 hw fun vs F1 H1 rs M1 h1 g1 so1 at1 i1 => by
      split at h1
      · obtain ⟨v, u, t, rfl, q1, q2, q3⟩ := isAll3 i1
        exact ⟨v, u, t, rfl, po.nx _ F1 H1 _ M1 h1 g1 (sok_set (sok_set (sok_set so1 q1) q2) q3)⟩
      · exact h1.elim
/-- + by shapes, data lists at once -/
abbrev gPlusD : W2 := fun p q M R => match p, q with
  | .d (.int i), .d (.int j) => R (.i (i + j)) M
  | .d (.tuple xs), .d (.tuple ys) => xs.length + ys.length ≤ sizeLine ∧ R (.d (.tuple (xs ++ ys))) M
  | .d (.list xs), .d (.list ys) => xs.length + ys.length ≤ sizeLine ∧ R (.d (.list (xs ++ ys))) M
  | p, q => gCat p q M R
theorem o_plusD : OpD X (binaryOp .Add) gPlusD := opD_of fun F H M x y p q R Q at0 h1 h2 h3 po => by
  obtain ⟨r, ho, hr⟩ := o_plus (X := X)
  unfold gPlusD at h3
  split at h3
  · exact ⟨r, ho, hr F H M x y _ _ R Q at0 h1 h2 h3 po⟩
  · exact ⟨r, ho, hr F H M x y _ _ R Q at0 h1 h2 h3 po⟩
  · refine ⟨r, ho, hr F H M x y _ _ R Q at0 h1 h2 ?_ po⟩
    show gCat _ _ M R
    exact ⟨_, _, _, rfl, rfl, (congrArg datOf (List.map_append (f := Sl.d)).symm).trans (datOf_map _), by simpa using h3.1, h3.2⟩
  · obtain ⟨r, ho, hr⟩ := o_cat (X := X)
    exact ⟨r, ho, hr F H M x y _ _ R Q at0 h1 h2 h3 po⟩
end
end DL

set_option Elab.async false
set_option linter.all false
set_option maxRecDepth 100000
set_option maxHeartbeats 4000000
namespace DL
open PySem PySem.Spec L2
open Evl (Ex)
/-! ### what memory reads as, now -/
mutual
inductive RdM (M : Mem) : Sl → PyData → Prop
  | d {x : PyData} : RdM M (.d x) x
  | lst {p : Addr} {ss : List Sl} {ds : List PyData} : M p = some (.lst ss) → RdMs M ss ds → RdM M (.v (.ref p)) (.list ds)
inductive RdMs (M : Mem) : List Sl → List PyData → Prop
  | nil : RdMs M [] []
  | cons {r : Sl} {rs : List Sl} {d : PyData} {ds : List PyData} : RdM M r d → RdMs M rs ds → RdMs M (r :: rs) (d :: ds)
end
mutual
theorem rd_dp {K : PySem.W.Frag} {F H : Hp} {M : Mem} (at0 : At K F M H) : ∀ {r : Sl} {d : PyData} {v : V}, RdM M r d → Is K F r v → Dp K H v d
  | _, _, _, .d, i => dq_up at0.ex i
  | _, _, v, .lst (p := p) (ss := ss) m h, i => by
    have e : v = .ref p := i
    subst e
    obtain ⟨_, vs, h1, h2⟩ := at0.mem p _ m
    exact .lst (SqL.of h1) (rds_dp at0 h h2)
theorem rds_dp {K : PySem.W.Frag} {F H : Hp} {M : Mem} (at0 : At K F M H) : ∀ {rs : List Sl} {ds : List PyData} {vs : List V}, RdMs M rs ds → IsAll K F rs vs → DpAll K H vs ds
  | _, _, _, .nil, .nil => .nil
  | _, _, _, .cons h t, .cons i j => .cons (rd_dp at0 h i) (rds_dp at0 t j)
end
theorem rdm_map {M : Mem} : ∀ ds : List PyData, RdMs M (ds.map Sl.d) ds
  | [] => .nil
  | _ :: r => .cons .d (rdm_map r)
section
variable {X : Cx}
/-- repr of what may still change -/
abbrev gReprM : Sl → Mem → RK → Prop := fun r M R => ∃ x, RdM M r x ∧ Shw x ∧ R (.s x.shown) M
theorem c_reprM (hgd : X.A.guards = some []) (hu : X.A.units + 64 < cLine) : CaD X (.builtin "repr") (g1 gReprM) := ca1 fun F H M v r R Q at0 i1 h1 po => by
  obtain ⟨x, hx, ⟨a, b, c, d⟩, hR⟩ := h1
  exact ⟨_, call_reprD hgd hu, v, _, rfl, rd_dp at0 hx i1, a, b, c, d, po _ F H _ M hR (Go.refl at0) (.str _)⟩
/-! ### xs.extend(ys) -/
abbrev gExtend : Sl → List Sl → Mem → RK → Prop := fun r rs M R => match r, rs with
  | .v (.ref p), [.d (.list ds)] => ∃ ss, M p = some (.lst ss) ∧ ss.length + ds.length ≤ sizeLine ∧ R .n (upM M p (.lst (ss ++ ds.map Sl.d)))
  | .v (.ref p), [.v (.ref q)] => ∃ ss ts, M p = some (.lst ss) ∧ M q = some (.lst ts) ∧ ss.length + ts.length ≤ sizeLine ∧ R .n (upM M p (.lst (ss ++ ts)))
  | _, _ => False
variable {o e : Expr} {wo : WE} {wa : WA} {apos cpos : Pos}
theorem pd_extend (ho : PD X o wo) (ha : PDA X [e] wa) (hbase : attributeBase o "extend" X.env (eval o X.env) = eval o X.env := by rfl)
    (hfew : ((backTo cpos (starEach [e] X.env)).all (fun x => !x.1) && (backToKw cpos (keywordEach [] X.env)).all (fun x => x.1.isSome) && decide ([e].length + ([] : List Keyword).length + (if ([] : List Keyword).isEmpty then 0 else 1) < 30)) = true := by rfl)
    (hline : (apos.endLine == cpos.line) = true := by rfl) (hs : starEach [e] X.env = (false, eval e X.env) :: starEach [] X.env := by rfl) : PD X (.Call (.Attribute o "extend" apos) [e] [] cpos) (wLMeth gExtend wo wa) := by
  refine pe_imp (pe_bm PySem.F.plainAttrs_list PySem.F.slot_list_extend PySem.F.type_list_extend mt_extend ho ha hbase hfew hline hs rfl) fun st H Q h => tBM_of (fun F H M v vs x rs R Q at0 i1 i2 hg po => ?_) h
  unfold gExtend at hg
  split at hg
  · rename_i p ds
    obtain ⟨ss, m, hz, hR⟩ := hg
    obtain ⟨u, rfl, i3⟩ := isAll1 i2
    have i4 : v = .ref p := i1
    subst i4
    obtain ⟨f, us, q1, q2⟩ := at0.mem p _ m
    cases i3 with
    | @lst ad ws _ h1 h2 =>
      have al : IsAll X.K F (ds.map Sl.d) ws := isAll_d h2
      refine ⟨p, ad, us, ws, rfl, rfl, q1, at0.ex _ _ h1, ?_, po _ F _ _ _ hR (Go.put at0 m ⟨_, upd_same, q2.append al⟩) .non⟩
      have l1 := q2.length
      have l2 := al.length
      rw [List.length_map] at l2
      rw [← l1, ← l2]; exact hz
  · rename_i p q
    obtain ⟨ss, ts, m, n, hz, hR⟩ := hg
    obtain ⟨u, rfl, i3⟩ := isAll1 i2
    have i4 : v = .ref p := i1
    subst i4
    have i5 : u = .ref q := i3
    subst i5
    obtain ⟨f, us, q1, q2⟩ := at0.mem p _ m
    obtain ⟨f2, ws, q3, q4⟩ := at0.mem q _ n
    refine ⟨p, q, us, ws, rfl, rfl, q1, q3, ?_, po _ F _ _ _ hR (Go.put at0 m ⟨_, upd_same, q2.append q4⟩) .non⟩
    rw [← q2.length, ← q4.length]; exact hz
  · exact hg.elim
end
end DL

set_option Elab.async false
set_option linter.all false
set_option maxRecDepth 100000
set_option maxHeartbeats 4000000
namespace DL
open PySem PySem.Spec L2 PyProof.Rows
open Evl (Ex)
section
variable {X : Cx}
/-! ### sorted(d), however many keys -/
theorem cr_sortedDA (hc : X.calm = true) : CallR X (.builtin "sorted") (fun args H Q => ∃ (d : Addr) (kvs : List (Key × V)) (ns : List Int), args = [V.ref d] ∧ Rd H d (.dK kvs) ∧ kvs.map (·.1) = ns.map Sum.inl ∧
    ∀ (out : List Int) (p : Addr), out.Perm ns → out.Pairwise (· ≤ ·) → H p = none → Q (.ref p) (upd H p (.lst (out.map V.int)))) := by
  intro pins s st H args us Q I r ⟨d, kvs, ns, ea, hd, hn, post⟩
  subst ea
  obtain ⟨w1, e1, r1⟩ := vals1 r
  subst e1
  cases r1
  obtain ⟨hz, hlo, ents, hrel, hdict⟩ := dk_rd I.hok hd
  obtain ⟨ep, hat⟩ := hdict.dictAt
  have hkn : ents.map (·.1) = ns.map Sum.inl := hrel.keys.symm.trans hn
  have len1 : ents.length = ns.length := by simpa using congrArg List.length hkn
  have len2 : kvs.length = ns.length := by simpa using congrArg List.length hn
  have hz2 : ents.length ≤ sizeLine := by omega
  refine Calls.call_function_entry PyProof.Rows.kind_sorted PyProof.Rows.plain_sorted PyProof.Rows.entry_sorted (PyProof.Rows.args_sorted1 _) ?_
  unfold Builtin.«sorted»
  refine wpAny_bind (m := checkCount "sorted" 1 1 _) (wpAny_pure ?_)
  refine wpAny_bind (PySem.W.kdu_collect (A := X.A.in1) (PySem.W.kdl_dict (knd := mixKind X.prog X.w) (kvs := ents) (ep := ep) hlo) (I.ok.hd hc) hat hz2 fun g tk acc hk hacc => ?_)
  have hal : acc.toList.length = ns.length := by rw [Array.length_toList, hacc.1, len1]
  have hints : IntsAre acc.toList ns := ints_each hal fun j v ev => by
    obtain ⟨key, x, ek, kx⟩ := hacc.2 j v (by rw [← Array.getElem?_toList]; exact ev)
    have em : (ents.map (·.1))[j]? = some key := by rw [List.getElem?_map, ek]; rfl
    rw [hkn, List.getElem?_map] at em
    cases en : ns[j]? with
    | none => rw [en] at em; cases em
    | some n =>
      rw [en] at em
      have eq : Sum.inl n = key := Option.some.inj em
      subst eq
      rcases keyIs_shape (show keyIs (Sum.inl n) v = true from kx) with ⟨i, t, ei, et⟩ | ⟨i, t, ei, et⟩
      · cases ei
        exact ⟨n, t, rfl, et⟩
      · cases ei
  have I1 : Inv X pins st H { s with heap := g, toks := tk } := I.kept hk
  refine wpAny_bind (wpAny_newList ?_ (by rw [hal]; omega))
  have hat2 : (g.push (seqObj "list" acc.toList.toArray 0)).get? g.objs.size = some (seqObj "list" acc.toList.toArray 0) := Heap.get?_push_size _ rfl
  show wpAny _ _ _ _ _ { s with heap := g.push (seqObj "list" acc.toList.toArray 0), toks := tk }
  refine wpAny_bind (wpAny_holding (wpAny_call_entry slot_list_sort ⟨_, hat2, rfl⟩ entry_list_sort
    (SrtO.list_sort_ord (s := { s with heap := g.push (seqObj "list" acc.toList.toArray 0), toks := tk }) SrtO.swo_int hat2 (by rw [hal]; omega) (fun two => SrtO.ints_sortable hints two) fun out o1 o2 => ⟨_, rfl, ?_⟩) (args_list_sort _)))
  obtain ⟨k1, k2, k3⟩ := SrtO.ints_out hints o1 o2
  obtain ⟨ep2, hend⟩ := sortedHeap_at (vs := acc.toList) (out := out.toArray) hat2
  have lout : ((out.map SrtO.iv).map V.int).length ≤ sizeLine := by
    rw [List.length_map, k2.length_eq]; omega
  refine wpAny_pure ⟨_, rfl, .ref g.objs.size, upd H g.objs.size (.lst ((out.map SrtO.iv).map V.int)), I1.laid (t' := tk) (fun b u eb => ?_) (Nat.le_refl _)
    (show ObjOk X.prog X.w _ _ _ (.lst ((out.map SrtO.iv).map V.int)) from ⟨lout, out, ep2, vals_of_ints k1, hend⟩), rfl, post _ _ k2 k3 (I1.hok.fresh (Nat.le_refl _))⟩
  have lt : b < g.objs.size := Heap.lt_size eb
  rw [sortedHeap_old (Nat.ne_of_lt lt) (by rw [size_push']; exact Nat.lt_succ_of_lt lt)]
  exact Heap.get?_push_of_some _ eb
abbrev gSortedDA : Sl → Mem → RK → Prop := fun r M R => match r with
  | .v (.ref a) => ∃ ks ns, M a = some (.dic ks) ∧ keysI ks = some ns ∧ R (.d (.list ((srtI ns).map PyData.int))) M
  | _ => False
theorem c_sortedDA (hc : X.calm = true) : CaD X (.builtin "sorted") (g1 gSortedDA) := ca1 fun F H M v r R Q at0 i1 h1 po => by
  unfold gSortedDA at h1
  split at h1
  · rename_i ad
    obtain ⟨ks, ns, m, e, hR⟩ := h1
    have ex : v = .ref ad := i1
    subst ex
    obtain ⟨_, kvs, q1, q2⟩ := at0.mem ad _ m
    refine ⟨_, cr_sortedDA hc, ad, kvs, ns, rfl, .inl q1, keysI_at q2 e, fun ys p hp hs hn => ?_⟩
    have e4 := sorted_one (hp.trans (srtI_perm ns).symm) hs (srtI_sorted ns)
    subst e4
    exact po_dat at0 po hn hR fun F' e h => .lst h (dqAll_ints _)
  · exact h1.elim
end
end DL

set_option Elab.async false
set_option linter.all false
set_option maxRecDepth 100000
set_option maxHeartbeats 4000000
namespace DL
open PySem PySem.Spec L2
open Evl (Ex)
section
variable {X : Cx}
/-! ### a dict that is walked stays as it is -/
abbrev wLock (w : WS) : WS := fun P dl M => ∃ p ks, M p = some (.dic ks) ∧ ∀ od kvs, w ⟨fun dl' M' => M' p = some (.lok od kvs ks) ∧ P.nx dl' (upM M' p (.dic ks)), fun r M' => M' p = some (.lok od kvs ks) ∧ P.rt r (upM M' p (.dic ks)), fun dl' M' => M' p = some (.lok od kvs ks) ∧ P.bk dl' (upM M' p (.dic ks)), fun dl' M' => M' p = some (.lok od kvs ks) ∧ P.ct dl' (upM M' p (.dic ks))⟩ dl (upM M p (.lok od kvs ks))
theorem lock_back {K : PySem.W.Frag} {F H F' H' : Hp} {M M' : Mem} {p : Addr} {od : Obj} {kvs : List (Key × V)} {ks : KS} (at0 : At K F M H) (m : M p = some (.dic ks)) (q1 : H p = some (.dK kvs)) (q2 : All2 (KIs K F) ks kvs)
    (g : Go K F (upM M p (.lok od kvs ks)) (upd H p (.frz od (.dK kvs))) F' M' H') (m' : M' p = some (.lok od kvs ks)) : H' p = some (.frz od (.dK kvs)) ∧ Go K F M H F' (upM M' p (.dic ks)) (upd H' p (.dK kvs)) := by
  obtain ⟨f, h1, h2⟩ := g.at'.mem p _ m'
  exact ⟨h1, ((Go.put (o := .lok od kvs ks) at0 m ⟨upd_same, q2⟩).trans g).trans (Go.put g.at' m' ⟨kvs, upd_same, h2⟩)⟩
theorem pds_lock {st : Stmt} {w : WS} (h : PDS X st w) : PDS X st (wLock w) := ps_imp (ps_lock h) fun D σ H ⟨F, dl, M, P, so, at0, ⟨p, ks, m, hw⟩, po⟩ => by
  obtain ⟨hF, kvs, q1, q2⟩ := at0.mem p _ m
  refine ⟨p, .dK kvs, q1, trivial, fun od => ?_⟩
  have g : Go X.K F M H F (upM M p (.lok od kvs ks)) (upd H p (.frz od (.dK kvs))) := Go.put at0 m ⟨upd_same, q2⟩
  refine ⟨F, dl, _, _, so, g.at', hw od kvs, ⟨?_, ?_, ?_, ?_⟩⟩
  · rintro st' F' H' dl' M' ⟨m', hn⟩ g2 so'
    obtain ⟨a, b⟩ := lock_back at0 m q1 q2 g2 m'
    exact ⟨a, po.nx st' F' _ dl' _ hn b so'⟩
  · rintro v F' H' r M' ⟨m', hn⟩ g2 i'
    obtain ⟨a, b⟩ := lock_back at0 m q1 q2 g2 m'
    exact ⟨a, po.rt v F' _ r _ hn b i'⟩
  · rintro st' F' H' dl' M' ⟨m', hn⟩ g2 so'
    obtain ⟨a, b⟩ := lock_back at0 m q1 q2 g2 m'
    exact ⟨a, po.bk st' F' _ dl' _ hn b so'⟩
  · rintro st' F' H' dl' M' ⟨m', hn⟩ g2 so'
    obtain ⟨a, b⟩ := lock_back at0 m q1 q2 g2 m'
    exact ⟨a, po.ct st' F' _ dl' _ hn b so'⟩
abbrev wLockE (w : WE) : WE := fun dl M R => ∃ p ks, M p = some (.dic ks) ∧ ∀ od kvs, w dl (upM M p (.lok od kvs ks)) fun r M' => M' p = some (.lok od kvs ks) ∧ R r (upM M' p (.dic ks))
theorem pd_lock {e : Expr} {w : WE} (h : PD X e w) : PD X e (wLockE w) := pe_imp (pe_lock h) fun σ H Q ⟨F, dl, M, R, so, at0, ⟨p, ks, m, hw⟩, po⟩ => by
  obtain ⟨hF, kvs, q1, q2⟩ := at0.mem p _ m
  refine ⟨p, .dK kvs, q1, trivial, fun od => ?_⟩
  have g : Go X.K F M H F (upM M p (.lok od kvs ks)) (upd H p (.frz od (.dK kvs))) := Go.put at0 m ⟨upd_same, q2⟩
  refine ⟨F, dl, _, _, so, g.at', hw od kvs, ?_⟩
  rintro v F' H' r M' ⟨m', hn⟩ g2 i'
  obtain ⟨a, b⟩ := lock_back at0 m q1 q2 g2 m'
  exact ⟨a, po v F' _ r _ hn b i'⟩
/-! ### over the values, over the keys -/
def kSl : Key → Sl
  | .inl i => .i i
  | .inr s => .s s
abbrev wiVals (we : WE) : WI := fun dl M T => we dl M fun r M1 => match r with
  | .v (.ref p) => ∃ od kvs ks, M1 p = some (.lok od kvs ks) ∧ T (ks.map (·.2)) (fun M => M p = some (.lok od kvs ks)) M1
  | _ => False
abbrev wiKeys (we : WE) : WI := fun dl M T => we dl M fun r M1 => match r with
  | .v (.ref p) => ∃ od kvs ks, M1 p = some (.lok od kvs ks) ∧ T (ks.map fun k => kSl k.1) (fun M => M p = some (.lok od kvs ks)) M1
  | _ => False
theorem wk_vals {K : PySem.W.Frag} {F0 : Hp} {p : Addr} {od : Obj} {kvs : List (Key × V)} {ks : KS} : Wk K F0 (fun M => M p = some (.lok od kvs ks)) (Itd p od kvs) (ks.map (·.2)) := by
  refine ⟨fun F M H i e at0 c hi => ?_, fun F M H i x H' r e at0 c y hr => ?_, fun F M H e at0 c => ?_⟩
  · obtain ⟨_, h1, h2⟩ := at0.mem p _ c
    rw [List.length_map] at hi
    exact ⟨h1, by rw [← h2.length]; exact hi⟩
  · obtain ⟨_, h1, h2⟩ := at0.mem p _ c
    obtain ⟨rfl, k, hk⟩ := y
    refine ⟨F, Go.refl at0, ?_⟩
    rw [List.getElem?_map] at hr
    cases e1 : ks[i]? with
    | none => rw [e1] at hr; cases hr
    | some kr =>
      rw [e1] at hr
      obtain ⟨kv, h3, h4⟩ := h2.get e1
      rw [hk] at h3
      cases h3
      cases hr
      exact h4.2
  · obtain ⟨_, h1, h2⟩ := at0.mem p _ c
    exact ⟨h1, by rw [List.length_map, h2.length]; exact Nat.le_refl _⟩
theorem kSl_is {K : PySem.W.Frag} {F : Hp} : ∀ k : Key, Is K F (kSl k) (kV k)
  | .inl i => .int i
  | .inr s => .str s
theorem wk_keys {K : PySem.W.Frag} {F0 : Hp} {p : Addr} {od : Obj} {kvs : List (Key × V)} {ks : KS} : Wk K F0 (fun M => M p = some (.lok od kvs ks)) (Itk p od kvs) (ks.map fun k => kSl k.1) := by
  refine ⟨fun F M H i e at0 c hi => ?_, fun F M H i x H' r e at0 c y hr => ?_, fun F M H e at0 c => ?_⟩
  · obtain ⟨_, h1, h2⟩ := at0.mem p _ c
    rw [List.length_map] at hi
    exact ⟨h1, by rw [← h2.length]; exact hi⟩
  · obtain ⟨_, h1, h2⟩ := at0.mem p _ c
    obtain ⟨rfl, k, v, hk, rfl⟩ := y
    refine ⟨F, Go.refl at0, ?_⟩
    rw [List.getElem?_map] at hr
    cases e1 : ks[i]? with
    | none => rw [e1] at hr; cases hr
    | some kr =>
      rw [e1] at hr
      obtain ⟨kv, h3, h4⟩ := h2.get e1
      rw [hk] at h3
      cases h3
      cases hr
      have e9 : kr.1 = k := h4.1
      show Is K F (kSl kr.1) (kV k)
      rw [e9]
      exact kSl_is _
  · obtain ⟨_, h1, h2⟩ := at0.mem p _ c
    exact ⟨h1, by rw [List.length_map, h2.length]; exact Nat.le_refl _⟩
variable {tg e : Expr} {we : WE} {apos cpos : Pos}
theorem pdi_vals (he : PD X e we) (hbase : attributeBase e "values" X.env (eval e X.env) = eval e X.env := by rfl) (hline : (apos.endLine == cpos.line) = true := by rfl) : PDI X tg (.Call (.Attribute e "values" apos) [] [] cpos) (wiVals we) :=
  pi_imp (pi_values he hbase hline) fun st H Q ⟨F, dl, M, T, so, at0, hw, po⟩ => tD_to so at0 hw fun x F1 H1 r M1 h1 g1 so1 at1 i1 => by
    split at h1
    · rename_i p
      obtain ⟨od, kvs, ks, m, hT⟩ := h1
      have ex : x = .ref p := i1
      obtain ⟨_, h2, h3⟩ := at1.mem p _ m
      exact ⟨p, od, kvs, ex, h2, po F1 M1 H1 _ _ _ hT g1 wk_vals⟩
    · exact h1.elim
theorem pdi_keys (he : PD X e we) : PDI X tg e (wiKeys we) :=
  pi_imp (pi_keys he) fun st H Q ⟨F, dl, M, T, so, at0, hw, po⟩ => tD_to so at0 hw fun x F1 H1 r M1 h1 g1 so1 at1 i1 => by
    split at h1
    · rename_i p
      obtain ⟨od, kvs, ks, m, hT⟩ := h1
      have ex : x = .ref p := i1
      obtain ⟨_, h2, h3⟩ := at1.mem p _ m
      exact ⟨p, od, ex, .inl ⟨kvs, h2, po F1 M1 H1 _ _ _ hT g1 wk_keys⟩⟩
    · exact h1.elim
end
end DL

set_option Elab.async false
set_option linter.all false
set_option maxRecDepth 100000
set_option maxHeartbeats 4000000
namespace DL
open PySem PySem.Spec L2
open Evl (Ex)
section
variable {X : Cx}
/-! ### d.update(d2) -/
theorem mt_dupdate : MtR X "dict.update" (fun x vs H Q => ∃ (d o : Addr) (kvs more : List (Key × V)), x = V.ref d ∧ vs = [V.ref o] ∧ d ≠ o ∧ H d = some (.dK kvs) ∧ Rd H o (.dK more) ∧ kvs.length + more.length ≤ sizeLine ∧ Q .non (upd H d (.dK (mergeK kvs more)))) := by
  intro pins s st H x vs v us Q I rx rv ⟨d, o, kvs, more, ex, ev, hne, hd, ho, hz, q⟩
  subst ex ev
  obtain rfl : v = .ref d := rx
  obtain ⟨u, eu, ru⟩ := vals1 rv
  subst eu
  obtain rfl : u = .ref o := ru
  obtain ⟨z1, lo1, es1, rel1, dd1⟩ := dk_of I.hok hd
  obtain ⟨z2, lo2, es2, rel2, dd2⟩ := dk_rd I.hok ho
  refine call_meetsIn PySem.F.slot_dict_update dd1.typeIs PySem.F.entry_dict_update (PySem.F.args_dict_update_2 _ _) (meets_dict_update (mixKind X.prog X.w) d o hne lo2) ⟨es1, es2, dd1, dd2, by rw [← rel1.length, ← rel2.length]; exact hz, fun h' hd' ho' hs => ?_⟩
  have he : ∃ b, h'.get? d = some b := let ⟨b, _, _, hb, _⟩ := hd'; ⟨b, hb⟩
  have hl : (mergeK kvs more).length ≤ sizeLine := Nat.le_trans (length_mergeK more kvs) hz
  exact ⟨.non, _, d_write I (by rw [hd]; exact True.intro) hs he (dk_new hl lo1 (KV.merge rel2 rel1) hd'), rfl, q⟩
/-! ### dict(d2) -/
theorem cr_dictD : CallR X (.type "dict") (fun vs H Q => ∃ (o : Addr) (kvs : List (Key × V)), vs = [V.ref o] ∧ Rd H o (.dK kvs) ∧ ∀ p, H p = none → Q (.ref p) (upd H p (.dK kvs))) := by
  intro pins s st H vs us Q I r ⟨o, kvs, ev, ho, q⟩
  subst ev
  obtain ⟨u, eu, ru⟩ := vals1 r
  subst eu
  obtain rfl : u = .ref o := ru
  obtain ⟨z2, lo2, es2, rel2, dd2⟩ := dk_rd I.hok ho
  refine kt_call_dict lo2 dd2 (by rw [← rel2.length]; exact z2) fun h' hd' hs => ?_
  have hm : (s.heap.objs.size == sysModules) = false := beq_eq_false_iff_ne.mpr (Nat.ne_of_gt I.big)
  refine ⟨.ref s.heap.objs.size, upd H s.heap.objs.size (.dK kvs), I.laid (t' := s.toks) (fun b u e => ?_) (Nat.le_refl _) (dk_new z2 hm rel2 hd'), rfl, q _ (I.hok.fresh (Nat.le_refl _))⟩
  rw [hs.2 b (Nat.ne_of_lt (Heap.lt_size e))]
  exact Heap.get?_push_of_some _ e
abbrev gDictD : Sl → Mem → RK → Prop := fun r M R => match r with
  | .v (.ref o) => ∃ ks, M o = some (.dic ks) ∧ ∀ p, M p = none → R (.v (.ref p)) (upM M p (.dic ks))
  | _ => False
theorem c_dictD : CaD X (.type "dict") (g1 gDictD) := ca1 fun F H M v r R Q at0 i1 h1 po => by
  unfold gDictD at h1
  split at h1
  · rename_i o
    obtain ⟨ks, m, hR⟩ := h1
    have e : v = .ref o := i1
    subst e
    obtain ⟨_, kvs, q1, q2⟩ := at0.mem o _ m
    exact ⟨_, cr_dictD, o, kvs, rfl, .inl q1, fun p hp => po _ F _ _ _ (hR p (at0.freeM hp)) (Go.new at0 hp ⟨_, upd_same, q2⟩) rfl⟩
  · exact h1.elim
abbrev wUpd (wo : WE) (wa : WA) : WE := fun dl M R => wo dl M fun r M1 => match r with
  | .v (.ref d) => (∃ ks, M1 d = some (.dic ks)) ∧ wa dl M1 fun rs M2 => match rs with
    | [.v (.ref o)] => ∃ ks ms, M2 d = some (.dic ks) ∧ M2 o = some (.dic ms) ∧ d ≠ o ∧ ks.length + ms.length ≤ sizeLine ∧ R .n (upM M2 d (.dic (mergeS ks ms)))
    | _ => False
  | _ => False
variable {o e : Expr} {wo : WE} {wa : WA} {apos cpos : Pos}
theorem pd_update (ho : PD X o wo) (ha : PDA X [e] wa) (hbase : attributeBase o "update" X.env (eval o X.env) = eval o X.env := by rfl)
    (hfew : ((backTo cpos (starEach [e] X.env)).all (fun x => !x.1) && (backToKw cpos (keywordEach [] X.env)).all (fun x => x.1.isSome) && decide ([e].length + ([] : List Keyword).length + (if ([] : List Keyword).isEmpty then 0 else 1) < 30)) = true := by rfl)
    (hline : (apos.endLine == cpos.line) = true := by rfl) (hs : starEach [e] X.env = (false, eval e X.env) :: starEach [] X.env := by rfl) : PD X (.Call (.Attribute o "update" apos) [e] [] cpos) (wUpd wo wa) := by
  refine pe_imp (pe_bm PySem.F.plainAttrs_dict PySem.F.slot_dict_update PySem.F.type_dict_update mt_dupdate ho ha hbase hfew hline hs rfl) fun st H Q ⟨F, dl, M, R, so, at0, hw, po⟩ => ?_
  refine tD_to so at0 hw fun v F1 H1 x M1 h1 g1 so1 at1 i1 => ?_
  split at h1
  · rename_i d
    obtain ⟨⟨ks, m⟩, h1⟩ := h1
    have ev : v = .ref d := i1
    subst ev
    obtain ⟨_, kvs, q1, _⟩ := at1.mem d _ m
    refine ⟨.inr (.inr (.inl ⟨rfl, .inl ⟨_, q1⟩⟩)), tDA_to so1 at1 h1 fun us F2 H2 rs M2 h2 g2 so2 at2 i2 => ?_⟩
    split at h2
    · rename_i o2
      obtain ⟨ks2, ms, m1, m2, hne, hz, hR⟩ := h2
      obtain ⟨u, rfl, i3⟩ := isAll1 i2
      have e3 : u = .ref o2 := i3
      subst e3
      obtain ⟨_, kv1, p1, p2⟩ := at2.mem d _ m1
      obtain ⟨_, kv2, p3, p4⟩ := at2.mem o2 _ m2
      refine ⟨d, o2, kv1, kv2, rfl, rfl, hne, p1, .inl p3, by rw [← p2.length, ← p4.length]; exact hz, (po.mono (g1.trans g2)) _ F2 _ _ _ hR (Go.put at2 m1 ⟨_, upd_same, mergeS_at p4 p2⟩) .non⟩
    · exact h2.elim
  · exact h1.elim
end
end DL

set_option Elab.async false
set_option linter.all false
set_option maxRecDepth 100000
set_option maxHeartbeats 4000000
namespace DL
open PySem PySem.Spec L2
open Evl (Ex)
/-! ### {k: v for t in it if c} -/
def dcGo (g : WG) (wt : WT) (wk wv : WE) (C : Mem → Prop) (dl : Env') (R : KS → Mem → Prop) : List Sl → KS → Mem → Prop
  | [], ks, M => C M ∧ R ks M
  | x :: xs, ks, M => C M ∧ g x dl M fun dl2 M2 => wt dl2 M2 fun k M3 => if k = true then wk dl2 M3 fun y M4 => wv dl2 M4 fun z M5 => ∃ kk, keyS y = some kk ∧ ks.length < sizeLine ∧ dcGo g wt wk wv C dl R xs (putS ks kk z) M5 else dcGo g wt wk wv C dl R xs ks M3
theorem dcGo_C {g : WG} {wt : WT} {wk wv : WE} {C : Mem → Prop} {dl : Env'} {R : KS → Mem → Prop} : ∀ {xs : List Sl} {ks : KS} {M : Mem}, dcGo g wt wk wv C dl R xs ks M → C M
  | [], _, _, h => h.1
  | _ :: _, _, _, h => h.1
abbrev wDc (wi : WI) (g : WG) (wt : WT) (wk wv : WE) (vs : List Nat) : WE := fun dl M R => wi dl M fun items C M1 => dcGo g wt wk wv C (wipeD dl vs) (fun ks M2 => ∀ p, M2 p = none → R (.v (.ref p)) (upM M2 p (.dic ks))) items [] M1
structure DcW (K : PySem.W.Frag) (F0 : Hp) (M0 : Mem) (H0 : Hp) (p : Addr) (F : Hp) (M : Mem) (H : Hp) (ks : KS) : Prop where
  go : Go K F0 M0 H0 F M H
  f : F p = none
  m : M p = none
  h : ∃ kvs, H p = some (.dK kvs) ∧ All2 (KIs K F) ks kvs
theorem DcW.step {K : PySem.W.Frag} {F0 H0 F H F1 H1 : Hp} {M0 M M1 : Mem} {p : Addr} {ks : KS} (l : DcW K F0 M0 H0 p F M H ks) (g : Go K F M H F1 M1 H1) : DcW K F0 M0 H0 p F1 M1 H1 ks := by
  obtain ⟨kvs, h1, h2⟩ := l.h
  obtain ⟨q1, q2, q3⟩ := g.fr p _ h1 l.f l.m
  exact ⟨l.go.trans g, q2, q3, kvs, q1, h2.imp fun _ _ q => ⟨q.1, is_mono g.ex q.2⟩⟩
theorem DcW.mem {K : PySem.W.Frag} {F0 H0 F H : Hp} {M0 M : Mem} {p : Addr} {ks : KS} (l : DcW K F0 M0 H0 p F M H ks) (hp : H0 p = none) : Go K F0 M0 H0 F (upM M p (.dic ks)) H := by
  obtain ⟨kvs, q1, q2⟩ := l.h
  refine ⟨l.go.ex, ⟨l.go.at'.ex, fun b u z => ?_⟩, fun b u h1 h2 h3 => ?_⟩
  · by_cases hb : b = p
    · subst hb; rw [upM_same] at z; cases z; exact ⟨l.f, kvs, q1, q2⟩
    · rw [upM_ne hb] at z; exact l.go.at'.mem b u z
  · obtain ⟨w1, w2, w3⟩ := l.go.fr b u h1 h2 h3
    exact ⟨w1, w2, by rw [upM_ne (ne_of_none h1 hp)]; exact w3⟩
theorem tD_dc {K : PySem.W.Frag} {wi : WI} {g : WG} {wt : WT} {wk wv : WE} {vs : List Nat} {st : St} {H : Hp} {Q : VK} (h : tD K (wDc wi g wt wk wv vs) st H Q) : tDc (tDI K wi) (tDGw K vs g) (tDT K wt) (tD K wk) (tD K wv) vs st H Q := by
  obtain ⟨F, dl, M, R, so, at0, hw, po⟩ := h
  refine ⟨F, dl, M, _, so, at0, hw, fun F1 M1 H1 items C J h1 g1 wk1 p hp => ?_⟩
  have so1 := sok_mono g1.ex so
  have at1 := g1.at'
  have f1 := at1.freeF hp
  have m1 := at1.freeM hp
  refine ⟨fun i m H => m = items.length - i ∧ i ≤ items.length ∧ ∃ F M ks, DcW K F1 M1 H1 p F M H ks ∧ dcGo g wt wk wv C (wipeD dl vs) _ (items.drop i) ks M,
    ⟨_, rfl, Nat.zero_le _, F1, M1, [], ⟨⟨Ex.refl _, at1.hid f1 m1, fun a o h1 h2 h3 => ⟨by rw [upd_ne (ne_of_none h1 hp)]; exact h1, h2, h3⟩⟩, f1, m1, [], upd_same, .nil⟩, h1⟩, ?_⟩
  rintro i m H ⟨rfl, hi, F, M, ks, l, hw⟩
  have c := dcGo_C hw
  have at0 := l.go.at'
  by_cases hlt : i < items.length
  · refine .inr ⟨wk1.go F M H i l.go.ex at0 c hlt, fun H' => i + 1 ≤ items.length ∧ ∃ F M ks, DcW K F1 M1 H1 p F M H' ks ∧ dcGo g wt wk wv C (wipeD dl vs) _ (items.drop (i + 1)) ks M, fun H' q => ⟨_, by omega, rfl, q⟩, fun x H' y => ?_⟩
    obtain ⟨F2, g2, i2⟩ := wk1.yld F M H i x H' _ l.go.ex at0 c y (List.getElem?_eq_getElem hlt)
    rw [List.drop_eq_getElem_cons hlt] at hw
    obtain ⟨_, hw⟩ := hw
    have l2 := l.step g2
    refine ⟨F2, wipeD dl vs, M, _, _, sok_wipe (sok_mono l2.go.ex so1) vs, g2.at', i2, hw, fun st3 F3 H3 dl3 M3 h3 g3 so3 w3 => ⟨?_, ?_⟩⟩
    · rw [w3]; exact wipe_wipe st vs
    · have l3 := l2.step g3
      refine tDT_to so3 g3.at' h3 fun k F4 H4 M4 h4 g4 so4 at4 => ?_
      have l4 := l3.step g4
      cases k with
      | false => exact ⟨hlt, F4, M4, ks, l4, h4⟩
      | true =>
        refine tD_to so4 at4 h4 fun y F5 H5 r M5 h5 g5 so5 at5 i5 => ?_
        have l5 := l4.step g5
        refine tD_to so5 at5 h5 fun z F6 H6 r6 M6 h6 g6 so6 at6 i6 => ?_
        have l6 := l5.step g6
        obtain ⟨kk, ek, hz, h6⟩ := h6
        obtain ⟨kvs, q1, q2⟩ := l6.h
        refine ⟨kvs, kk, keyS_at i5 ek, q1, by rw [← q2.length]; exact hz, hlt, F6, M6, putS ks kk r6, ⟨⟨l6.go.ex, l6.go.at'.hid l6.f l6.m, fun a o z1 z2 z3 => ?_⟩, l6.f, l6.m, _, upd_same, putS_at i6 q2⟩, h6⟩
        obtain ⟨w1, w2, w3⟩ := l6.go.fr a o z1 z2 z3
        exact ⟨by rw [upd_ne (ne_of_none z1 hp)]; exact w1, w2, w3⟩
  · have ei : i = items.length := by omega
    subst ei
    rw [List.drop_length] at hw
    exact .inl ⟨wk1.stop F M H l.go.ex at0 c, po _ F H _ _ (hw.2 p l.m) (g1.trans (l.mem hp)) rfl⟩
section
variable {X : Cx} {kx vx tg iter : Expr} {ifs : List Expr} {scope : Scope} {own : List (Str × Nat)} {wi : WI} {g : WG} {wt : WT} {wk wv : WE} {pos : Pos}
theorem pd_dc (hc : X.calm = true) (hN : X.N.Nodup) (hi : PDI X tg iter wi) (ok : BlkOk X.N X.env.scope scope own)
    (hg : ∀ (s : Shared) (H : Hp) (C : Addr) (cl : List (Str × Addr)) (fp : List Addr), PDGw (X.blk s H scope (compEnvC scope cl C X.env) fp) (own.map (·.2)) tg g) (ht : ∀ (s : Shared) (H : Hp) (C : Addr) (cl : List (Str × Addr)) (fp : List Addr), PDTs (X.blk s H scope (compEnvC scope cl C X.env) fp) ifs wt)
    (hk : ∀ (s : Shared) (H : Hp) (C : Addr) (cl : List (Str × Addr)) (fp : List Addr), PD (X.blk s H scope (compEnvC scope cl C X.env) fp) kx wk)
    (hv : ∀ (s : Shared) (H : Hp) (C : Addr) (cl : List (Str × Addr)) (fp : List Addr), PD (X.blk s H scope (compEnvC scope cl C X.env) fp) vx wv) (hs : ∀ x, foldedSetIterable iter X.env x = pure x := by intro _; rfl) : PD X (.DictComp kx vx [⟨tg, iter, ifs, 0⟩] scope pos) (wDc wi g wt wk wv (own.map (·.2))) :=
  pe_imp (pe_dc (g := tDGw X.K (own.map (fun z : Str × Nat => z.2)) g) (tt := tDT X.K wt) (tk := tD X.K wk) (tv := tD X.K wv) hc hN hi ok hg ht hk hv hs) fun st H Q h => tD_dc h
end
end DL

set_option Elab.async false
set_option linter.all false
set_option maxRecDepth 100000
set_option maxHeartbeats 4000000
/-! DZ: list(zip(a, b, c, strict=True)) of three lists of one length. -/
namespace DL
open PySem PySem.Spec PySem.Builtin.SmallTypes
abbrev IsZ3 (h : Heap) (z TI TO : Addr) (v : Value) (f : Bool) : Prop := h.get? z = some { cls := .type "zip", dict := none, data := .fields #[v, .bool f, .bool true, .ref TI, .ref TO], slots := #[] }
abbrev IsTri (h : Heap) (T : Addr) (a b c : Value) : Prop := h.get? T = some { cls := .type "tuple", data := .seq #[a, b, c] }
structure Apart3 (z TI TO i1 i2 i3 l1 l2 l3 : Addr) : Prop where
  nd : [z, TI, TO, i1, i2, i3].Nodup
  n1 : l1 ∉ [z, TI, TO, i1, i2, i3]
  n2 : l2 ∉ [z, TI, TO, i1, i2, i3]
  n3 : l3 ∉ [z, TI, TO, i1, i2, i3]
section
variable {prog : Program} {w : World} {A : Around} {E : Value → Shared → Prop} {s : Shared} {z TI TO i1 i2 i3 l1 l2 l3 : Addr} {k1 k2 k3 : Nat} {xs ys us : Array Value} {x y u a b c v0 : Value} {f0 : Bool}
theorem orEnd_item {it l : Addr} {i : Nat} {Q : Option Value → Shared → Prop} (hit : s.heap.IsListIter it l i) (hl : s.heap.IsList l xs) (hx : xs[i]? = some x) (hQ : ∀ g, g.IsListIter it l (i + 1) → Heap.SameBut it s.heap g → Q (some x) { s with heap := g }) :
    wpAny (model prog w) A (nextOrEnd (.ref it)) Q E s := by
  unfold nextOrEnd
  exact wpAny_bind (wpAny_attempt (wpAny_nextOf_list_item hit hl hx fun g h1 h2 => wpAny_pure (hQ g h1 h2)))
theorem orEnd_end {it l : Addr} {i : Nat} {Q : Option Value → Shared → Prop} (hh : A.handled = none) (hit : s.heap.IsListIter it l i) (hl : s.heap.IsList l xs) (hx : xs[i]? = none) (hQ : ∀ g, Heap.ExtBut it s.heap g → Q none { s with heap := g }) :
    wpAny (model prog w) A (nextOrEnd (.ref it)) Q E s := by
  unfold nextOrEnd
  refine wpAny_bind (wpAny_attempt (wpAny_nextOf_list_end hh hit hl hx fun g e h1 ⟨o, ho, hc⟩ => ?_))
  exact wpAny_bind (wpAny_isInstance (T := "StopIteration") (b := true) ⟨o, ho, hc⟩ isSubtype_stop (wpAny_pure (hQ g h1)))
theorem upd_tri {T : Addr} {k : Nat} {v : Value} {Q : Unit → Shared → Prop} (hT : IsTri s.heap T a b c)
    (h : ∀ g, g.get? T = some { cls := .type "tuple", data := .seq ((#[a, b, c] : Array Value).setIfInBounds k v) } → Heap.SameBut T s.heap g → Q () { s with heap := g }) : wpAny (model prog w) A (updateSeq T (·.setIfInBounds k v)) Q E s := by
  refine wpAny_updateSeq hT rfl (h _ ?_ (Heap.SameBut.update ..))
  rw [Heap.get?_update_self _ hT rfl]
  simp [Obj.mapSeq]
theorem stop_now {α : Type} {Q : α → Shared → Prop} (hh : A.handled = none) (hE : ∀ g e, (∀ d o, s.heap.get? d = some o → g.get? d = some o) → (∃ o, g.get? e = some o ∧ o.cls = .type "StopIteration") → E (.ref e) { s with heap := g }) :
    wpAny (model prog w) A (stopIteration (α := α)) Q E s := by
  unfold stopIteration
  refine wpAny_bind ?_
  simp only [newExc, newTuple]
  refine wpAny_bind (wpAny_newObj_type ?_ (by size_fits))
  refine wpAny_bind (m := firstArgMember _ _) (wpAny_of_eq (a := Value.none) (by first | rfl | (simp only [firstArgMember]; rfl)) ?_)
  refine wpAny_newObj_type ?_ (by size_fits)
  simp only [raiseNew]
  refine wpAny_bind (wpAny_handled ?_)
  rw [hh]
  refine wpAny_bind (wpAny_pure (wpAny_throw ?_))
  exact hE _ _ (fun d o e => Heap.get?_push_of_some _ (Heap.get?_push_of_some _ e)) ⟨_, Heap.get?_push_size _ rfl, rfl⟩
theorem zip3_item {Q : Value → Shared → Prop} (D : Apart3 z TI TO i1 i2 i3 l1 l2 l3) (hz : IsZ3 s.heap z TI TO v0 f0) (fr : ∀ R : Bool → Shared → Prop, R true s → wpAny (model prog w) A (ownedTupleIsFree (.ref z)) R E s)
    (pI : IsTri s.heap TI (.ref i1) (.ref i2) (.ref i3)) (pO : IsTri s.heap TO a b c) (t1 : s.heap.IsListIter i1 l1 k1) (t2 : s.heap.IsListIter i2 l2 k2) (t3 : s.heap.IsListIter i3 l3 k3)
    (y1 : s.heap.IsList l1 xs) (y2 : s.heap.IsList l2 ys) (y3 : s.heap.IsList l3 us) (hx : xs[k1]? = some x) (hy : ys[k2]? = some y) (hu : us[k3]? = some u)
    (hQ : ∀ g, IsZ3 g z TI TO (rawInt s.heap.objs.size) false → IsTri g TO x y u → g.IsListIter i1 l1 (k1 + 1) → g.IsListIter i2 l2 (k2 + 1) → g.IsListIter i3 l3 (k3 + 1) → IsTri g s.heap.objs.size x y u →
      (∀ d o, d ∉ [z, TO, i1, i2, i3] → s.heap.get? d = some o → g.get? d = some o) → Q (.ref s.heap.objs.size) { s with heap := g }) :
    wpAny (model prog w) A (Builtin.«zip.__next__» ⟨[.ref z], []⟩) (fun fin s2 => ∃ r, fin = .done (.ret r) ∧ Q r s2) E s := by
  have nd := D.nd
  have n1 := D.n1
  have n2 := D.n2
  have n3 := D.n3
  simp only [List.nodup_cons, List.mem_cons, List.not_mem_nil, or_false, not_or, List.nodup_nil, and_true, not_false_eq_true] at nd n1 n2 n3
  obtain ⟨⟨zTI, zTO, z1, z2, z3⟩, ⟨TITO, TI1, TI2, TI3⟩, ⟨TO1, TO2, TO3⟩, ⟨i12, i13⟩, i23⟩ := nd
  refine wpAny_bind (m := field (.ref z) 2) (wpAny_field hz rfl (x := .bool true) rfl ?_)
  refine wpAny_bind (m := field (.ref z) 3) (wpAny_field hz rfl (x := .ref TI) rfl (wpAny_bind (wpAny_seqItems pI rfl ?_)))
  refine wpAny_bind (m := ownedTupleIsFree (.ref z)) (fr _ ?_)
  simp only [if_true]
  refine wpAny_bind (wpAny_rule (wpAny_bind (wpAny_field hz rfl (x := .ref TO) rfl (wpAny_bind (wpAny_setField_rec hz (by simp) fun g1 w1 s1 => wpAny_bind ?_)))))
  replace w1 : IsZ3 g1 z TI TO .ellipsis f0 := w1
  simp only [List.zipIdx_cons, List.zipIdx_nil, List.forIn_cons, List.forIn_nil]
  refine wpAny_bind (wpAny_bind (wpAny_onRaise (orEnd_item (t1.extBut s1.extBut (Ne.symm z1)) (y1.extBut s1.extBut n1.1) hx fun g2 u2 s2 => ?_)))
  have o2 : IsTri g2 TO a b c := s2.extBut _ _ TO1 (s1.extBut _ _ (Ne.symm zTO) pO)
  refine wpAny_bind (wpAny_seqItems o2 rfl (wpAny_bind (upd_tri o2 fun g3 o3 s3 => wpAny_bind (wpAny_letGo (wpAny_pure ?_)))))
  replace o3 : IsTri g3 TO x b c := o3
  have up3 : ∀ d o, d ≠ z → d ≠ TO → d ≠ i1 → s.heap.get? d = some o → g3.get? d = some o := fun d o d1 d2 d3 e => s3.extBut _ _ d2 (s2.extBut _ _ d3 (s1.extBut _ _ d1 e))
  refine wpAny_bind (wpAny_bind (wpAny_onRaise (orEnd_item (t2.at fun o e => up3 _ o (Ne.symm z2) (Ne.symm TO2) (Ne.symm i12) e) (((y2.extBut s1.extBut n2.1).extBut s2.extBut n2.2.2.2.1).extBut s3.extBut n2.2.2.1) hy fun g4 u4 s4 => ?_)))
  have o4 : IsTri g4 TO x b c := s4.extBut _ _ TO2 o3
  refine wpAny_bind (wpAny_seqItems o4 rfl (wpAny_bind (upd_tri o4 fun g5 o5 s5 => wpAny_bind (wpAny_letGo (wpAny_pure ?_)))))
  replace o5 : IsTri g5 TO x y c := o5
  have up5 : ∀ d o, d ≠ z → d ≠ TO → d ≠ i1 → d ≠ i2 → s.heap.get? d = some o → g5.get? d = some o := fun d o d1 d2 d3 d4 e => s5.extBut _ _ d2 (s4.extBut _ _ d4 (up3 d o d1 d2 d3 e))
  have y3' := ((((y3.extBut s1.extBut n3.1).extBut s2.extBut n3.2.2.2.1).extBut s3.extBut n3.2.2.1).extBut s4.extBut n3.2.2.2.2.1).extBut s5.extBut n3.2.2.1
  refine wpAny_bind (wpAny_bind (wpAny_onRaise (orEnd_item (t3.at fun o e => up5 _ o (Ne.symm z3) (Ne.symm TO3) (Ne.symm i13) (Ne.symm i23) e) y3' hu fun g6 u6 s6 => ?_)))
  have o6 : IsTri g6 TO x y c := s6.extBut _ _ TO3 o5
  refine wpAny_bind (wpAny_seqItems o6 rfl (wpAny_bind (upd_tri o6 fun g7 o7 s7 => wpAny_bind (wpAny_letGo (wpAny_pure (wpAny_pure ?_))))))
  replace o7 : IsTri g7 TO x y u := o7
  refine wpAny_bind (wpAny_seqItems o7 rfl (wpAny_bind (wpAny_newTuple ?_)))
  have sz : g7.objs.size = s.heap.objs.size := by rw [s7.1, s6.1, s5.1, s4.1, s3.1, s2.1, s1.1]
  have w7 : IsZ3 g7 z TI TO .ellipsis f0 := s7.extBut _ _ zTO (s6.extBut _ _ z3 (s5.extBut _ _ zTO (s4.extBut _ _ z2 (s3.extBut _ _ zTO (s2.extBut _ _ z1 w1)))))
  have up7 : ∀ d o, d ≠ z → d ≠ TO → d ≠ i1 → d ≠ i2 → d ≠ i3 → s.heap.get? d = some o → g7.get? d = some o := fun d o d1 d2 d3 d4 d5 e => s7.extBut _ _ d2 (s6.extBut _ _ d5 (up5 d o d1 d2 d3 d4 e))
  have a7 : g7.IsListIter i1 l1 (k1 + 1) := ((((u2.extBut s3.extBut (Ne.symm TO1)).extBut s4.extBut i12).extBut s5.extBut (Ne.symm TO1)).extBut s6.extBut i13).extBut s7.extBut (Ne.symm TO1)
  have b7 : g7.IsListIter i2 l2 (k2 + 1) := ((u4.extBut s5.extBut (Ne.symm TO2)).extBut s6.extBut i23).extBut s7.extBut (Ne.symm TO2)
  have c7 : g7.IsListIter i3 l3 (k3 + 1) := u6.extBut s7.extBut (Ne.symm TO3)
  have lz : z < g7.objs.size := Heap.lt_size w7
  refine wpAny_bind (m := ownedTupleHandOut (.ref z) (.ref g7.objs.size)) ?_
  unfold ownedTupleHandOut
  have w8 : IsZ3 (g7.push { cls := .type "tuple", data := .seq #[x, y, u] }) z TI TO .ellipsis f0 := Heap.get?_push_of_some _ w7
  refine wpAny_bind (wpAny_setField_rec w8 (by simp) fun g9 w9 s9 => ?_)
  replace w9 : IsZ3 g9 z TI TO (rawInt g7.objs.size) f0 := w9
  refine wpAny_setField_rec w9 (by simp) fun gA wA sA => wpAny_pure ⟨_, rfl, ?_⟩
  replace wA : IsZ3 gA z TI TO (rawInt g7.objs.size) false := wA
  have up : ∀ d o, d ≠ z → g7.get? d = some o → gA.get? d = some o := fun d o d1 e => sA.extBut _ _ d1 (s9.extBut _ _ d1 (Heap.get?_push_of_some _ e))
  have pA : IsTri gA g7.objs.size x y u := sA.extBut _ _ (Nat.ne_of_gt lz) (s9.extBut _ _ (Nat.ne_of_gt lz) (Heap.get?_push_size _ rfl))
  rw [sz] at wA pA
  show Q (.ref g7.objs.size) _
  rw [sz]
  refine hQ gA wA (up _ _ (Ne.symm zTO) o7) (a7.at fun o e => up _ o (Ne.symm z1) e) (b7.at fun o e => up _ o (Ne.symm z2) e) (c7.at fun o e => up _ o (Ne.symm z3) e) pA fun d o hd e => ?_
  simp only [List.mem_cons, List.not_mem_nil, or_false, not_or] at hd
  exact up d o hd.1 (up7 d o hd.1 hd.2.1 hd.2.2.1 hd.2.2.2.1 hd.2.2.2.2 e)
/-- the tuple that is out is held -/
theorem held3 {T : Addr} {oT : Obj} {R : Bool → Shared → Prop} (hz : IsZ3 s.heap z TI TO (rawInt T) f0) (hT : s.heap.get? T = some oT) (h : ∀ g, IsZ3 g z TI TO (rawInt T) true → Heap.SameBut z s.heap g → R false { s with heap := g }) : wpAny (model prog w) A (ownedTupleIsFree (.ref z)) R E s := by
  unfold ownedTupleIsFree
  refine wpAny_bind (wpAny_field hz rfl (x := rawInt T) rfl ?_)
  show wpAny _ _ (loadIfAlive ((T : Int).toNat) >>= _) _ _ _
  rw [Int.toNat_natCast]
  have q : ∀ R : Option Obj → Shared → Prop, R (some oT) s → wpAny (model prog w) A (loadIfAlive T) R E s := fun R hr => by
    have hr2 : R (s.heap.get? T) s := by rw [hT]; exact hr
    exact fun _ _ _ => hr2
  refine wpAny_bind (q _ ?_)
  simp only [Option.isNone_some, Bool.false_eq_true, if_false]
  refine wpAny_bind (wpAny_field hz rfl (x := .bool f0) rfl ?_)
  cases f0 with
  | false =>
    rw [if_pos (show (Value.bool false != Value.bool true) = true from rfl)]
    exact wpAny_bind (wpAny_setField_rec hz (by simp) fun g hg sg => wpAny_pure (h g hg sg))
  | true =>
    rw [if_neg (show ¬ ((Value.bool true != Value.bool true) = true) from Bool.false_ne_true)]
    exact wpAny_pure (h s.heap hz (Heap.SameBut.refl _ _))
theorem zip3_held {T : Addr} {oT : Obj} {Q : Value → Shared → Prop} (D : Apart3 z TI TO i1 i2 i3 l1 l2 l3) (hz : IsZ3 s.heap z TI TO (rawInt T) f0) (hT : s.heap.get? T = some oT)
    (pI : IsTri s.heap TI (.ref i1) (.ref i2) (.ref i3)) (t1 : s.heap.IsListIter i1 l1 k1) (t2 : s.heap.IsListIter i2 l2 k2) (t3 : s.heap.IsListIter i3 l3 k3)
    (y1 : s.heap.IsList l1 xs) (y2 : s.heap.IsList l2 ys) (y3 : s.heap.IsList l3 us) (hx : xs[k1]? = some x) (hy : ys[k2]? = some y) (hu : us[k3]? = some u)
    (hQ : ∀ g, IsZ3 g z TI TO (rawInt T) true → g.IsListIter i1 l1 (k1 + 1) → g.IsListIter i2 l2 (k2 + 1) → g.IsListIter i3 l3 (k3 + 1) → IsTri g s.heap.objs.size x y u →
      (∀ d o, d ∉ [z, i1, i2, i3] → s.heap.get? d = some o → g.get? d = some o) → Q (.ref s.heap.objs.size) { s with heap := g }) :
    wpAny (model prog w) A (Builtin.«zip.__next__» ⟨[.ref z], []⟩) (fun fin s2 => ∃ r, fin = .done (.ret r) ∧ Q r s2) E s := by
  have nd := D.nd
  have n1 := D.n1
  have n2 := D.n2
  have n3 := D.n3
  simp only [List.nodup_cons, List.mem_cons, List.not_mem_nil, or_false, not_or, List.nodup_nil, and_true, not_false_eq_true] at nd n1 n2 n3
  obtain ⟨⟨zTI, zTO, z1, z2, z3⟩, ⟨TITO, TI1, TI2, TI3⟩, ⟨TO1, TO2, TO3⟩, ⟨i12, i13⟩, i23⟩ := nd
  refine wpAny_bind (m := field (.ref z) 2) (wpAny_field hz rfl (x := .bool true) rfl ?_)
  refine wpAny_bind (m := field (.ref z) 3) (wpAny_field hz rfl (x := .ref TI) rfl (wpAny_bind (wpAny_seqItems pI rfl ?_)))
  refine wpAny_bind (m := ownedTupleIsFree (.ref z)) (held3 hz hT fun g1 w1 s1 => ?_)
  simp only [Bool.false_eq_true, if_false]
  refine wpAny_bind ?_
  rw [← Array.forIn_toList]
  simp only [List.forIn_cons, List.forIn_nil]
  refine wpAny_bind (wpAny_bind (wpAny_holding (orEnd_item (s := { s with heap := g1 }) (t1.extBut s1.extBut (Ne.symm z1)) (y1.extBut s1.extBut n1.1) hx fun g2 u2 s2 => wpAny_pure ?_)))
  refine wpAny_bind (wpAny_bind (wpAny_holding (orEnd_item (s := { s with heap := g2 }) ((t2.extBut s1.extBut (Ne.symm z2)).extBut s2.extBut (Ne.symm i12)) ((y2.extBut s1.extBut n2.1).extBut s2.extBut n2.2.2.2.1) hy fun g3 u3 s3 => wpAny_pure ?_)))
  refine wpAny_bind (wpAny_bind (wpAny_holding (orEnd_item (s := { s with heap := g3 }) (((t3.extBut s1.extBut (Ne.symm z3)).extBut s2.extBut (Ne.symm i13)).extBut s3.extBut (Ne.symm i23)) (((y3.extBut s1.extBut n3.1).extBut s2.extBut n3.2.2.2.1).extBut s3.extBut n3.2.2.2.2.1) hu fun g4 u4 s4 => wpAny_pure (wpAny_pure ?_))))
  refine wpAny_bind (m := newTuple [x, y, u]) (wpAny_newTuple ?_)
  have sz : g4.objs.size = s.heap.objs.size := by rw [s4.1, s3.1, s2.1, s1.1]
  have w4 : IsZ3 g4 z TI TO (rawInt T) true := s4.extBut _ _ z3 (s3.extBut _ _ z2 (s2.extBut _ _ z1 w1))
  have a4 : g4.IsListIter i1 l1 (k1 + 1) := (u2.extBut s3.extBut i12).extBut s4.extBut i13
  have b4 : g4.IsListIter i2 l2 (k2 + 1) := u3.extBut s4.extBut i23
  refine wpAny_pure ⟨_, rfl, ?_⟩
  have p4 : IsTri (g4.push { cls := .type "tuple", data := .seq #[x, y, u] }) g4.objs.size x y u := Heap.get?_push_size _ rfl
  show Q (.ref g4.objs.size) _
  rw [sz] at p4 ⊢
  refine hQ _ (Heap.get?_push_of_some _ w4) (a4.at fun o e => Heap.get?_push_of_some _ e) (b4.at fun o e => Heap.get?_push_of_some _ e) (u4.at fun o e => Heap.get?_push_of_some _ e) p4 fun d o hd e => ?_
  simp only [List.mem_cons, List.not_mem_nil, or_false, not_or] at hd
  exact Heap.get?_push_of_some _ (s4.extBut _ _ hd.2.2.2 (s3.extBut _ _ hd.2.2.1 (s2.extBut _ _ hd.2.1 (s1.extBut _ _ hd.1 e))))
theorem zip3_end {Q : Fin → Shared → Prop} (hh : A.handled = none) (D : Apart3 z TI TO i1 i2 i3 l1 l2 l3) (hz : IsZ3 s.heap z TI TO v0 f0) (fr : ∀ R : Bool → Shared → Prop, R true s → wpAny (model prog w) A (ownedTupleIsFree (.ref z)) R E s)
    (pI : IsTri s.heap TI (.ref i1) (.ref i2) (.ref i3)) (pO : IsTri s.heap TO a b c) (t1 : s.heap.IsListIter i1 l1 k1) (t2 : s.heap.IsListIter i2 l2 k2) (t3 : s.heap.IsListIter i3 l3 k3)
    (y1 : s.heap.IsList l1 xs) (y2 : s.heap.IsList l2 ys) (y3 : s.heap.IsList l3 us) (hx : xs[k1]? = none) (hy : ys[k2]? = none) (hu : us[k3]? = none)
    (hE : ∀ g e, (∀ d o, d ∉ [z, i1, i2, i3] → s.heap.get? d = some o → g.get? d = some o) → (∃ o, g.get? e = some o ∧ o.cls = .type "StopIteration") → E (.ref e) { s with heap := g }) :
    wpAny (model prog w) A (Builtin.«zip.__next__» ⟨[.ref z], []⟩) Q E s := by
  have nd := D.nd
  have n1 := D.n1
  have n2 := D.n2
  have n3 := D.n3
  simp only [List.nodup_cons, List.mem_cons, List.not_mem_nil, or_false, not_or, List.nodup_nil, and_true, not_false_eq_true] at nd n1 n2 n3
  obtain ⟨⟨zTI, zTO, z1, z2, z3⟩, ⟨TITO, TI1, TI2, TI3⟩, ⟨TO1, TO2, TO3⟩, ⟨i12, i13⟩, i23⟩ := nd
  refine wpAny_bind (m := field (.ref z) 2) (wpAny_field hz rfl (x := .bool true) rfl ?_)
  refine wpAny_bind (m := field (.ref z) 3) (wpAny_field hz rfl (x := .ref TI) rfl (wpAny_bind (wpAny_seqItems pI rfl ?_)))
  refine wpAny_bind (m := ownedTupleIsFree (.ref z)) (fr _ ?_)
  simp only [if_true]
  refine wpAny_bind (wpAny_rule (wpAny_bind (wpAny_field hz rfl (x := .ref TO) rfl (wpAny_bind (wpAny_setField_rec hz (by simp) fun g1 w1 s1 => wpAny_bind ?_)))))
  replace w1 : IsZ3 g1 z TI TO .ellipsis f0 := w1
  simp only [List.zipIdx_cons, List.zipIdx_nil, List.forIn_cons, List.forIn_nil]
  refine wpAny_bind (wpAny_bind (wpAny_onRaise (orEnd_end hh (t1.extBut s1.extBut (Ne.symm z1)) (y1.extBut s1.extBut n1.1) hx fun g2 s2 => ?_)))
  have w2 : IsZ3 g2 z TI TO .ellipsis f0 := s2 _ _ z1 w1
  refine wpAny_bind (wpAny_setField_rec w2 (by simp) fun g3 w3 s3 => ?_)
  refine wpAny_bind ?_
  refine wpAny_bind (m := forIn ([(Value.ref i2, 1), (Value.ref i3, 2)] : List (Value × Nat)) PUnit.unit _) ?_
  simp only [List.forIn_cons, List.forIn_nil]
  have up3 : ∀ d o, d ≠ z → d ≠ i1 → s.heap.get? d = some o → g3.get? d = some o := fun d o d1 d2 e => s3.extBut _ _ d1 (s2 _ _ d2 (s1.extBut _ _ d1 e))
  have y2' : g3.IsList l2 ys := ((y2.extBut s1.extBut n2.1).extBut s2 n2.2.2.2.1).extBut s3.extBut n2.1
  have y3' : g3.IsList l3 us := ((y3.extBut s1.extBut n3.1).extBut s2 n3.2.2.2.1).extBut s3.extBut n3.1
  refine wpAny_bind (wpAny_bind (orEnd_end hh (t2.at fun o e => up3 _ o (Ne.symm z2) (Ne.symm i12) e) y2' hy fun g4 s4 => ?_))
  simp only [Option.isSome_none, Bool.false_eq_true, if_false]
  refine wpAny_pure (wpAny_bind (wpAny_bind (orEnd_end hh ((t3.at fun o e => up3 _ o (Ne.symm z3) (Ne.symm i13) e).extBut s4 (Ne.symm i23)) (y3'.extBut s4 n3.2.2.2.2.1) hu fun g5 s5 => ?_)))
  simp only [Option.isSome_none, Bool.false_eq_true, if_false]
  refine wpAny_pure (wpAny_pure (wpAny_bind (wpAny_rule ?_)))
  have keep : ∀ d o, d ∉ [z, i1, i2, i3] → s.heap.get? d = some o → g5.get? d = some o := fun d o hd e => by
    simp only [List.mem_cons, List.not_mem_nil, or_false, not_or] at hd
    exact s5 _ _ hd.2.2.2 (s4 _ _ hd.2.2.1 (up3 d o hd.1 hd.2.1 e))
  exact stop_now hh fun g e k he => hE g e (fun d o hd q => k d o (keep d o hd q)) he
theorem zip3_endH {T : Addr} {oT : Obj} {Q : Fin → Shared → Prop} (hh : A.handled = none) (D : Apart3 z TI TO i1 i2 i3 l1 l2 l3) (hz : IsZ3 s.heap z TI TO (rawInt T) f0) (hT : s.heap.get? T = some oT)
    (pI : IsTri s.heap TI (.ref i1) (.ref i2) (.ref i3)) (t1 : s.heap.IsListIter i1 l1 k1) (t2 : s.heap.IsListIter i2 l2 k2) (t3 : s.heap.IsListIter i3 l3 k3)
    (y1 : s.heap.IsList l1 xs) (y2 : s.heap.IsList l2 ys) (y3 : s.heap.IsList l3 us) (hx : xs[k1]? = none) (hy : ys[k2]? = none) (hu : us[k3]? = none)
    (hE : ∀ g e, (∀ d o, d ∉ [z, i1, i2, i3] → s.heap.get? d = some o → g.get? d = some o) → (∃ o, g.get? e = some o ∧ o.cls = .type "StopIteration") → E (.ref e) { s with heap := g }) :
    wpAny (model prog w) A (Builtin.«zip.__next__» ⟨[.ref z], []⟩) Q E s := by
  have nd := D.nd
  have n1 := D.n1
  have n2 := D.n2
  have n3 := D.n3
  simp only [List.nodup_cons, List.mem_cons, List.not_mem_nil, or_false, not_or, List.nodup_nil, and_true, not_false_eq_true] at nd n1 n2 n3
  obtain ⟨⟨zTI, zTO, z1, z2, z3⟩, ⟨TITO, TI1, TI2, TI3⟩, ⟨TO1, TO2, TO3⟩, ⟨i12, i13⟩, i23⟩ := nd
  refine wpAny_bind (m := field (.ref z) 2) (wpAny_field hz rfl (x := .bool true) rfl ?_)
  refine wpAny_bind (m := field (.ref z) 3) (wpAny_field hz rfl (x := .ref TI) rfl (wpAny_bind (wpAny_seqItems pI rfl ?_)))
  refine wpAny_bind (m := ownedTupleIsFree (.ref z)) (held3 hz hT fun g1 w1 s1 => ?_)
  simp only [Bool.false_eq_true, if_false]
  refine wpAny_bind ?_
  rw [← Array.forIn_toList]
  simp only [List.forIn_cons, List.forIn_nil]
  refine wpAny_bind (wpAny_bind (wpAny_holding (orEnd_end (s := { s with heap := g1 }) hh (t1.extBut s1.extBut (Ne.symm z1)) (y1.extBut s1.extBut n1.1) hx fun g3 s3 => ?_)))
  refine wpAny_bind ?_
  refine wpAny_bind (m := forIn ([(Value.ref i2, 1), (Value.ref i3, 2)] : List (Value × Nat)) PUnit.unit _) ?_
  simp only [List.forIn_cons, List.forIn_nil]
  have up3 : ∀ d o, d ≠ z → d ≠ i1 → s.heap.get? d = some o → g3.get? d = some o := fun d o d1 d2 e => s3 _ _ d2 (s1.extBut _ _ d1 e)
  have y2' : g3.IsList l2 ys := (y2.extBut s1.extBut n2.1).extBut s3 n2.2.2.2.1
  have y3' : g3.IsList l3 us := (y3.extBut s1.extBut n3.1).extBut s3 n3.2.2.2.1
  refine wpAny_bind (wpAny_bind (orEnd_end hh (t2.at fun o e => up3 _ o (Ne.symm z2) (Ne.symm i12) e) y2' hy fun g4 s4 => ?_))
  simp only [Option.isSome_none, Bool.false_eq_true, if_false]
  refine wpAny_pure (wpAny_bind (wpAny_bind (orEnd_end hh ((t3.at fun o e => up3 _ o (Ne.symm z3) (Ne.symm i13) e).extBut s4 (Ne.symm i23)) (y3'.extBut s4 n3.2.2.2.2.1) hu fun g5 s5 => ?_)))
  simp only [Option.isSome_none, Bool.false_eq_true, if_false]
  refine wpAny_pure (wpAny_pure (wpAny_bind (wpAny_rule ?_)))
  have keep : ∀ d o, d ∉ [z, i1, i2, i3] → s.heap.get? d = some o → g5.get? d = some o := fun d o hd e => by
    simp only [List.mem_cons, List.not_mem_nil, or_false, not_or] at hd
    exact s5 _ _ hd.2.2.2 (s4 _ _ hd.2.2.1 (up3 d o hd.1 hd.2.1 e))
  exact stop_now hh fun g e k he => hE g e (fun d o hd q => k d o (keep d o hd q)) he
end
end DL

set_option Elab.async false
set_option linter.all false
set_option maxRecDepth 100000
set_option maxHeartbeats 4000000
namespace DL
open PySem PySem.Spec PySem.Builtin.SmallTypes
section
variable {prog : Program} {w : World} {A : Around} {E : Value → Shared → Prop} {s : Shared} {z TI TO i1 i2 i3 l1 l2 l3 : Addr} {i : Nat} {xs ys us : Array Value} {x y u : Value}
/-- a strict zip of three, between two turns -/
structure Z3St (h : Heap) (z TI TO i1 i2 i3 l1 l2 l3 : Addr) (i : Nat) : Prop where
  z : ∃ v f, IsZ3 h z TI TO v f ∧ (v = .none ∨ ∃ T : Addr, v = rawInt T)
  pI : IsTri h TI (.ref i1) (.ref i2) (.ref i3)
  pO : ∃ a b c, IsTri h TO a b c
  t1 : h.IsListIter i1 l1 i
  t2 : h.IsListIter i2 l2 i
  t3 : h.IsListIter i3 l3 i
theorem free3_none {v : Value} {f : Bool} {R : Bool → Shared → Prop} (hz : IsZ3 s.heap z TI TO .none f) (h : R true s) : wpAny (model prog w) A (ownedTupleIsFree (.ref z)) R E s := by
  unfold ownedTupleIsFree
  exact wpAny_bind (wpAny_field hz rfl (x := .none) rfl (wpAny_pure h))
theorem free3_gone {T : Addr} {f : Bool} {R : Bool → Shared → Prop} (hz : IsZ3 s.heap z TI TO (rawInt T) f) (g : s.heap.get? T = none) (h : R true s) : wpAny (model prog w) A (ownedTupleIsFree (.ref z)) R E s := by
  unfold ownedTupleIsFree
  refine wpAny_bind (wpAny_field hz rfl (x := rawInt T) rfl ?_)
  show wpAny _ _ (loadIfAlive ((T : Int).toNat) >>= _) _ _ _
  rw [Int.toNat_natCast]
  have q : ∀ R : Option Obj → Shared → Prop, R none s → wpAny (model prog w) A (loadIfAlive T) R E s := fun R hr => by
    have hr2 : R (s.heap.get? T) s := by rw [g]; exact hr
    exact fun _ _ _ => hr2
  exact wpAny_bind (q _ (wpAny_pure h))
theorem next3_item {Q : Option Value → Shared → Prop} (D : Apart3 z TI TO i1 i2 i3 l1 l2 l3) (S : Z3St s.heap z TI TO i1 i2 i3 l1 l2 l3 i) (y1 : s.heap.IsList l1 xs) (y2 : s.heap.IsList l2 ys) (y3 : s.heap.IsList l3 us) (hx : xs[i]? = some x) (hy : ys[i]? = some y) (hu : us[i]? = some u)
    (hQ : ∀ g, Z3St g z TI TO i1 i2 i3 l1 l2 l3 (i + 1) → IsTri g s.heap.objs.size x y u → (∀ d o, d ∉ [z, TO, i1, i2, i3] → s.heap.get? d = some o → g.get? d = some o) → Q (some (.ref s.heap.objs.size)) { s with heap := g }) : wpAny (model prog w) A (pyNext (.ref z)) Q E s := by
  obtain ⟨⟨v, f, hz, hv⟩, pI, ⟨a, b, c, pO⟩, t1, t2, t3⟩ := S
  have hT : s.TypeIs (.ref z) "zip" := ⟨_, hz, rfl⟩
  have nd := D.nd
  simp only [List.nodup_cons, List.mem_cons, List.not_mem_nil, or_false, not_or, List.nodup_nil, and_true, not_false_eq_true] at nd
  obtain ⟨⟨zTI, zTO, z1, z2, z3⟩, ⟨TITO, TI1, TI2, TI3⟩, ⟨TO1, TO2, TO3⟩, ⟨i12, i13⟩, i23⟩ := nd
  have kI : TI ∉ [z, TO, i1, i2, i3] := by simp only [List.mem_cons, List.not_mem_nil, or_false, not_or]; exact ⟨Ne.symm zTI, TITO, TI1, TI2, TI3⟩
  have fin : (∀ (A : Around) (E : Value → Shared → Prop) (R : Bool → Shared → Prop), R true s → wpAny (model prog w) A (ownedTupleIsFree (.ref z)) R E s) → wpAny (model prog w) A (pyNext (.ref z)) Q E s := fun fr => by
    unfold pyNext
    refine wpAny_bind (wpAny_attempt (wpAny_callSpecial?_slot (name := Str.ofString "__next__") hT F.slot_zip_next (wpAny_call_entry F.slot_zip_next hT F.entry_zip_next ?_ (F.args_zip_next_1 _))))
    exact zip3_item D hz (fr _ _) pI pO t1 t2 t3 y1 y2 y3 hx hy hu fun g a1 a2 a3 a4 a5 a6 a7 => wpAny_pure (hQ g ⟨⟨_, _, a1, .inr ⟨_, rfl⟩⟩, a7 _ _ kI pI, ⟨_, _, _, a2⟩, a3, a4, a5⟩ a6 a7)
  rcases hv with rfl | ⟨T, rfl⟩
  · exact fin fun _ _ _ h => free3_none (v := .none) hz h
  · cases e : s.heap.get? T with
    | none => exact fin fun _ _ _ h => free3_gone hz e h
    | some oT =>
      unfold pyNext
      refine wpAny_bind (wpAny_attempt (wpAny_callSpecial?_slot (name := Str.ofString "__next__") hT F.slot_zip_next (wpAny_call_entry F.slot_zip_next hT F.entry_zip_next ?_ (F.args_zip_next_1 _))))
      have less : ∀ d, d ∉ [z, TO, i1, i2, i3] → d ∉ [z, i1, i2, i3] := fun d hd => by
        simp only [List.mem_cons, List.not_mem_nil, or_false, not_or] at hd ⊢
        exact ⟨hd.1, hd.2.2.1, hd.2.2.2.1, hd.2.2.2.2⟩
      have kO : TO ∉ [z, i1, i2, i3] := by simp only [List.mem_cons, List.not_mem_nil, or_false, not_or]; exact ⟨Ne.symm zTO, TO1, TO2, TO3⟩
      exact zip3_held D hz e pI t1 t2 t3 y1 y2 y3 hx hy hu fun g a1 a3 a4 a5 a6 a7 => wpAny_pure (hQ g ⟨⟨_, _, a1, .inr ⟨_, rfl⟩⟩, a7 _ _ (less _ kI) pI, ⟨a, b, c, a7 _ _ kO pO⟩, a3, a4, a5⟩ a6 fun d o hd q => a7 d o (less d hd) q)
theorem next3_end {Q : Option Value → Shared → Prop} (hh : A.handled = none) (D : Apart3 z TI TO i1 i2 i3 l1 l2 l3) (S : Z3St s.heap z TI TO i1 i2 i3 l1 l2 l3 i) (y1 : s.heap.IsList l1 xs) (y2 : s.heap.IsList l2 ys) (y3 : s.heap.IsList l3 us) (hx : xs[i]? = none) (hy : ys[i]? = none) (hu : us[i]? = none)
    (hQ : ∀ g, (∀ d o, d ∉ [z, TO, i1, i2, i3] → s.heap.get? d = some o → g.get? d = some o) → Q none { s with heap := g }) : wpAny (model prog w) A (pyNext (.ref z)) Q E s := by
  obtain ⟨⟨v, f, hz, hv⟩, pI, ⟨a, b, c, pO⟩, t1, t2, t3⟩ := S
  have hT : s.TypeIs (.ref z) "zip" := ⟨_, hz, rfl⟩
  have less : ∀ d, d ∉ [z, TO, i1, i2, i3] → d ∉ [z, i1, i2, i3] := fun d hd => by
    simp only [List.mem_cons, List.not_mem_nil, or_false, not_or] at hd ⊢
    exact ⟨hd.1, hd.2.2.1, hd.2.2.2.1, hd.2.2.2.2⟩
  have fin : (∀ (A : Around) (E : Value → Shared → Prop) (R : Bool → Shared → Prop), R true s → wpAny (model prog w) A (ownedTupleIsFree (.ref z)) R E s) → wpAny (model prog w) A (pyNext (.ref z)) Q E s := fun fr => by
    unfold pyNext
    refine wpAny_bind (wpAny_attempt (wpAny_callSpecial?_slot (name := Str.ofString "__next__") hT F.slot_zip_next (wpAny_call_entry F.slot_zip_next hT F.entry_zip_next ?_ (F.args_zip_next_1 _))))
    refine zip3_end hh D hz (fr _ _) pI pO t1 t2 t3 y1 y2 y3 hx hy hu fun g e k ⟨o, ho, hc⟩ => ?_
    exact wpAny_bind (wpAny_isInstance (T := "StopIteration") (b := true) ⟨o, ho, hc⟩ isSubtype_stop (wpAny_pure (hQ g fun d o hd q => k d o (less d hd) q)))
  rcases hv with rfl | ⟨T, rfl⟩
  · exact fin fun _ _ _ h => free3_none (v := .none) hz h
  · cases e : s.heap.get? T with
    | none => exact fin fun _ _ _ h => free3_gone hz e h
    | some oT =>
      unfold pyNext
      refine wpAny_bind (wpAny_attempt (wpAny_callSpecial?_slot (name := Str.ofString "__next__") hT F.slot_zip_next (wpAny_call_entry F.slot_zip_next hT F.entry_zip_next ?_ (F.args_zip_next_1 _))))
      refine zip3_endH hh D hz e pI t1 t2 t3 y1 y2 y3 hx hy hu fun g e2 k ⟨o, ho, hc⟩ => ?_
      exact wpAny_bind (wpAny_isInstance (T := "StopIteration") (b := true) ⟨o, ho, hc⟩ isSubtype_stop (wpAny_pure (hQ g fun d o hd q => k d o (less d hd) q)))
end
end DL

set_option Elab.async false
set_option linter.all false
set_option maxRecDepth 100000
set_option maxHeartbeats 4000000
namespace DL
open PySem PySem.Spec PySem.Builtin.SmallTypes
abbrev kwS : List (Str × Value) := [(Str.ofString "strict", .bool true)]
theorem tc_zip3 (a b c : Value) : checkTypeCall "zip" ⟨[a, b, c], kwS⟩ = pure () := by kernel_rfl
theorem nc_zip3 (a b c : Value) : checkBuiltinCall "zip.__new__" ⟨[.type "zip", a, b, c], kwS⟩ = pure () := by kernel_rfl
abbrev zA (h : Heap) (l : Addr) : Heap := h.push { cls := .type "list_iterator", data := .fields #[.ref l, .int 0 0] }
abbrev z3C (h : Heap) (l1 l2 l3 : Addr) : Heap := zA (zA (zA h l1) l2) l3
abbrev z3D (h : Heap) (l1 l2 l3 : Addr) : Heap := (z3C h l1 l2 l3).push { cls := .type "tuple", data := .seq #[.ref h.objs.size, .ref (zA h l1).objs.size, .ref (zA (zA h l1) l2).objs.size] }
abbrev z3E (h : Heap) (l1 l2 l3 : Addr) : Heap := (z3D h l1 l2 l3).push { cls := .type "tuple", data := .seq #[.none, .none, .none] }
abbrev z3F (h : Heap) (l1 l2 l3 : Addr) : Heap := (z3E h l1 l2 l3).push { cls := .type "zip", data := .fields #[.none, .bool false, .bool true, .ref (z3C h l1 l2 l3).objs.size, .ref (z3D h l1 l2 l3).objs.size] }
theorem meets_zip3 (l1 l2 l3 : Addr) (xs ys us : Array Value) :
    Meets (Builtin.«zip.__new__» ⟨[.type "zip", .ref l1, .ref l2, .ref l3], kwS⟩) (fun _ R s => s.heap.IsList l1 xs ∧ s.heap.IsList l2 ys ∧ s.heap.IsList l3 us ∧ R (.ok (.ret (.ref (z3E s.heap l1 l2 l3).objs.size))) { s with heap := z3F s.heap l1 l2 l3 }) :=
  .of_wp fun prog w A R s h => by
    obtain ⟨hp, g, d, tk, os⟩ := s
    obtain ⟨a1, a2, a3, h⟩ := h
    have hsub := sub_zip
    have b1 : Heap.IsList (Shared.heap ⟨hp, g, d, tk, os⟩) l1 xs := a1
    have b2 : Heap.IsList (Shared.heap ⟨zA hp l1, g, d, tk, os⟩) l2 ys := Heap.IsList.push a2 _
    have b3 : Heap.IsList (Shared.heap ⟨zA (zA hp l1) l2, g, d, tk, os⟩) l3 us := Heap.IsList.push (Heap.IsList.push a3 _) _
    wp_walk using wpAny_pyIter_list b1, wpAny_pyIter_list b2, wpAny_pyIter_list b3
    exact ⟨_, rfl, h⟩
end DL

set_option Elab.async false
set_option linter.all false
set_option maxRecDepth 100000
set_option maxHeartbeats 4000000
namespace DL
open PySem PySem.Spec PySem.Builtin.SmallTypes PyProof.Rows
theorem ao_zip3 (o a b c : Value) : argsOk "object.__init__" ⟨[o, a, b, c], kwS⟩ := by
  unfold argsOk
  rw [signature?_of (id := "object.__init__") (n := ['_', '_', 't', 'i', 'n', 'i', '_', '_']) (o := ['t', 'c', 'e', 'j', 'b', 'o']) (by kernel_rfl) PySem.F.owner_object]
  kernel_rfl
theorem six_no {n l : Nat} (h : l < n) : l ∉ ([n + 5, n + 3, n + 4, n, n + 1, n + 2] : List Nat) := by simp; omega
theorem six_ge {n d : Nat} (h : d ∈ ([n + 5, n + 3, n + 4, n, n + 1, n + 2] : List Nat)) : n ≤ d := by simp at h; omega
section
variable {prog : Program} {w : World} {A : Around} {E : Value → Shared → Prop} {s : Shared} {l1 l2 l3 : Addr} {xs ys us : Array Value}
theorem call_zip3 {Q : Value → Shared → Prop} (y1 : s.heap.IsList l1 xs) (y2 : s.heap.IsList l2 ys) (y3 : s.heap.IsList l3 us)
    (h : ∀ g z TI TO i1 i2 i3, Apart3 z TI TO i1 i2 i3 l1 l2 l3 → Z3St g z TI TO i1 i2 i3 l1 l2 l3 0 → (∀ d ∈ [z, TI, TO, i1, i2, i3], s.heap.objs.size ≤ d) → (∀ d o, s.heap.get? d = some o → g.get? d = some o) → Q (.ref z) { s with heap := g }) :
    wpAny (model prog w) A (call (.type "zip") [.ref l1, .ref l2, .ref l3] kwS) Q E s := by
  refine callType_newKw PySem.F.called_zip (by decide) (tc_zip3 _ _ _) (nc_zip3 _ _ _) (fun obj => ao_zip3 obj _ _ _) PySem.F.entry_zip_new (meets_zip3 l1 l2 l3 xs ys us) ⟨y1, y2, y3, ?_⟩
  have e1 : (zA s.heap l1).objs.size = s.heap.objs.size + 1 := Heap.size_push ..
  have e2 : (zA (zA s.heap l1) l2).objs.size = s.heap.objs.size + 2 := by rw [Heap.size_push, e1]
  have e3 : (z3C s.heap l1 l2 l3).objs.size = s.heap.objs.size + 3 := by rw [Heap.size_push, e2]
  have e4 : (z3D s.heap l1 l2 l3).objs.size = s.heap.objs.size + 4 := by rw [Heap.size_push, e3]
  have e5 : (z3E s.heap l1 l2 l3).objs.size = s.heap.objs.size + 5 := by rw [Heap.size_push, e4]
  have old : ∀ d o, s.heap.get? d = some o → (z3F s.heap l1 l2 l3).get? d = some o := fun d o q => Heap.get?_push_of_some _ (Heap.get?_push_of_some _ (Heap.get?_push_of_some _ (Heap.get?_push_of_some _ (Heap.get?_push_of_some _ (Heap.get?_push_of_some _ q)))))
  have g6 : (z3F s.heap l1 l2 l3).get? (z3E s.heap l1 l2 l3).objs.size = some _ := Heap.get?_push_size _ rfl
  have g5 : (z3F s.heap l1 l2 l3).get? (z3D s.heap l1 l2 l3).objs.size = some _ := Heap.get?_push_of_some _ (Heap.get?_push_size _ rfl)
  have g4 : (z3F s.heap l1 l2 l3).get? (z3C s.heap l1 l2 l3).objs.size = some _ := Heap.get?_push_of_some _ (Heap.get?_push_of_some _ (Heap.get?_push_size _ rfl))
  have g3 : (z3F s.heap l1 l2 l3).get? (zA (zA s.heap l1) l2).objs.size = some _ := Heap.get?_push_of_some _ (Heap.get?_push_of_some _ (Heap.get?_push_of_some _ (Heap.get?_push_size _ rfl)))
  have g2 : (z3F s.heap l1 l2 l3).get? (zA s.heap l1).objs.size = some _ := Heap.get?_push_of_some _ (Heap.get?_push_of_some _ (Heap.get?_push_of_some _ (Heap.get?_push_of_some _ (Heap.get?_push_size _ rfl))))
  have g1 : (z3F s.heap l1 l2 l3).get? s.heap.objs.size = some _ := Heap.get?_push_of_some _ (Heap.get?_push_of_some _ (Heap.get?_push_of_some _ (Heap.get?_push_of_some _ (Heap.get?_push_of_some _ (Heap.get?_push_size _ rfl)))))
  have b1 : l1 < s.heap.objs.size := let ⟨_, q, _⟩ := y1; Heap.lt_size q
  have b2 : l2 < s.heap.objs.size := let ⟨_, q, _⟩ := y2; Heap.lt_size q
  have b3 : l3 < s.heap.objs.size := let ⟨_, q, _⟩ := y3; Heap.lt_size q
  show _ ∧ _
  refine ⟨⟨_, g6, rfl⟩, h (z3F s.heap l1 l2 l3) _ (z3C s.heap l1 l2 l3).objs.size (z3D s.heap l1 l2 l3).objs.size s.heap.objs.size (zA s.heap l1).objs.size (zA (zA s.heap l1) l2).objs.size ⟨?_, ?_, ?_, ?_⟩ ⟨⟨_, _, g6, .inl rfl⟩, g4, ⟨_, _, _, g5⟩, ⟨_, g1, rfl, rfl⟩, ⟨_, g2, rfl, rfl⟩, ⟨_, g3, rfl, rfl⟩⟩ ?_ old⟩
  · rw [e1, e2, e3, e4, e5]; simp
  · rw [e1, e2, e3, e4, e5]; exact six_no b1
  · rw [e1, e2, e3, e4, e5]; exact six_no b2
  · rw [e1, e2, e3, e4, e5]; exact six_no b3
  · rw [e1, e2, e3, e4, e5]; exact fun d hd => six_ge hd
end
end DL

set_option Elab.async false
set_option linter.all false
set_option maxRecDepth 100000
set_option maxHeartbeats 4000000
namespace DL
open PySem PySem.Spec PySem.Builtin.SmallTypes PyProof.Rows
/-- the tuples that were collected -/
structure Tris (h : Heap) (S : Addr) (bad : List Addr) (acc : Array Value) (xs ys us : Array Value) (i : Nat) : Prop where
  size : acc.size = i
  at' : ∀ j, j < i → ∃ (T : Addr) (x y u : Value), acc[j]? = some (.ref T) ∧ xs[j]? = some x ∧ ys[j]? = some y ∧ us[j]? = some u ∧ IsTri h T x y u ∧ T ∉ bad
  lo : ∀ (j : Nat) (T : Addr), acc[j]? = some (.ref T) → S < T
  rise : ∀ (j k : Nat) (T U : Addr), j < k → acc[j]? = some (.ref T) → acc[k]? = some (.ref U) → T < U
section
variable {prog : Program} {w : World} {A : Around} {R : Result → Shared → Prop} {z TI TO i1 i2 i3 l1 l2 l3 S : Addr} {xs ys us : Array Value} {n : Nat}
theorem loop3 (hh : A.in1.handled = none) (D : Apart3 z TI TO i1 i2 i3 l1 l2 l3) (hn : n ≤ sizeLine) (n1 : xs.size = n) (n2 : ys.size = n) (n3 : us.size = n) (hS : S ∉ [z, TI, TO, i1, i2, i3, l1, l2, l3]) (res : Value) :
    ∀ (k i : Nat) (s : Shared) (acc : Array Value) (c : Nat), i + k = n → Z3St s.heap z TI TO i1 i2 i3 l1 l2 l3 i → s.heap.IsList l1 xs → s.heap.IsList l2 ys → s.heap.IsList l3 us →
    s.heap.get? S = some { cls := .type "list", dict := none, data := .seq acc c, slots := #[] } → Tris s.heap S [z, TO, i1, i2, i3, S] acc xs ys us i →
    (∀ g acc' c', (∀ d o, d ∉ [z, TO, i1, i2, i3, S] → s.heap.get? d = some o → g.get? d = some o) → g.get? S = some { cls := .type "list", dict := none, data := .seq acc' c', slots := #[] } → Tris g S [z, TO, i1, i2, i3, S] acc' xs ys us n → R (.ok (.ret res)) { s with heap := g }) →
    codeAny (model prog w) A (.builtin "list.extend.loop" ⟨[.ref S, .ref z, res], []⟩) R s := by
  have hS0 := hS
  simp only [List.mem_cons, List.not_mem_nil, or_false, not_or] at hS0
  obtain ⟨sz0, sTI, sTO, s1, s2, s3, m1, m2, m3⟩ := hS0
  have nd := D.nd
  have q1 := D.n1
  have q2 := D.n2
  have q3 := D.n3
  simp only [List.nodup_cons, List.mem_cons, List.not_mem_nil, or_false, not_or, List.nodup_nil, and_true, not_false_eq_true] at nd q1 q2 q3
  intro k
  induction k with
  | zero =>
    intro i s acc c hk st y1 y2 y3 hs tr hR
    refine codeAny_builtin F.entry_extend_loop ?_
    rw [Around.under_plainId F.plain_extend_loop _]
    show wpAny _ A.in1 (pyNext (.ref z) >>= _) _ _ s
    have no : ∀ {a : Array Value}, a.size = n → a[i]? = none := fun h => Array.getElem?_eq_none (by omega)
    refine wpAny_bind (next3_end hh D st y1 y2 y3 (no n1) (no n2) (no n3) fun g k => wpAny_pure ?_)
    have hin : i = n := by omega
    subst hin
    refine hR g acc c (fun d o hd q => k d o (fun z => hd (by simp only [List.mem_cons, List.not_mem_nil, or_false] at z ⊢; rcases z with z | z | z | z | z <;> simp [z])) q) (k S _ (by simp only [List.mem_cons, List.not_mem_nil, or_false, not_or]; exact ⟨sz0, sTO, s1, s2, s3⟩) hs) ⟨tr.size, fun j hj => ?_, tr.lo, tr.rise⟩
    obtain ⟨T, x, y, u, e1, e2, e3, e4, e5, e6⟩ := tr.at' j hj
    refine ⟨T, x, y, u, e1, e2, e3, e4, k T _ (fun z => e6 ?_) e5, e6⟩
    simp only [List.mem_cons, List.not_mem_nil, or_false] at z ⊢
    rcases z with z | z | z | z | z <;> simp [z]
  | succ k ih =>
    intro i s acc c hk st y1 y2 y3 hs tr hR
    refine codeAny_builtin F.entry_extend_loop ?_
    rw [Around.under_plainId F.plain_extend_loop _]
    show wpAny _ A.in1 (pyNext (.ref z) >>= _) _ _ s
    have hi : i < n := by omega
    obtain ⟨x, hx⟩ : ∃ x, xs[i]? = some x := ⟨_, Array.getElem?_eq_getElem (by omega)⟩
    obtain ⟨y, hy⟩ : ∃ y, ys[i]? = some y := ⟨_, Array.getElem?_eq_getElem (by omega)⟩
    obtain ⟨u, hu⟩ : ∃ u, us[i]? = some u := ⟨_, Array.getElem?_eq_getElem (by omega)⟩
    refine wpAny_bind (next3_item D st y1 y2 y3 hx hy hu fun g st' tri kp => ?_)
    obtain ⟨⟨zTI, zTO, z1, z2, z3⟩, ⟨TITO, TI1, TI2, TI3⟩, ⟨TO1, TO2, TO3⟩, ⟨i12, i13⟩, i23⟩ := nd
    have hS' := kp S _ (by simp only [List.mem_cons, List.not_mem_nil, or_false, not_or]; exact ⟨sz0, sTO, s1, s2, s3⟩) hs
    show wpAny _ A.in1 (updateSeq S (·.push (.ref s.heap.objs.size)) >>= _) _ _ _
    have sa : acc.size = i := tr.size
    refine wpAny_bind (wpAny_updateSeq hS' rfl (wpAny_pure ⟨plainId_quiet F.plain_extend_loop _, ?_⟩) (by rw [sa]; omega) (by show (acc.push _).size ≤ sizeLine + 1; rw [Array.size_push, sa]; omega))
    have up : ∀ d o, d ≠ S → g.get? d = some o → (g.update S (Obj.mapSeq (·.push (.ref s.heap.objs.size)))).get? d = some o := fun d o hd e => (Heap.get?_update_other _ _ (Ne.symm hd)).trans e
    have five : ∀ d, d ∉ [z, TO, i1, i2, i3, S] → d ∉ [z, TO, i1, i2, i3] ∧ d ≠ S := fun d hd => by
      simp only [List.mem_cons, List.not_mem_nil, or_false, not_or] at hd ⊢
      exact ⟨⟨hd.1, hd.2.1, hd.2.2.1, hd.2.2.2.1, hd.2.2.2.2.1⟩, hd.2.2.2.2.2⟩
    have ls : ∀ {l : Addr} {a : Array Value}, s.heap.IsList l a → l ∉ [z, TO, i1, i2, i3] → l ≠ S → (g.update S (Obj.mapSeq (·.push (.ref s.heap.objs.size)))).IsList l a := fun {l a} h h1 h2 => by
      obtain ⟨o, e, r⟩ := h
      exact ⟨o, up _ _ h2 (kp _ _ h1 e), r⟩
    have l1n : l1 ∉ [z, TO, i1, i2, i3] := by simp only [List.mem_cons, List.not_mem_nil, or_false, not_or]; exact ⟨q1.1, q1.2.2.1, q1.2.2.2.1, q1.2.2.2.2.1, q1.2.2.2.2.2⟩
    have l2n : l2 ∉ [z, TO, i1, i2, i3] := by simp only [List.mem_cons, List.not_mem_nil, or_false, not_or]; exact ⟨q2.1, q2.2.2.1, q2.2.2.2.1, q2.2.2.2.2.1, q2.2.2.2.2.2⟩
    have l3n : l3 ∉ [z, TO, i1, i2, i3] := by simp only [List.mem_cons, List.not_mem_nil, or_false, not_or]; exact ⟨q3.1, q3.2.2.1, q3.2.2.2.1, q3.2.2.2.2.1, q3.2.2.2.2.2⟩
    have new : s.heap.objs.size ∉ [z, TO, i1, i2, i3, S] := by
      obtain ⟨⟨v, f, hz, _⟩, _, ⟨_, _, _, pO⟩, ⟨_, e1, _⟩, ⟨_, e2, _⟩, ⟨_, e3, _⟩⟩ := st
      simp only [List.mem_cons, List.not_mem_nil, or_false, not_or]
      exact ⟨Nat.ne_of_gt (Heap.lt_size hz), Nat.ne_of_gt (Heap.lt_size pO), Nat.ne_of_gt (Heap.lt_size e1), Nat.ne_of_gt (Heap.lt_size e2), Nat.ne_of_gt (Heap.lt_size e3), Nat.ne_of_gt (Heap.lt_size hs)⟩
    refine ih (i + 1) _ (acc.push (.ref s.heap.objs.size)) _ (by omega) ?_ (ls y1 l1n (Ne.symm m1)) (ls y2 l2n (Ne.symm m2)) (ls y3 l3n (Ne.symm m3)) (Heap.get?_update_self _ hS' rfl) ⟨by rw [Array.size_push, sa], fun j hj => ?_, fun j T e => ?_, fun j k T U hjk e e' => ?_⟩ fun g' acc' c' k' hS'' tr' => ?_
    · obtain ⟨⟨v, f, hz, hv⟩, pI, ⟨a, b, c, pO⟩, t1, t2, t3⟩ := st'
      exact ⟨⟨v, f, up _ _ (Ne.symm sz0) hz, hv⟩, up _ _ (Ne.symm sTI) pI, ⟨a, b, c, up _ _ (Ne.symm sTO) pO⟩, t1.at fun o e => up _ o (Ne.symm s1) e, t2.at fun o e => up _ o (Ne.symm s2) e, t3.at fun o e => up _ o (Ne.symm s3) e⟩
    · by_cases hji : j < i
      · obtain ⟨T, x, y, u, e1, e2, e3, e4, e5, e6⟩ := tr.at' j hji
        refine ⟨T, x, y, u, ?_, e2, e3, e4, up _ _ (five T e6).2 (kp T _ (five T e6).1 e5), e6⟩
        rw [Array.getElem?_push, if_neg (by omega)]; exact e1
      · have : j = i := by omega
        subst this
        exact ⟨_, x, y, u, by rw [Array.getElem?_push, if_pos sa.symm], hx, hy, hu, up _ _ (five _ new).2 tri, new⟩
    · rw [Array.getElem?_push] at e
      split at e
      · cases e; exact Heap.lt_size hs
      · exact tr.lo j T e
    · rw [Array.getElem?_push] at e e'
      have oldT : ∀ (j : Nat) (T : Addr), acc[j]? = some (Value.ref T) → T < s.heap.objs.size := fun j T e => by
        have hj : j < acc.size := (Array.getElem?_eq_some_iff.mp e).1
        obtain ⟨T', x, y, u, e1, _, _, _, e5, _⟩ := tr.at' j (by omega)
        rw [e] at e1; cases e1
        exact Heap.lt_size e5
      split at e
      · split at e'
        · omega
        · have := (Array.getElem?_eq_some_iff.mp e').1; omega
      · split at e'
        · cases e'; exact oldT j T e
        · exact tr.rise j k T U hjk e e'
    · exact hR g' acc' c' (fun d o hd q => k' d o hd (up d o (five d hd).2 (kp d o (five d hd).1 q))) hS'' tr'
end
end DL

set_option Elab.async false
set_option linter.all false
set_option maxRecDepth 100000
set_option maxHeartbeats 4000000
namespace DL
open PySem PySem.Spec PySem.Builtin.SmallTypes PyProof.Rows
theorem zip_no_len : typeLookup (.type "zip") "__len__" = pure none := am_miss_of_fast (by first | decide +kernel | rfl)
theorem zip_no_hint : typeLookup (.type "zip") "__length_hint__" = pure none := am_miss_of_fast (by first | decide +kernel | rfl)
section
variable {prog : Program} {w : World} {A : Around} {E : Value → Shared → Prop} {s : Shared} {R : Result → Shared → Prop} {z TI TO i1 i2 i3 l1 l2 l3 S : Addr} {xs ys us : Array Value} {n : Nat}
theorem iter3 {v : Value} {f : Bool} {Q : Value → Shared → Prop} (hz : IsZ3 s.heap z TI TO v f) (h : Q (.ref z) s) : wpAny (model prog w) A (pyIter (.ref z)) Q E s := by
  have hT : s.TypeIs (.ref z) "zip" := ⟨_, hz, rfl⟩
  refine wpAny_pyIter_slot hT F.slot_zip_iter (wpAny_call_entry F.slot_zip_iter hT F.entry_zip_iter ?_ (F.args_zip_iter_1 _))
  show wpAny _ _ (ret (.ref z)) _ _ s
  exact wpAny_pure ⟨_, rfl, "zip", _, hT, F.slot_zip_next.lookup, h⟩
theorem extend3 (hh : A.in1.handled = none) (D : Apart3 z TI TO i1 i2 i3 l1 l2 l3) (hn : n ≤ sizeLine) (n1 : xs.size = n) (n2 : ys.size = n) (n3 : us.size = n) (hS : S ∉ [z, TI, TO, i1, i2, i3, l1, l2, l3]) (res : Value)
    (st : Z3St s.heap z TI TO i1 i2 i3 l1 l2 l3 0) (y1 : s.heap.IsList l1 xs) (y2 : s.heap.IsList l2 ys) (y3 : s.heap.IsList l3 us) (c₀ : Nat) (hs : s.heap.get? S = some { cls := .type "list", data := .seq #[] c₀ })
    (hR : ∀ g acc' c', (∀ d o, d ∉ [z, TO, i1, i2, i3, S] → s.heap.get? d = some o → g.get? d = some o) → g.get? S = some { cls := .type "list", dict := none, data := .seq acc' c', slots := #[] } → Tris g S [z, TO, i1, i2, i3, S] acc' xs ys us n → R (.ok (.ret res)) { s with heap := g }) :
    wpAny (model prog w) A.in1 (Builtin.List.listExtendWith (.ref S) (.ref z) res)
      (fun fin s' => match fin with | .done f => R (.ok f) s' | .again c' => c'.quiet = true ∧ codeAny (model prog w) A c' R s') (fun e s' => R (.error e) s') s := by
  obtain ⟨v, f, hz, hv⟩ := st.z
  have hT : s.TypeIs (.ref z) "zip" := ⟨_, hz, rfl⟩
  have hS0 := hS
  simp only [List.mem_cons, List.not_mem_nil, or_false, not_or] at hS0
  obtain ⟨sz0, sTI, sTO, s1, s2, s3, m1, m2, m3⟩ := hS0
  unfold Builtin.List.listExtendWith
  refine wpAny_bind (wpAny_typeOf hT ?_)
  have h1 : Builtin.List.listSameRef (.ref S) (.ref z) = false := by simp [Builtin.List.listSameRef, sz0]
  have h2 : (Value.type "zip" == Value.type "list") = false := by decide
  have h3 : (Value.type "zip" == Value.type "tuple") = false := by decide
  simp only [h1, h2, h3, Bool.or_false, Bool.false_eq_true, if_false]
  refine wpAny_bind (iter3 hz ?_)
  refine wpAny_bind (wpAny_holding ?_)
  unfold Builtin.List.listLengthHint
  refine wpAny_bind (wpAny_specialOf hT zip_no_len ?_)
  show wpAny _ A.in1 (specialOf (Value.ref z) (Str.ofString "__length_hint__") >>= _) _ _ _
  refine wpAny_bind (wpAny_specialOf hT zip_no_hint ?_)
  refine wpAny_pure ?_
  show wpAny _ A.in1 (rule "list.extend.makes-room" >>= fun _ => Builtin.List.listTouch (.ref S) >>= fun _ => again (.builtin "list.extend.loop" ⟨[.ref S, .ref z, res], []⟩)) _ _ _
  refine wpAny_bind (wpAny_rule (wpAny_bind ?_))
  show wpAny _ A.in1 (updateSeq S (·.push .none) >>= fun _ => updateSeq S (·.pop)) _ _ _
  refine wpAny_bind (wpAny_updateSeq hs rfl ?_)
  have hs2 := Heap.get?_update_self (Obj.mapSeq (·.push Value.none)) hs rfl
  refine wpAny_updateSeq hs2 rfl ?_
  have hs3 := Heap.get?_update_self (Obj.mapSeq (·.pop)) hs2 rfl
  have up : ∀ d o, d ≠ S → s.heap.get? d = some o → ((s.heap.update S (Obj.mapSeq (·.push Value.none))).update S (Obj.mapSeq (·.pop))).get? d = some o := fun d o hd e => (Heap.get?_update_other _ _ (Ne.symm hd)).trans ((Heap.get?_update_other _ _ (Ne.symm hd)).trans e)
  have ls : ∀ {l : Addr} {a : Array Value}, s.heap.IsList l a → l ≠ S → ((s.heap.update S (Obj.mapSeq (·.push Value.none))).update S (Obj.mapSeq (·.pop))).IsList l a := fun {l a} h h2 => by
    obtain ⟨o, e, r⟩ := h
    exact ⟨o, up _ _ h2 e, r⟩
  refine wpAny_pure ⟨plainId_quiet F.plain_extend_loop _, loop3 hh D hn n1 n2 n3 hS res n 0 _ _ _ (Nat.zero_add n) ?_ (ls y1 (Ne.symm m1)) (ls y2 (Ne.symm m2)) (ls y3 (Ne.symm m3)) hs3 ⟨rfl, fun j hj => absurd hj (Nat.not_lt_zero j), fun j T e => by simp at e, fun j k T U _ e => by simp at e⟩ fun g acc' c' k e tr => ?_⟩
  · obtain ⟨⟨v, f, hz, hv⟩, pI, ⟨a, b, c, pO⟩, t1, t2, t3⟩ := st
    exact ⟨⟨v, f, up _ _ (Ne.symm sz0) hz, hv⟩, up _ _ (Ne.symm sTI) pI, ⟨a, b, c, up _ _ (Ne.symm sTO) pO⟩, t1.at fun o e => up _ o (Ne.symm s1) e, t2.at fun o e => up _ o (Ne.symm s2) e, t3.at fun o e => up _ o (Ne.symm s3) e⟩
  · refine hR g acc' c' (fun d o hd q => k d o hd (up d o (fun z => hd (by simp [z])) q)) e tr
end
end DL

set_option Elab.async false
set_option linter.all false
set_option maxRecDepth 100000
set_option maxHeartbeats 4000000
namespace DL
open PySem PySem.Spec PySem.Builtin.SmallTypes PyProof.Rows
section
variable {prog : Program} {w : World} {A : Around} {E : Value → Shared → Prop} {s : Shared} {z TI TO i1 i2 i3 l1 l2 l3 : Addr} {xs ys us : Array Value} {n : Nat}
/-- list(z), z a strict zip of three lists of one length -/
theorem call_list3 {Q : Value → Shared → Prop} (hh : A.handled = none) (D : Apart3 z TI TO i1 i2 i3 l1 l2 l3) (hn : n ≤ sizeLine) (n1 : xs.size = n) (n2 : ys.size = n) (n3 : us.size = n)
    (st : Z3St s.heap z TI TO i1 i2 i3 l1 l2 l3 0) (y1 : s.heap.IsList l1 xs) (y2 : s.heap.IsList l2 ys) (y3 : s.heap.IsList l3 us)
    (hQ : ∀ g acc' c', (∀ d o, d ∉ [z, TO, i1, i2, i3] → s.heap.get? d = some o → g.get? d = some o) → g.get? s.heap.objs.size = some { cls := .type "list", dict := none, data := .seq acc' c', slots := #[] } → Tris g s.heap.objs.size [z, TO, i1, i2, i3, s.heap.objs.size] acc' xs ys us n → Q (.ref s.heap.objs.size) { s with heap := g }) :
    wpAny (model prog w) A (call (.type "list") [.ref z]) Q E s := by
  refine callType_codes (Q₁ := fun obj s₁ => obj = .ref s.heap.objs.size ∧ s₁ = { s with heap := s.heap.push { cls := .type "list", data := .seq #[] } }) F.called_list (F.typeCall_list_1 _) F.entry_list_init
    (code_list_new _ ⟨rfl, rfl⟩) fun obj s₁ h₁ => ?_
  obtain ⟨rfl, rfl⟩ := h₁
  have hS : (s.heap.push { cls := .type "list", data := .seq #[] }).get? s.heap.objs.size = some { cls := .type "list", data := .seq #[] } := Heap.get?_push_size _ rfl
  refine ⟨⟨_, hS, rfl⟩, F.args_list_init_2 _ _, ?_⟩
  show wpAny _ _ (do let old ← Builtin.List.listItems (.ref s.heap.objs.size); Builtin.List.listUpdate (.ref s.heap.objs.size) (fun _ => #[]); letGo old.toList.reverse; Builtin.List.listExtendWith (.ref s.heap.objs.size) (.ref z) .none) _ _ _
  refine wpAny_bind ?_
  unfold Builtin.List.listItems
  refine wpAny_bind (wpAny_seqItems hS rfl (wpAny_pure ?_))
  show wpAny _ _ (updateSeq s.heap.objs.size (fun _ => #[]) >>= fun _ => letGo (#[] : Array Value).toList.reverse >>= fun _ => Builtin.List.listExtendWith (.ref s.heap.objs.size) (.ref z) .none) _ _ _
  refine wpAny_bind (wpAny_updateSeq hS rfl ?_)
  have hS2 := Heap.get?_update_self (Obj.mapSeq (fun _ => (#[] : Array Value))) hS rfl
  have up : ∀ d o, s.heap.get? d = some o → ((s.heap.push { cls := .type "list", data := .seq #[] }).update s.heap.objs.size (Obj.mapSeq (fun _ => (#[] : Array Value)))).get? d = some o :=
    fun d o e => (Heap.get?_update_other _ _ (Nat.ne_of_gt (Heap.lt_size e))).trans (Heap.get?_push_of_some _ e)
  refine wpAny_bind (wpAny_letGo ?_)
  obtain ⟨⟨v, f, hz, hv⟩, pI, ⟨a, b, c, pO⟩, t1, t2, t3⟩ := st
  obtain ⟨_, e1, _⟩ := id t1
  obtain ⟨_, e2, _⟩ := id t2
  obtain ⟨_, e3, _⟩ := id t3
  obtain ⟨_, f1, _⟩ := id y1
  obtain ⟨_, f2, _⟩ := id y2
  obtain ⟨_, f3, _⟩ := id y3
  have hSn : s.heap.objs.size ∉ [z, TI, TO, i1, i2, i3, l1, l2, l3] := by
    simp only [List.mem_cons, List.not_mem_nil, or_false, not_or]
    exact ⟨Nat.ne_of_gt (Heap.lt_size hz), Nat.ne_of_gt (Heap.lt_size pI), Nat.ne_of_gt (Heap.lt_size pO), Nat.ne_of_gt (Heap.lt_size e1), Nat.ne_of_gt (Heap.lt_size e2), Nat.ne_of_gt (Heap.lt_size e3), Nat.ne_of_gt (Heap.lt_size f1), Nat.ne_of_gt (Heap.lt_size f2), Nat.ne_of_gt (Heap.lt_size f3)⟩
  have ls : ∀ {l : Addr} {a : Array Value}, s.heap.IsList l a → ((s.heap.push { cls := .type "list", data := .seq #[] }).update s.heap.objs.size (Obj.mapSeq (fun _ => (#[] : Array Value)))).IsList l a := fun {l a} h => by
    obtain ⟨o, e, r⟩ := h
    exact ⟨o, up _ _ e, r⟩
  refine extend3 (A := A.in1) hh D hn n1 n2 n3 hSn .none ⟨⟨v, f, up _ _ hz, hv⟩, up _ _ pI, ⟨a, b, c, up _ _ pO⟩, t1.at fun o e => up _ o e, t2.at fun o e => up _ o e, t3.at fun o e => up _ o e⟩ (ls y1) (ls y2) (ls y3) _ hS2 fun g acc' c' k e tr => ?_
  refine ⟨rfl, hQ g acc' c' (fun d o hd q => k d o (fun m => ?_) (up d o q)) e tr⟩
  simp only [List.mem_cons, List.not_mem_nil, or_false, not_or] at m hd
  rcases m with m | m | m | m | m | m
  · exact hd.1 m
  · exact hd.2.1 m
  · exact hd.2.2.1 m
  · exact hd.2.2.2.1 m
  · exact hd.2.2.2.2 m
  · exact Nat.ne_of_lt (Heap.lt_size q) m
end
end DL

set_option Elab.async false
set_option linter.all false
set_option maxRecDepth 100000
set_option maxHeartbeats 4000000
namespace DL
open PySem PySem.Spec PySem.Builtin.SmallTypes PyProof.Rows
/-! ### a call of a built-in class with keywords -/
section
variable {M : Model} {A : Around} {E : Value → Shared → Prop} {s : Shared} {env : Env}
theorem callWith_typeKw {pos : Pos} {T : String} {e : Expr} {rest : List Expr} {kws : List Keyword} {Q : Value → Shared → Prop}
    (h : wpAny M A (spliced (backTo pos (starEach (e :: rest) env))) (fun vs s₁ => wpAny M A (evalAll ((backToKw pos (keywordEach kws env)).map (·.2)))
      (fun kvs s₂ => wpAny M A (call (.type T) vs (((backToKw pos (keywordEach kws env)).filterMap (·.1)).zip kvs)) Q E s₂) E s₁) E s)
    (he : backTo pos (starEach (e :: rest) env) = (false, eval e env) :: backTo pos (starEach rest env) := by rfl)
    (hplain : (backTo pos (starEach (e :: rest) env)).any (·.1) = false := by rfl)
    (hall : (backToKw pos (keywordEach kws env)).all (·.1.isSome) = true := by rfl)
    (hkw : (backToKw pos (keywordEach kws env)).any (·.1.isNone) = false := by rfl) :
    wpAny M A (callWith pos (.type T) [] (backTo pos (starEach (e :: rest) env)) (backToKw pos (keywordEach kws env))) Q E s := by
  have h2 : wpAny M A (evalArgs (.type T) true (backTo pos (starEach (e :: rest) env)) (backToKw pos (keywordEach kws env))) (fun a s₁ => wpAny M A (call (.type T) ([] ++ a.pos) a.kw) Q E s₁) E s := by
    rw [he] at h ⊢
    exact evalArgs_kwB hall h
  unfold callWith
  refine wpAny_bind (wpAny_holding (wpAny_mono h2 (fun a s₁ h₁ => wpAny_bind (wpAny_standAt ?_)) fun _ _ x => x))
  simp only [hplain, hkw, Bool.or_false]
  refine wpAny_bind (wpAny_pure ?_)
  exact wpAny_bind (wpAny_mono h₁ (fun r s₂ hr => wpAny_bind (wpAny_holding (wpAny_point (wpAny_pure hr)))) fun _ _ x => x)
end
end DL
namespace DL
open PySem PySem.Spec L2
open Evl (Ex)
/-! ### many new things at once -/
def putF (H : Hp) : List (Addr × HO) → Hp
  | [] => H
  | (a, o) :: r => upd (putF H r) a o
theorem putF_off {H : Hp} {b : Addr} : ∀ {l : List (Addr × HO)}, b ∉ l.map (·.1) → putF H l b = H b
  | [], _ => rfl
  | (a, o) :: r, h => by
    rw [List.map_cons, List.mem_cons, not_or] at h
    unfold putF
    rw [upd_ne h.1]; exact putF_off h.2
theorem putF_at {H : Hp} {a : Addr} {o : HO} : ∀ {l : List (Addr × HO)}, (l.map (·.1)).Nodup → (a, o) ∈ l → putF H l a = some o
  | (b, u) :: r, nd, h => by
    rw [List.map_cons, List.nodup_cons] at nd
    unfold putF
    rcases List.mem_cons.mp h with e | e
    · cases e; exact upd_same
    · rw [upd_ne fun z => nd.1 (by rw [← z]; exact List.mem_map_of_mem (f := (·.1)) e)]
      exact putF_at nd.2 e
theorem Go.many {K : PySem.W.Frag} {F H : Hp} {M : Mem} (at0 : At K F M H) : ∀ {l : List (Addr × HO)}, (l.map (·.1)).Nodup → (∀ p ∈ l, H p.1 = none) → Go K F M H (putF F l) M (putF H l)
  | [], _, _ => Go.refl at0
  | (a, o) :: r, nd, h => by
    rw [List.map_cons, List.nodup_cons] at nd
    have g := Go.many at0 nd.2 fun p hp => h p (List.mem_cons_of_mem _ hp)
    exact g.trans (Go.laid g.at' (by rw [putF_off nd.1]; exact h _ List.mem_cons_self))
theorem inv_many {X : Cx} {pins : List (Addr × Obj)} {σ : L2.St} {H : Hp} {s : Shared} {h' : Heap} {tk : Nat} (I : Inv X pins σ H s) (hk : ∀ b o, s.heap.get? b = some o → h'.get? b = some o) {l : List (Addr × HO)} (nd : (l.map (·.1)).Nodup)
    (hn : ∀ p ∈ l, s.heap.objs.size ≤ p.1 ∧ ∀ H' : Hp, ObjOk X.prog X.w H' h' p.1 p.2) : Inv X pins σ (putF H l) { s with heap := h', toks := tk } := by
  have fr : ∀ b, b ∈ l.map (·.1) → s.heap.objs.size ≤ b := fun b hb => by
    obtain ⟨p, hp, rfl⟩ := List.mem_map.mp hb
    exact (hn p hp).1
  have low : ∀ b o, s.heap.get? b = some o → b ∉ l.map (·.1) := fun b o e z => absurd (Heap.lt_size e) (Nat.not_lt.mpr (fr b z))
  have kp : ∀ b u, H b = some u → putF H l b = some u := fun b u e => by
    rw [putF_off fun z => ?_]
    · exact e
    · rw [I.hok.fresh (fr b z)] at e; cases e
  refine I.call' (s' := { s with heap := h', toks := tk }) (ch := []) rfl ⟨fun b o q _ _ _ => hk b o q, fun b o q _ _ _ => ⟨o.slots, hk b o q⟩, fun b o q n _ => by rw [putF_off (low b o q)]; exact n, fun b o q _ => ⟨o, hk b o q⟩, fun b xs q => kp b _ q, fun b o u q => kp b _ q, fun b ps q => ⟨#[], by rw [kp b _ q]; simp⟩⟩ (fun b u q => ?_) I.bare fun b z => by simp at z
  by_cases hb : b ∈ l.map (·.1)
  · obtain ⟨p, hp, rfl⟩ := List.mem_map.mp hb
    rw [putF_at nd (show (p.1, p.2) ∈ l from hp)] at q
    cases q
    exact (hn p hp).2 _
  · rw [putF_off hb] at q
    exact (I.hok b u q).stay (fun c v _ e => hk c v e) (fun c e => kp c _ e) fun c xs e => kp c _ e
end DL

set_option Elab.async false
set_option linter.all false
set_option maxRecDepth 100000
set_option maxHeartbeats 4000000
namespace DL
open PySem PySem.Spec L2
open Evl (Ex)
/-! ### list(zip(a, b, c, strict=True)) -/
def triD : List PyData → List PyData → List PyData → List PyData
  | x :: xs, y :: ys, z :: zs => .tuple [x, y, z] :: triD xs ys zs
  | _, _, _ => []
/-- what is new: the tuples -/
def triO : List Addr → List V → List V → List V → List (Value × Value × Value) → List (Addr × HO)
  | t :: ts, x :: xs, y :: ys, z :: zs, o :: os => (t, .frz { cls := .type "tuple", data := .seq #[o.1, o.2.1, o.2.2] } (.tup [x, y, z])) :: triO ts xs ys zs os
  | _, _, _, _, _ => []
theorem triO_fst : ∀ {ts : List Addr} {xs ys zs : List V} {os : List (Value × Value × Value)}, xs.length = ts.length → ys.length = ts.length → zs.length = ts.length → os.length = ts.length → (triO ts xs ys zs os).map (·.1) = ts
  | [], _, _, _, _, _, _, _, _ => by unfold triO; rfl
  | t :: ts, x :: xs, y :: ys, z :: zs, o :: os, a, b, c, d => by
    unfold triO
    rw [List.map_cons, triO_fst (by simpa using a) (by simpa using b) (by simpa using c) (by simpa using d)]
theorem triO_ok {P : Program} {w : World} {h : Heap} : ∀ {ts : List Addr} {xs ys zs : List V} {os : List (Value × Value × Value)}, Vals xs (os.map (·.1)) → Vals ys (os.map (·.2.1)) → Vals zs (os.map (·.2.2)) →
    (∀ p ∈ ts.zip os, IsTri h p.1 p.2.1 p.2.2.1 p.2.2.2) → ∀ p ∈ triO ts xs ys zs os, ∀ H' : Hp, ObjOk P w H' h p.1 p.2
  | t :: ts, x :: xs, y :: ys, z :: zs, o :: os, a, b, c, d, p, hp, H' => by
    unfold triO at hp
    cases a with | cons a1 a2 =>
    cases b with | cons b1 b2 =>
    cases c with | cons c1 c2 =>
    rcases List.mem_cons.mp hp with e | e
    · subst e
      have q := d (t, o) (by rw [List.zip_cons_cons]; exact List.mem_cons_self)
      refine ⟨q, show 3 ≤ sizeLine by decide, [o.1, o.2.1, o.2.2], .cons a1 (.cons b1 (.cons c1 .nil)), _, q, rfl, _, rfl⟩
    · exact triO_ok a2 b2 c2 (fun p hp => d p (by rw [List.zip_cons_cons]; exact List.mem_cons_of_mem _ hp)) p e H'
  | [], _, _, _, _, _, _, _, _, p, hp, _ => by unfold triO at hp; cases hp
  | _ :: _, [], _, _, _, _, _, _, _, p, hp, _ => by unfold triO at hp; cases hp
  | _ :: _, _ :: _, [], _, _, _, _, _, _, p, hp, _ => by unfold triO at hp; cases hp
  | _ :: _, _ :: _, _ :: _, [], _, _, _, _, _, p, hp, _ => by unfold triO at hp; cases hp
  | _ :: _, _ :: _, _ :: _, _ :: _, [], _, _, _, _, p, hp, _ => by unfold triO at hp; cases hp
theorem triO_dq {K : PySem.W.Frag} {F : Hp} : ∀ {ts : List Addr} {xs ys zs : List V} {os : List (Value × Value × Value)} {dx dy dz : List PyData}, DqAll K F xs dx → DqAll K F ys dy → DqAll K F zs dz → xs.length = ts.length → ys.length = ts.length → zs.length = ts.length → os.length = ts.length →
    (∀ p ∈ triO ts xs ys zs os, F p.1 = some p.2) → DqAll K F (ts.map V.ref) (triD dx dy dz)
  | [], [], [], [], _, _, _, _, .nil, .nil, .nil, _, _, _, _, _ => .nil
  | t :: ts, x :: xs, y :: ys, z :: zs, o :: os, _, _, _, .cons a1 a2, .cons b1 b2, .cons c1 c2, l1, l2, l3, l4, h => by
    unfold triO at h
    unfold triD
    refine .cons (.tup (.inl ⟨_, h _ List.mem_cons_self, rfl⟩) (.cons a1 (.cons b1 (.cons c1 .nil)))) (triO_dq a2 b2 c2 (by simpa using l1) (by simpa using l2) (by simpa using l3) (by simpa using l4) fun p hp => h p (List.mem_cons_of_mem _ hp))
def adOf : Value → Addr
  | .ref a => a
  | _ => 0
section
variable {X : Cx} {a b c : Expr} {wa : WA} {p p2 q pos kp kpos : Pos} {j : Nat}
abbrev wLZip3 (wa : WA) : WE := fun dl M R => wa dl M fun rs M1 => match rs with
  | [.d (.list xs), .d (.list ys), .d (.list zs)] => xs.length = ys.length ∧ xs.length = zs.length ∧ R (.d (.list (triD xs ys zs))) M1
  | _ => False
theorem pd_listZip3 (hc : X.calm = true) (hg : Gl X "list") (hm : X.mg "list" = none) (hg2 : Gl X "zip") (hm2 : X.mg "zip" = none) (ha : PDA X [a, b, c] wa)
    (he : backTo q (starEach [a, b, c] X.env) = (false, eval a X.env) :: backTo q (starEach [b, c] X.env) := by rfl) (hpl : (backTo q (starEach [a, b, c] X.env)).any (·.1) = false := by rfl) :
    PD X (.Call (.Name "list" p) [.Call (.Name "zip" p2) [a, b, c] [⟨some "strict", .Constant (.bool true) j kp, kpos⟩] q] [] pos) (wLZip3 wa) := by
  refine ⟨fun pins s st H Q I h => ?_⟩
  obtain ⟨F, dl, M, R, so, at0, hw, po⟩ := h
  refine PyProof.Rows.Call_ (ld_blt I hg hm (u := .type "list") (by decide +kernel) ?_)
  refine PyProof.Rows.callWith_type1 (PyProof.Rows.args_cons ?_ rfl) rfl rfl
  refine wpAny_Call_Name_kw (ld_blt I hg2 hm2 (u := .type "zip") (by decide +kernel) ?_)
  refine callWith_typeKw ?_ he hpl rfl rfl
  refine thn (PA.run ha q pins s st H (fun vs H1 => ∃ a b c xs ys zs, vs = [.ref a, .ref b, .ref c] ∧ SqL X.K H1 a xs ∧ SqL X.K H1 b ys ∧ SqL X.K H1 c zs ∧ xs.length = ys.length ∧ xs.length = zs.length ∧
    ∀ (S : Addr) (ts : List Addr) (os : List (Value × Value × Value)), H1 S = none → (∀ t ∈ ts, H1 t = none) → (S :: ts).Nodup → ts.length = xs.length → os.length = xs.length → Q (.ref S) (putF H1 ((S, .lst (ts.map V.ref)) :: triO ts xs ys zs os))) I ?_) fun us s1 ⟨vs, H1, I1, r1, q1⟩ => ?_
  · refine tDA_to so at0 hw fun vs F1 H1 rs M1 h1 g1 so1 at1 i1 => ?_
    split at h1
    · rename_i dx dy dz
      obtain ⟨l1, l2, hR⟩ := h1
      obtain ⟨v, u, w, rfl, i2, i3, i4⟩ := isAll3 i1
      cases i2 with | @lst a xs _ q1 d1 =>
      cases i3 with | @lst b ys _ q2 d2 =>
      cases i4 with | @lst c zs _ q3 d3 =>
      have e1 := dqAll_len d1
      have e2 := dqAll_len d2
      have e3 := dqAll_len d3
      refine ⟨a, b, c, xs, ys, zs, rfl, SqL.of (at1.ex _ _ q1), SqL.of (at1.ex _ _ q2), SqL.of (at1.ex _ _ q3), by omega, by omega, fun S ts os hS ht nd z1 z2 => ?_⟩
      have f1 := triO_fst (ts := ts) (xs := xs) (ys := ys) (zs := zs) (os := os) (by omega) (by omega) (by omega) (by omega)
      have nd2 : (((S, HO.lst (ts.map V.ref)) :: triO ts xs ys zs os).map (·.1)).Nodup := by rw [List.map_cons, f1]; exact nd
      have g := Go.many at1 nd2 fun p hp => by
        rcases List.mem_cons.mp hp with e | e
        · subst e; exact hS
        · exact ht _ (by rw [← f1]; exact List.mem_map_of_mem (f := (·.1)) e)
      refine po _ _ _ _ M1 hR (g1.trans g) (.lst (vs := ts.map V.ref) (putF_at nd2 List.mem_cons_self) ?_)
      exact triO_dq (os := os) (dqAll_mono g.ex d1) (dqAll_mono g.ex d2) (dqAll_mono g.ex d3) (by omega) (by omega) (by omega) (by omega) fun p hp => putF_at nd2 (List.mem_cons_of_mem _ hp)
    · exact h1.elim
  · obtain ⟨l1, l2, l3, xs, ys, zs, rfl, hx, hy, hz, n1, n2, hQ⟩ := q1
    obtain ⟨its, rx, px, zx⟩ := I1.list hx
    obtain ⟨jts, ry, py, zy⟩ := I1.list hy
    obtain ⟨kts, rz, pz, zz⟩ := I1.list hz
    cases r1 with | cons r1 r2 =>
    cases r1
    cases r2 with | cons r2 r3 =>
    cases r2
    cases r3 with | cons r3 r4 =>
    cases r3
    cases r4
    refine PyProof.Rows.kws_cons ?_
    refine PyProof.Rows.Constant_bool ?_
    refine PyProof.Rows.kws_nil ?_
    show wpAny (model X.prog X.w) X.A (call (.type "zip") [.ref l1, .ref l2, .ref l3] kwS) _ _ _
    refine call_zip3 px.isList py.isList pz.isList fun g z TI TO i1 i2 i3 D st nw kp => ?_
    refine PyProof.Rows.args_nil ?_
    have ls : ∀ {l : Addr} {a : Array Value}, s1.heap.IsList l a → g.IsList l a := fun {l a} h => by
      obtain ⟨o, e, r⟩ := h
      exact ⟨o, kp _ _ e, r⟩
    have lx := rx.length
    have ly := ry.length
    have lz := rz.length
    refine call_list3 (n := xs.length) (s := { s1 with heap := g }) (I1.ok.hd hc) D zx (by rw [List.size_toArray]; omega) (by rw [List.size_toArray]; omega) (by rw [List.size_toArray]; omega) st (ls px.isList) (ls py.isList) (ls pz.isList) fun g2 acc c k2 hS tr => ?_
    obtain ⟨zv, zf, hzz, _⟩ := st.z
    have hsz : s1.heap.objs.size ≤ g.objs.size := Nat.le_of_lt (Nat.lt_of_le_of_lt (nw z (by simp)) (Heap.lt_size hzz))
    have hlen : acc.toList.length = xs.length := by rw [Array.length_toList]; exact tr.size
    have acce : acc.toList = (acc.toList.map adOf).map Value.ref := by
      apply List.ext_getElem?
      intro j
      rw [List.map_map, List.getElem?_map]
      by_cases hj : j < xs.length
      · obtain ⟨T, x, y, u, e1, _⟩ := tr.at' j hj
        rw [Array.getElem?_toList, e1]; rfl
      · rw [List.getElem?_eq_none (by omega)]; rfl
    have atT : ∀ (j : Nat) (T : Addr), (acc.toList.map adOf)[j]? = some T → acc[j]? = some (.ref T) := fun j T e => by
      have : acc.toList[j]? = some (.ref T) := by rw [acce, List.getElem?_map, e]; rfl
      rwa [Array.getElem?_toList] at this
    have above : ∀ t ∈ acc.toList.map adOf, g.objs.size < t := fun t ht => by
      obtain ⟨j, hj⟩ := List.mem_iff_getElem?.mp ht
      exact tr.lo j t (atT j t hj)
    have nd : (acc.toList.map adOf).Nodup := by
      refine List.Pairwise.imp (R := fun a b : Addr => a < b) (fun {a b} h => Nat.ne_of_lt h) (List.pairwise_iff_getElem.mpr fun i j hi hj hij => ?_)
      exact tr.rise i j _ _ hij (atT i _ (List.getElem?_eq_getElem hi)) (atT j _ (List.getElem?_eq_getElem hj))
    have m1 : (its.zip (jts.zip kts)).map (·.1) = its := by rw [List.map_fst_zip]; rw [List.length_zip]; omega
    have m0 : (its.zip (jts.zip kts)).map (·.2) = jts.zip kts := by rw [List.map_snd_zip]; rw [List.length_zip]; omega
    have m2 : (its.zip (jts.zip kts)).map (·.2.1) = jts := by
      have : (its.zip (jts.zip kts)).map (·.2.1) = ((its.zip (jts.zip kts)).map (·.2)).map (·.1) := by rw [List.map_map]; rfl
      rw [this, m0, List.map_fst_zip]; omega
    have m3 : (its.zip (jts.zip kts)).map (·.2.2) = kts := by
      have : (its.zip (jts.zip kts)).map (·.2.2) = ((its.zip (jts.zip kts)).map (·.2)).map (·.2) := by rw [List.map_map]; rfl
      rw [this, m0, List.map_snd_zip]; omega
    have lo : (its.zip (jts.zip kts)).length = xs.length := by rw [List.length_zip, List.length_zip]; omega
    have lt : (acc.toList.map adOf).length = xs.length := by rw [List.length_map]; exact hlen
    have nd2 : (g.objs.size :: acc.toList.map adOf).Nodup := List.nodup_cons.mpr ⟨fun z => Nat.lt_irrefl _ (above _ z), nd⟩
    have f1 := triO_fst (ts := acc.toList.map adOf) (xs := xs) (ys := ys) (zs := zs) (os := its.zip (jts.zip kts)) (by omega) (by omega) (by omega) (by omega)
    refine ⟨.ref g.objs.size, _, inv_many (tk := s1.toks) I1 (h' := g2) (fun b o e => k2 b o (fun zz => ?_) (kp b o e)) (l := (g.objs.size, .lst ((acc.toList.map adOf).map V.ref)) :: triO (acc.toList.map adOf) xs ys zs (its.zip (jts.zip kts))) (by rw [List.map_cons, f1]; exact nd2) (fun p hp => ?_), rfl, hQ g.objs.size (acc.toList.map adOf) (its.zip (jts.zip kts)) (I1.hok.fresh hsz) (fun t ht => I1.hok.fresh (Nat.le_of_lt (Nat.lt_of_le_of_lt hsz (above t ht)))) nd2 lt lo⟩
    · have hb := Heap.lt_size e
      have : b ∈ [z, TI, TO, i1, i2, i3] := by
        simp only [List.mem_cons, List.not_mem_nil, or_false] at zz ⊢
        rcases zz with h | h | h | h | h <;> simp [h]
      exact absurd hb (Nat.not_lt.mpr (nw b this))
    · rcases List.mem_cons.mp hp with e | e
      · subst e
        refine ⟨hsz, fun H' => ⟨by rw [List.length_map, lt]; exact zx, acc.toList, c, ?_, hS⟩⟩
        have : ∀ l : List Addr, Vals (l.map V.ref) (l.map Value.ref) := fun l => by
          induction l with
          | nil => exact .nil
          | cons t r ih => exact .cons rfl ih
        have h9 := this (acc.toList.map adOf)
        rwa [← acce] at h9
      · refine ⟨Nat.le_of_lt (Nat.lt_of_le_of_lt hsz (above _ (by rw [← f1]; exact List.mem_map_of_mem (f := (·.1)) e))), triO_ok (by rw [m1]; exact rx) (by rw [m2]; exact ry) (by rw [m3]; exact rz) (fun p hp => ?_) p e⟩
        obtain ⟨j, hj⟩ := List.mem_iff_getElem?.mp hp
        rw [List.getElem?_zip_eq_some] at hj
        obtain ⟨h1, h2⟩ := hj
        rw [List.getElem?_zip_eq_some, List.getElem?_zip_eq_some] at h2
        obtain ⟨h2, h3, h4⟩ := h2
        have hjl : j < xs.length := by have := (List.getElem?_eq_some_iff.mp h1).1; omega
        obtain ⟨T, x, y, u, e1, e2, e3, e4, e5, _⟩ := tr.at' j hjl
        have e6 := atT j _ h1
        rw [e1] at e6
        have a1 : its[j]? = some x := by simpa using e2
        have a2 : jts[j]? = some y := by simpa using e3
        have a3 : kts[j]? = some u := by simpa using e4
        rw [a1] at h2; rw [a2] at h3; rw [a3] at h4
        cases e6; cases h2; cases h3; cases h4
        exact e5
end
end DL

set_option Elab.async false
set_option linter.all false
set_option maxRecDepth 100000
set_option maxHeartbeats 4000000
namespace DL
open PySem PySem.Spec L2
open Evl (Ex)
/-! ### d[k], the dict walked or not; max(a, b) -/
def dcOf (M : Mem) (a : Addr) : Option KS := match M a with
  | some (.dic ks) => some ks
  | some (.lok _ _ ks) => some ks
  | _ => none
theorem dcOf_d {M : Mem} {a : Addr} {ks : KS} (h : M a = some (.dic ks)) : dcOf M a = some ks := by simp only [dcOf, h]
theorem dcOf_l {M : Mem} {a : Addr} {od : Obj} {kvs : List (Key × V)} {ks : KS} (h : M a = some (.lok od kvs ks)) : dcOf M a = some ks := by simp only [dcOf, h]
abbrev gDGetL : W2 := fun p q M R => match p with
  | .v (.ref a) => ∃ ks k r, dcOf M a = some ks ∧ keyS q = some k ∧ valS ks k = some r ∧ R r M
  | _ => False
theorem dcOf_at {K : PySem.W.Frag} {F H : Hp} {M : Mem} {a : Addr} {ks : KS} (at0 : At K F M H) (h : dcOf M a = some ks) : ∃ kvs, Rd H a (.dK kvs) ∧ All2 (KIs K F) ks kvs := by
  unfold dcOf at h
  split at h
  · rename_i m
    cases h
    obtain ⟨_, kvs, q1, q2⟩ := at0.mem a _ m
    exact ⟨kvs, .inl q1, q2⟩
  · rename_i m
    cases h
    obtain ⟨_, q1, q2⟩ := at0.mem a _ m
    exact ⟨_, .inr ⟨_, q1⟩, q2⟩
  · cases h
section
variable {X : Cx} {a b c o i : Expr} {wa wb wc wo wi we : WE} {pos : Pos}
theorem pd_dgetL (hu : X.A.units + 1 < cLine) (ha : PD X a wa) (hb : PD X b wb) (hs : NoSl b := by exact fun _ _ => rfl) : PD X (.Subscript a b pos) (wOp gDGetL wa wb) := by
  refine pe_imp (pe_dget hu ha hb hs) fun st H Q ⟨F, dl, M, R, so, at0, hw, po⟩ => ?_
  refine tD_to so at0 hw fun x F1 H1 p M1 h1 e1 so1 at1 i1 => ?_
  refine tD_to so1 at1 h1 fun y F2 H2 q M2 h2 e2 so2 at2 i2 => ?_
  unfold gDGetL at h2
  split at h2
  · rename_i ad
    obtain ⟨ks, k, r, m, hk, hv, hR⟩ := h2
    have e : x = .ref ad := i1
    subst e
    obtain ⟨kvs, q1, q2⟩ := dcOf_at at2 m
    obtain ⟨v, z1, z2⟩ := (valS_at (k := k) q2).1 r hv
    refine ⟨ad, v, rfl, ?_, po _ F2 H2 _ M2 hR (e1.trans e2) z2⟩
    rw [keyS_at i2 hk, ← z1]
    rcases q1 with q1 | ⟨o, q1⟩
    · exact DGet.k q1
    · exact .inl ⟨kvs, _, .inr ⟨o, q1⟩, rfl, rfl⟩
  · exact h2.elim
abbrev gMax2 : WCl := fun rs M R => match rs with
  | [.d (.int i), .d (.int j)] => R (.i (if j > i then j else i)) M
  | _ => False
theorem c_max2 (hc : X.calm = true) : CaD X (.builtin "max") gMax2 := caD_of fun F H M vs rs R Q at0 i1 h1 po => by
  unfold gMax2 at h1
  split at h1
  · obtain ⟨v, u, rfl, i2, i3⟩ := isAll2 i1
    exact ⟨_, call_max2 hc, _, _, by rw [dq_int i2, dq_int i3], po _ F H _ M h1 (Go.refl at0) (.int _)⟩
  · exact h1.elim
end
/-- a comprehension with a test: nothing changes -/
theorem lc_fl {g : WG} {wt : WT} {we : WE} {C : Mem → Prop} {dl : Env'} {R : List Sl → Mem → Prop} {M : Mem} {A : Type} (l : List A) (φ : A → Sl) (p : A → Bool) (f : A → PyData) (hC : C M) (hz : l.length ≤ sizeLine)
    (h : ∀ a ∈ l, ∀ (k1 : Sl → Mem → Prop) (k0 : Mem → Prop), (p a = true → k1 (.d (f a)) M) → (p a = false → k0 M) → g (φ a) dl M fun dl2 M2 => wt dl2 M2 fun k M3 => if k = true then we dl2 M3 k1 else k0 M3)
    (hR : R (((l.filter p).map f).map Sl.d) M) : lcGo g wt we C dl R (l.map φ) [] M := by
  refine lc_fm l φ (fun a => if p a = true then some (.d (f a)) else none) hC hz (fun a ha k1 k0 h1 h0 => h a ha k1 k0 (fun hp => h1 _ (by rw [if_pos hp])) fun hp => h0 (by rw [if_neg (by rw [hp]; exact Bool.false_ne_true)])) ?_
  have e : ∀ l : List A, l.filterMap (fun a => if p a = true then some (Sl.d (f a)) else none) = ((l.filter p).map f).map Sl.d := fun l => by
    induction l with
    | nil => rfl
    | cons a r ih =>
      by_cases hp : p a = true
      · rw [List.filterMap_cons_some (b := .d (f a)) (by rw [if_pos hp]), List.filter_cons_of_pos hp, ih]; rfl
      · rw [List.filterMap_cons_none (by rw [if_neg hp]), List.filter_cons_of_neg hp, ih]
  rw [e]; exact hR
theorem merge_new : ∀ (more acc : KS), ((acc ++ more).map (·.1)).Nodup → mergeS acc more = acc ++ more
  | [], acc, _ => by simp [mergeS]
  | a :: r, acc, h => by
    show mergeS (putS acc a.1 a.2) r = _
    have hn : a.1 ∉ acc.map (·.1) := fun z => by
      rw [List.map_append, List.map_cons] at h
      exact (List.nodup_append.mp h).2.2 a.1 z a.1 List.mem_cons_self rfl
    rw [putS_new hn, merge_new r (acc ++ [(a.1, a.2)]) (by simpa using h)]
    simp
end DL

set_option Elab.async false
set_option linter.all false
set_option maxRecDepth 100000
set_option maxHeartbeats 4000000
namespace DL
open PySem PySem.Spec L2
/-! ### a dict comprehension over a typed list: nothing changes -/
theorem putS_len (ks : KS) (k : Key) (v : Sl) : (putS ks k v).length ≤ ks.length + 1 := by
  unfold putS
  split
  · rw [List.length_map]; omega
  · rw [List.length_append]; simp
theorem dc_m {g : WG} {wt : WT} {wk wv : WE} {C : Mem → Prop} {dl : Env'} {R : KS → Mem → Prop} {M : Mem} {A : Type} (l : List A) (φ : A → Sl) (kf : A → Key) (vf : A → Sl) (hC : C M) (hz : l.length ≤ sizeLine)
    (h : ∀ a ∈ l, ∀ (k1 : Sl → Sl → Mem → Prop) (k0 : Mem → Prop), (∀ y, keyS y = some (kf a) → k1 y (vf a) M) → g (φ a) dl M fun dl2 M2 => wt dl2 M2 fun k M3 => if k = true then wk dl2 M3 fun y M4 => wv dl2 M4 fun z M5 => k1 y z M5 else k0 M3)
    (hR : R (mergeS [] (l.map fun a => (kf a, vf a))) M) : dcGo g wt wk wv C dl R (l.map φ) [] M := by
  suffices hs : ∀ (l' : List A) (acc : KS), (∀ a ∈ l', a ∈ l) → acc.length + l'.length ≤ sizeLine → R (mergeS acc (l'.map fun a => (kf a, vf a))) M → dcGo g wt wk wv C dl R (l'.map φ) acc M from hs l [] (fun _ h => h) (by simpa using hz) hR
  intro l'
  induction l' with
  | nil => intro acc _ _ hR; exact ⟨hC, hR⟩
  | cons a r ih =>
    intro acc hm hl hR
    rw [List.length_cons] at hl
    refine ⟨hC, h a (hm a List.mem_cons_self) (fun y z M5 => ∃ kk, keyS y = some kk ∧ acc.length < sizeLine ∧ dcGo g wt wk wv C dl R (r.map φ) (putS acc kk z) M5) _ fun y hy => ⟨kf a, hy, by omega, ?_⟩⟩
    exact ih _ (fun b hb => hm b (List.mem_cons_of_mem _ hb)) (by have := putS_len acc (kf a) (vf a); omega) hR
/-! ### numbers, each once, as they come; a dict of them -/
abbrev trueS (ns : List Int) : KS := ns.map fun n => (Sum.inl n, Sl.b true)
def uniq (acc : List Int) : List Int → List Int
  | [] => acc
  | n :: r => uniq (if n ∈ acc then acc else acc ++ [n]) r
theorem trueS_put (ns : List Int) (n : Int) : putS (trueS ns) (.inl n) (.b true) = trueS (if n ∈ ns then ns else ns ++ [n]) := by
  have hm : ((trueS ns).any fun kv => decide (kv.1 = .inl n)) = true ↔ n ∈ ns := by
    rw [List.any_map, List.any_eq_true]
    constructor
    · rintro ⟨x, hx, h⟩
      have : (Sum.inl x : Key) = .inl n := of_decide_eq_true h
      cases this; exact hx
    · intro h; exact ⟨n, h, decide_eq_true rfl⟩
  unfold putS
  by_cases h : n ∈ ns
  · rw [if_pos (hm.mpr h), if_pos h, List.map_map]
    refine List.map_congr_left fun x _ => ?_
    show (if (Sum.inl x : Key) = .inl n then _ else _) = _
    split <;> rfl
  · rw [if_neg (fun z => h (hm.mp z)), if_neg h]
    show _ = List.map _ (ns ++ [n])
    rw [List.map_append]; rfl
theorem trueS_merge : ∀ (ms ns : List Int), mergeS (trueS ns) (trueS ms) = trueS (uniq ns ms)
  | [], ns => rfl
  | m :: r, ns => by
    show mergeS (putS (trueS ns) (.inl m) (.b true)) (trueS r) = _
    rw [trueS_put, trueS_merge r]; rfl
theorem uniq_mem {x : Int} : ∀ {ms acc : List Int}, x ∈ uniq acc ms ↔ x ∈ acc ∨ x ∈ ms
  | [], acc => by simp [uniq]
  | m :: r, acc => by
    rw [uniq, uniq_mem]
    split
    · rename_i h
      constructor
      · rintro (a | a)
        · exact .inl a
        · exact .inr (List.mem_cons_of_mem _ a)
      · rintro (a | a)
        · exact .inl a
        · rcases List.mem_cons.mp a with rfl | a
          · exact .inl h
          · exact .inr a
    · simp [or_assoc]
theorem uniq_nd : ∀ {ms acc : List Int}, acc.Nodup → (uniq acc ms).Nodup
  | [], acc, h => h
  | m :: r, acc, h => by
    rw [uniq]
    split
    · exact uniq_nd h
    · rename_i hm
      exact uniq_nd (List.nodup_append.mpr ⟨h, by simp, fun a ha c hc e => by simp at hc; subst hc; subst e; exact hm ha⟩)
theorem uniq_len : ∀ {ms acc : List Int}, (uniq acc ms).length ≤ acc.length + ms.length
  | [], acc => by simp [uniq]
  | m :: r, acc => by
    rw [uniq, List.length_cons]
    split
    · have := uniq_len (ms := r) (acc := acc); omega
    · have := uniq_len (ms := r) (acc := acc ++ [m])
      rw [List.length_append, List.length_singleton] at this; omega
theorem uniq_uniq : ∀ {ms acc : List Int} (rs : List Int), uniq (uniq acc ms) rs = uniq acc (ms ++ rs)
  | [], acc, rs => rfl
  | m :: r, acc, rs => by rw [uniq, uniq_uniq, List.cons_append, uniq]
theorem uniq_uniq0 : ∀ (ms acc : List Int), uniq acc (uniq [] ms) = uniq acc ms := by
  suffices h : ∀ (ms acc : List Int) (b : List Int), uniq acc (uniq b ms) = uniq (uniq acc b) ms from fun ms acc => h ms acc []
  intro ms
  induction ms with
  | nil => intro acc b; rfl
  | cons m r ih =>
    intro acc b
    rw [uniq, ih, uniq]
    congr 1
    by_cases h : m ∈ b
    · rw [if_pos h, if_pos (uniq_mem.mpr (.inr h))]
    · rw [if_neg h, ← uniq_uniq]; rfl
theorem keysI_true : ∀ ns : List Int, keysI (trueS ns) = some ns
  | [] => rfl
  | n :: r => by show (keysI (trueS r)).map (n :: ·) = _; rw [keysI_true r]; rfl
theorem uniq_id : ∀ {ms acc : List Int}, (acc ++ ms).Nodup → uniq acc ms = acc ++ ms
  | [], acc, _ => by simp [uniq]
  | m :: r, acc, h => by
    have hm : m ∉ acc := fun z => (List.nodup_append.mp h).2.2 m z m List.mem_cons_self rfl
    rw [uniq, if_neg hm, uniq_id (by simpa using h)]; simp
end DL

set_option Elab.async false
set_option linter.all false
namespace DL
open PySem PySem.Spec L2
theorem lk1 {o : Option MO} {od : Obj} {kvs : List (Key × V)} {ks : KS} {k : Obj → List (Key × V) → KS → Prop} (h : o = some (.lok od kvs ks)) (hk : k od kvs ks) : ∃ a b c, o = some (.lok a b c) ∧ k a b c := ⟨od, kvs, ks, h, hk⟩
end DL
namespace DL
open PySem PySem.Spec L2
open Evl (Ex)
/-! ### a, b, .. = x, y, .. by way of a tuple (a name is a cell) -/
section
variable {X : Cx} {pos pt pt2 : Pos} {es ts : List Expr} {kt k2 n : Nat} {wa : WA} {ws : WGs}
abbrev wParT (n : Nat) (wa : WA) (ws : WGs) : WS := fun P dl M => wa dl M fun rs M1 => rs.length = n ∧ ws rs dl M1 P.nx
theorem pds_parT (hc : X.calm = true) (ha : PDA X es wa) (hg : PDGs X ts ws) (hn : (assignEach ts X.env).length = n := by rfl) (hst : (assignEach ts X.env).findIdx? (·.1) = none := by rfl) (hz : n ≤ sizeLine := by decide)
    (hs : swapsWithSole [.Tuple ts kt pt] (.Tuple es k2 pt2) pos.line X.env = pure false := by rfl) (hw : swappedStores [.Tuple ts kt pt] (.Tuple es k2 pt2) X.env = pure none := by rfl)
    (h1 : (assignEach [.Tuple ts kt pt] X.env).map (·.2) = [assign (.Tuple ts kt pt) X.env] := by rfl) : PDS X (.Assign [.Tuple ts kt pt] (.Tuple es k2 pt2) pos) (wParT n wa ws) :=
  ps_imp (ps_asg (pe_tupF ha) (pg_tup hc hg hn hst) hs hw h1) fun D st H ⟨F, dl, M, P, so, at0, hw, po⟩ =>
    tDA_to so at0 hw fun vs F1 H1 rs M1 h1 g1 so1 at1 i1 => by
      obtain ⟨hl, h1⟩ := h1
      have e := i1.length
      refine ⟨by omega, fun p o ho hp => ⟨p, vs, rfl, .inl (.inr ⟨o, upd_same⟩), by omega, ?_⟩⟩
      have at2 : At X.K F1 M1 (upd H1 p (.frz o (.tup vs))) := at1.hid (at1.freeF hp) (at1.freeM hp)
      have g2 : Go X.K F1 M1 H1 F1 M1 (upd H1 p (.frz o (.tup vs))) := ⟨Ex.refl _, at2, fun a o z1 z2 z3 => ⟨by rw [upd_ne (ne_of_none z1 hp)]; exact z1, z2, z3⟩⟩
      exact ⟨F1, dl, M1, rs, _, so1, at2, i1, h1, po.nx.mono (g1.trans g2)⟩
end
end DL

set_option Elab.async false
set_option linter.all false
set_option maxRecDepth 100000
set_option maxHeartbeats 4000000
/-! ED: d.pop(k, x), xs.index(y), xs.insert(i, y), stars in displays, raise (never met), for over d.items(). -/
namespace DL
open PySem PySem.Spec L2
open Evl (Ex)
def dropS (ks : KS) (k : Key) : KS := ks.filter fun kv => decide (kv.1 ≠ k)
theorem dropS_at {K : PySem.W.Frag} {F : Hp} {k : Key} : ∀ {ks : KS} {kvs : List (Key × V)}, All2 (KIs K F) ks kvs → All2 (KIs K F) (dropS ks k) (dropK kvs k)
  | _, _, .nil => .nil
  | a :: as, b :: bs, .cons h t => by
    have ih := dropS_at (k := k) t
    have e : a.1 = b.1 := h.1
    unfold dropS dropK at ih ⊢
    rw [List.filter_cons, List.filter_cons, e]
    split
    · exact .cons h ih
    · exact ih
section
variable {X : Cx} {a b c o e f : Expr} {wa wb wc wo we wx : WE} {pos apos cpos : Pos}
/-! ### d.pop(k, x) -/
abbrev wDPop2 (wo we wx : WE) : WE := fun dl M R => wo dl M fun p M1 => match p with
  | .v (.ref a) => (∃ ks, M1 a = some (.dic ks)) ∧ we dl M1 fun q M2 => wx dl M2 fun z M3 => ∃ ks k r, M3 a = some (.dic ks) ∧ keyS q = some k ∧ some ((valS ks k).getD z) = some r ∧ R r (upM M3 a (.dic (dropS ks k)))
  | _ => False
theorem dropS_none {ks : KS} {k : Key} (h : valS ks k = none) : dropS ks k = ks := by
  unfold dropS
  refine List.filter_eq_self.mpr fun kv hm => ?_
  refine decide_eq_true fun e => ?_
  unfold valS at h
  rw [Option.map_eq_none_iff, List.find?_eq_none] at h
  exact h kv hm (decide_eq_true e)
theorem pd_dpop2 (ho : PD X o wo) (he : PD X e we) (hf : PD X f wx) (hbase : attributeBase o "pop" X.env (eval o X.env) = eval o X.env := by rfl)
    (few : ((backTo cpos (starEach [e, f] X.env)).all (fun x => !x.1) && (backToKw cpos (keywordEach [] X.env)).all (fun x => x.1.isSome) && decide (([e, f] : List Expr).length + ([] : List Keyword).length + (if ([] : List Keyword).isEmpty then 0 else 1) < 30)) = true := by rfl)
    (line : (apos.endLine == cpos.line) = true := by rfl) (trees : backTo cpos (starEach [e, f] X.env) = [(false, eval e X.env), (false, eval f X.env)] := by rfl) : PD X (.Call (.Attribute o "pop" apos) [e, f] [] cpos) (wDPop2 wo we wx) := by
  refine pe_imp (pe_dpop2 ho he hf ⟨hbase, few, line, trees⟩) fun st H Q ⟨F, dl, M, R, so, at0, hw, po⟩ => ?_
  refine tD_to so at0 hw fun x F1 H1 p M1 h1 g1 so1 at1 i1 => ?_
  split at h1
  · rename_i ad
    obtain ⟨⟨ks, m⟩, h1⟩ := h1
    have ex : x = .ref ad := i1
    subst ex
    obtain ⟨_, kvs, q1, _⟩ := at1.mem ad _ m
    refine ⟨ad, rfl, .inl ⟨kvs, .inl q1⟩, ?_⟩
    refine tD_to so1 at1 h1 fun y F2 H2 q M2 h2 g2 so2 at2 i2 => ?_
    refine tD_to so2 at2 h2 fun z F3 H3 r M3 h3 g3 so3 at3 i3 => ?_
    obtain ⟨ks, k, r, m, hk, hv, hR⟩ := h3
    obtain ⟨_, kvs, q1, q2⟩ := at3.mem ad _ m
    obtain ⟨z1, z2⟩ := valS_at (k := k) q2
    refine ⟨kvs, k, q1, keyS_at (is_mono g3.ex i2) hk, fun v hvv => ?_, fun hvn => ?_⟩
    · cases hv
      cases ev : valS ks k with
      | none => rw [z2 ev] at hvv; cases hvv
      | some r =>
        rw [ev] at hR
        obtain ⟨v', e1, e2⟩ := z1 r ev
        rw [e1] at hvv
        cases hvv
        exact po _ F3 _ _ _ hR (((g1.trans g2).trans g3).trans (Go.put at3 m ⟨_, upd_same, dropS_at q2⟩)) e2
    · cases hv
      cases ev : valS ks k with
      | none =>
        rw [ev, dropS_none ev, upM_self m] at hR
        exact po _ F3 _ _ _ hR ((g1.trans g2).trans g3) i3
      | some r => obtain ⟨v', e1, e2⟩ := z1 r ev; rw [e1] at hvn; cases hvn
  · exact h1.elim
/-! ### xs.index(y), numbers; xs.insert(i, y) -/
def ixOf (ns : List Int) (n : Int) : Option Nat := ns.findIdx? fun m => decide (m = n)
abbrev gIndex : Sl → List Sl → Mem → RK → Prop := fun r rs M R => match rs with
  | [.d (.int n)] => ∃ ss ns j, lsOf M r = some ss ∧ intsOf ss = some ns ∧ ixOf ns n = some j ∧ R (.i (j : Int)) M
  | _ => False
theorem pd_index (ho : PD X o wo) {wa : WA} (ha : PDA X [e] wa) (hbase : attributeBase o "index" X.env (eval o X.env) = eval o X.env := by rfl)
    (hfew : ((backTo cpos (starEach [e] X.env)).all (fun x => !x.1) && (backToKw cpos (keywordEach [] X.env)).all (fun x => x.1.isSome) && decide ([e].length + ([] : List Keyword).length + (if ([] : List Keyword).isEmpty then 0 else 1) < 30)) = true := by rfl)
    (hline : (apos.endLine == cpos.line) = true := by rfl) (hs : starEach [e] X.env = (false, eval e X.env) :: starEach [] X.env := by rfl) : PD X (.Call (.Attribute o "index" apos) [e] [] cpos) (wLMeth gIndex wo wa) := by
  refine pe_imp (pe_bm PySem.F.plainAttrs_list PySem.F.slot_list_index PySem.F.type_list_index mt_index ho ha hbase hfew hline hs rfl) fun st H Q h => tBM_of (fun F H M v vs x rs R Q at0 i1 i2 hg po => ?_) h
  unfold gIndex at hg
  split at hg
  · rename_i n
    obtain ⟨ss, ns, j, e1, e2, e3, hR⟩ := hg
    obtain ⟨u, rfl, i3⟩ := isAll1 i2
    obtain ⟨a, us, rfl, q1, q2⟩ := lsOf_at at0 i1 e1
    have e4 := intsOf_at e2 q2
    subst e4
    rw [dq_int i3]
    obtain ⟨hj, h1, h2⟩ := List.findIdx?_eq_some_iff_getElem.mp e3
    refine ⟨a, _, _, j, .int ns[j], rfl, rfl, SqL.of q1, rfl, ?_, ?_, ?_, fun m z hm hz => ?_, po _ F H _ M hR (Go.refl at0) (.int _)⟩
    · rw [List.all_map]; exact List.all_eq_true.mpr fun _ _ => rfl
    · rw [List.getElem?_map, List.getElem?_eq_getElem hj]; rfl
    · show (ns[j] == n) = true
      have := of_decide_eq_true h1
      simp [this]
    · rw [List.getElem?_map] at hz
      obtain ⟨y, hy, rfl⟩ := Option.map_eq_some_iff.mp hz
      obtain ⟨hl, rfl⟩ := List.getElem?_eq_some_iff.mp hy
      have := h2 m hm
      show (ns[m] == n) = false
      simpa using this
  · exact hg.elim
abbrev gInsert : Sl → List Sl → Mem → RK → Prop := fun r rs M R => match r, rs with
  | .v (.ref p), [.d (.int i), x] => ∃ ss, M p = some (.lst ss) ∧ ss.length < sizeLine ∧ 0 ≤ i ∧ i < 1073741824 ∧ R .n (upM M p (.lst (ss.take i.toNat ++ [x] ++ ss.drop i.toNat)))
  | _, _ => False
theorem pd_insert (ho : PD X o wo) {wa : WA} (ha : PDA X [e, f] wa) (hbase : attributeBase o "insert" X.env (eval o X.env) = eval o X.env := by rfl)
    (hfew : ((backTo cpos (starEach [e, f] X.env)).all (fun x => !x.1) && (backToKw cpos (keywordEach [] X.env)).all (fun x => x.1.isSome) && decide ([e, f].length + ([] : List Keyword).length + (if ([] : List Keyword).isEmpty then 0 else 1) < 30)) = true := by rfl)
    (hline : (apos.endLine == cpos.line) = true := by rfl) (hs : starEach [e, f] X.env = (false, eval e X.env) :: starEach [f] X.env := by rfl) (hp : (backTo cpos (starEach [f] X.env)).any (·.1) = false := by rfl) : PD X (.Call (.Attribute o "insert" apos) [e, f] [] cpos) (wLMeth gInsert wo wa) := by
  refine pe_imp (pe_bm PySem.F.plainAttrs_list PySem.F.slot_list_insert PySem.F.type_list_insert mt_insert ho ha hbase hfew hline hs hp) fun st H Q h => tBM_of (fun F H M v vs x rs R Q at0 i1 i2 hg po => ?_) h
  unfold gInsert at hg
  split at hg
  · rename_i p i y
    obtain ⟨ss, m, hz, h0, h1, hR⟩ := hg
    obtain ⟨u, w, rfl, i3, i4⟩ := isAll2 i2
    have i5 : v = .ref p := i1
    subst i5
    obtain ⟨f, us, q1, q2⟩ := at0.mem p _ m
    rw [dq_int i3]
    exact ⟨p, us, i, w, rfl, rfl, q1, by rw [← q2.length]; exact hz, h0, by omega, po _ F _ _ _ hR (Go.put at0 m ⟨_, upd_same, ((q2.take _).append (.cons i4 .nil)).append (q2.drop _)⟩) .non⟩
  · exact hg.elim
/-! ### *e in a display -/
abbrev wStar (wa : WE) (wr : WA) : WA := fun dl M R => wa dl M fun r M1 => ∃ ss ds, sqOf M1 r = some ss ∧ datOf ss = some ds ∧ wr dl M1 fun rs M2 => R (ds.map Sl.d ++ rs) M2
theorem pda_star {es : List Expr} {wr : WA} {p : Pos} (ha : PD X e we) (hr : PDA X es wr) (hs : starEach (.Starred e p :: es) X.env = (true, eval e X.env) :: starEach es X.env := by rfl) : PDA X (.Starred e p :: es) (wStar we wr) := by
  refine pa_imp (StX.pa_star ha hr hs) fun st H Q ⟨F, dl, M, R, so, at0, hw, po⟩ => ?_
  refine tD_to so at0 hw fun x F1 H1 r M1 h1 g1 so1 at1 i1 => ?_
  obtain ⟨ss, ds, e1, e2, h1⟩ := h1
  obtain ⟨a, vs, rfl, q1, q2⟩ := sqOf_at at1 i1 e1
  refine ⟨a, vs, rfl, q1.symm, ?_⟩
  refine tDA_to so1 at1 h1 fun us F2 H2 rs M2 h2 g2 so2 at2 i2 => ?_
  refine po _ F2 H2 _ M2 h2 (g1.trans g2) ?_
  rw [datOf_eq e2] at q2
  exact (isAll_mono g2.ex q2).append i2
/-! ### raise: not met -/
theorem pds_raise {ex ca : Option Expr} : PDS X (.Raise ex ca pos) (fun _ _ _ => False) := ⟨fun pins s σ H D I ⟨F, dl, M, P, so, at0, hw, po⟩ => hw.elim⟩
end
/-! ### x += n, x -= n, numbers -/
section
variable {X : Cx} {e : Expr} {we : WE} {pos pos' : Pos}
abbrev wAug (i : Nat) (f : Int → Int → Int) (we : WE) : WS := fun P dl M => ∃ r, dl[i]? = some (some r) ∧ match r with
  | .d (.int a) => we dl M fun q M1 => match q with
    | .d (.int b) => P.nx (dl.set i (some (.i (f a b)))) M1
    | _ => False
  | _ => False
theorem pds_augI (i : Nat) {x : Str} {op : Operator} {ti : TIp} {f : Int → Int → Int} (hN : X.N.Nodup) (he : PD X e we) (ho : PIp X op ti) (hti : ∀ a b H (Q : VK), Q (.int (f a b)) H → ti (.int a) (.int b) H Q) (hi : X.N[i]? = some x := by rfl) (hx : Loc X.env.scope x := by first | exact .inl rfl | exact .inr rfl)
    (hf : X.fn x = true ∨ X.env.scope.names.lookup x = some .local := by first | exact .inl rfl | exact .inr rfl | assumption) : PDS X (.AugAssign (.Name x pos') op e pos) (wAug i f we) :=
  ps_imp (ps_aug hN hi hx he ho hf) fun D st H ⟨F, dl, M, P, so, at0, hw, po⟩ => by
    obtain ⟨r, e1, hw⟩ := hw
    obtain ⟨u, e2, i2⟩ := sok_get so e1
    split at hw
    · rename_i a
      rw [dq_int i2] at e2
      refine ⟨_, e2, ?_⟩
      refine tD_to so at0 hw fun v F1 H1 q M1 h1 g1 so1 at1 i1 => ?_
      split at h1
      · rename_i b
        rw [dq_int i1]
        exact hti _ _ _ _ (po.nx _ F1 H1 _ M1 h1 g1 (sok_set so1 (.int _)))
      · exact h1.elim
    · exact hw.elim
end
/-! ### a, b, .. = a list -/
section
variable {X : Cx} {pos : Pos}
abbrev gLst' (n : Nat) (ws : WGs) : WG := fun r dl M R => ∃ ss, lsOf M r = some ss ∧ ss.length = n ∧ ws ss dl M R
theorem pdg_lst {es : List Expr} {k n : Nat} {ws : WGs} (hc : X.calm = true) (h : PDGs X es ws) (hn : (assignEach es X.env).length = n := by rfl) (hst : (assignEach es X.env).findIdx? (·.1) = none := by rfl) : PDG X (.Tuple es k pos) (gLst' n ws) :=
  pg_imp (pg_lst hc h hn hst) fun v st H Q ⟨F, dl, M, r, R, so, at0, i1, hw, po⟩ => by
    obtain ⟨ss, e, hl, hw⟩ := hw
    obtain ⟨a, vs, rfl, h1, h2⟩ := lsOf_at at0 i1 e
    exact ⟨a, vs, rfl, SqL.of h1, by rw [← h2.length]; exact hl, F, dl, M, ss, _, so, at0, h2, hw, po⟩
end
/-! ### over the items -/
section
variable {X : Cx} {e : Expr} {we : WE} {apos cpos tpos : Pos} {elts : List Expr} {kk : Nat}
def kDat : Key → PyData
  | .inl i => .int i
  | .inr s => .str s
theorem kDat_is {K : PySem.W.Frag} {F : Hp} : ∀ k : Key, Dq K F (kV k) (kDat k)
  | .inl i => .int i
  | .inr s => .str s
def itmS (ks : KS) (ds : List PyData) : List Sl := (ks.zip ds).map fun p => Sl.w [kDat p.1.1, p.2]
abbrev wiItems (we : WE) : WI := fun dl M T => we dl M fun r M1 => match r with
  | .v (.ref p) => ∃ od kvs ks ds, M1 p = some (.lok od kvs ks) ∧ datOf (ks.map (·.2)) = some ds ∧ T (itmS ks ds) (fun M => M p = some (.lok od kvs ks)) M1
  | _ => False
theorem wk_items {K : PySem.W.Frag} {F0 : Hp} {p : Addr} {od : Obj} {kvs : List (Key × V)} {ks : KS} {ds : List PyData} (hd : datOf (ks.map (·.2)) = some ds) : Wk K F0 (fun M => M p = some (.lok od kvs ks)) (Iti p od kvs) (itmS ks ds) := by
  have e0 := datOf_eq hd
  have hl : ds.length = ks.length := by have := congrArg List.length e0; simpa using this.symm
  have hn : (itmS ks ds).length = ks.length := by unfold itmS; rw [List.length_map, List.length_zip, hl, Nat.min_self]
  refine ⟨fun F M H i e at0 c hi => ?_, fun F M H i x H' r e at0 c y hr => ?_, fun F M H e at0 c => ?_⟩
  · obtain ⟨_, h1, h2⟩ := at0.mem p _ c
    rw [hn] at hi
    exact ⟨h1, by rw [← h2.length]; exact hi⟩
  · obtain ⟨_, h1, h2⟩ := at0.mem p _ c
    obtain ⟨Tp, k, v, hk, rfl, hT, rfl⟩ := y
    unfold itmS at hr
    rw [List.getElem?_map] at hr
    obtain ⟨q, hq, rfl⟩ := Option.map_eq_some_iff.mp hr
    rw [List.getElem?_zip_eq_some] at hq
    obtain ⟨kv, h3, h4⟩ := h2.get hq.1
    rw [hk] at h3
    cases h3
    have g := Go.laid at0 (o := .tup [kV k, v]) hT
    refine ⟨_, g, _, _, rfl, .inl (.inl upd_same), ?_⟩
    have e9 : q.1.1 = k := h4.1
    have h5 : q.1.2 = Sl.d q.2 := by
      have := congrArg (·[i]?) e0
      simp only [List.getElem?_map, hq.1, hq.2, Option.map_some] at this
      exact Option.some.inj this
    have h6 := h4.2
    rw [h5] at h6
    rw [e9]
    exact .cons (kDat_is _) (.cons (dq_mono g.ex h6) .nil)
  · obtain ⟨_, h1, h2⟩ := at0.mem p _ c
    exact ⟨h1, by rw [hn, h2.length]; exact Nat.le_refl _⟩
theorem pdi_items (he : PD X e we) (hbase : attributeBase e "items" X.env (eval e X.env) = eval e X.env := by rfl) (hline : (apos.endLine == cpos.line) = true := by rfl) : PDI X (.Tuple elts kk tpos) (.Call (.Attribute e "items" apos) [] [] cpos) (wiItems we) :=
  pi_imp (pi_items he hbase hline) fun st H Q ⟨F, dl, M, T, so, at0, hw, po⟩ => tD_to so at0 hw fun x F1 H1 r M1 h1 g1 so1 at1 i1 => by
    split at h1
    · rename_i p
      obtain ⟨od, kvs, ks, ds, m, hd, hT⟩ := h1
      have ex : x = .ref p := i1
      obtain ⟨_, h2, h3⟩ := at1.mem p _ m
      exact ⟨p, od, kvs, ex, h2, po F1 M1 H1 _ _ _ hT g1 (wk_items hd)⟩
    · exact h1.elim
end
end DL

set_option Elab.async false
set_option linter.all false
set_option maxRecDepth 100000
set_option maxHeartbeats 4000000
/-! EE: for a, b in zip(a text, a tuple). -/
namespace DL
open PySem PySem.Spec PyProof.Rows L2
/-- the text's signs and the tuple's items, in new pairs -/
def ItzS (K : PySem.W.Frag) (x : Str) (b : Addr) : It :=
  ⟨fun i H => i < x.cps.size ∧ ∃ (ys : List V) (y : V), SqT K H b ys ∧ ys[i]? = some y,
    fun i H v H' => ∃ T c y, v = .ref T ∧ H T = none ∧ x.cps[i]? = some c ∧ H' = upd H T (.tup [.str ⟨#[c]⟩, y]) ∧ ∀ ys, SqT K H b ys → ys[i]? = some y,
    fun i H => ∃ ys : List V, SqT K H b ys ∧ i = min x.cps.size ys.length⟩
theorem turn_zipS {P : Program} {w : World} {K : PySem.W.Frag} {elts : List Expr} {kk : Nat} {tpos : Pos} {x : Str} {t : Tok} {b z TI TO i1 i2 : Addr} (hne : b ≠ i2) (D : ZipSep2 z TI TO i1 i2 [i1] [i2, b]) :
    Turn P w K (.Tuple elts kk tpos) (ItzS K x b) [z, TI, TO, i1, i2] z (fun i h => IsZip h z TI TO .none ∧ IsTupOf2 h TI (.ref i1) (.ref i2) ∧ (∃ x y, IsTupOf2 h TO x y) ∧ h.IsStrIter i1 (strIterType x) x t i ∧ h.IsTupleIter i2 b i) where
  mem := by simp
  obj := fun i h st c hc => by
    obtain ⟨hz, hTI, ⟨x, y, hTO⟩, ⟨o1, e1, _, d1⟩, ⟨o2, e2, _, d2⟩⟩ := st
    have e' : c = z ∨ c = TI ∨ c = TO ∨ c = i1 ∨ c = i2 := by simpa using hc
    rcases e' with q | q | q | q | q
    · rw [q]; exact ⟨_, hz, fun v q => nomatch q⟩
    · rw [q]; exact ⟨_, hTI, fun v q => nomatch q⟩
    · rw [q]; exact ⟨_, hTO, fun v q => nomatch q⟩
    · rw [q]; exact ⟨o1, e1, fun v q => by rw [d1] at q; cases q⟩
    · rw [q]; exact ⟨o2, e2, fun v q => by rw [d2] at q; cases q⟩
  keep := fun i h h' st k => by
    obtain ⟨hz, hTI, ⟨x, y, hTO⟩, ⟨o1, e1, r1⟩, h2⟩ := st
    exact ⟨k z (by simp) _ hz, k TI (by simp) _ hTI, ⟨x, y, k TO (by simp) _ hTO⟩, ⟨o1, k i1 (by simp) _ e1, r1⟩, h2.at fun o q => k i2 (by simp) o q⟩
  item := by
    intro X hP hw hK hc i pins s σ H E I hf st hg
    subst hP hw hK
    obtain ⟨hz, hTI, ⟨x0, y0, hTO⟩, h1, h2⟩ := st
    obtain ⟨hi, ys, y, hqy, hy⟩ := hg
    obtain ⟨its2, rv2, p2, _⟩ := I.tuple hqy
    obtain ⟨u2, hu2, ru2⟩ := rv2.get hy
    have hzl : z < s.heap.objs.size := Heap.lt_size hz
    have hh : X.A.in1.handled = none := by have := I.ok.hd hc; simp [this]
    have D1 := Draws.text (prog := X.prog) (w := X.w) hh i1 x t
    have D2 := Draws.tuple (prog := X.prog) (w := X.w) hh i2 b hne its2.toArray
    have lt2 : i < its2.toArray.size := by
      rw [List.size_toArray]
      exact (List.getElem?_eq_some_iff.mp hu2).1
    refine wpAny_pyNext_zipD2_item D D1 D2 hz hTI hTO h1 ⟨h2, p2⟩ hi lt2 fun v1 v2 h' tk y1 y2 z' TO' j1 j2 hT hsz hk => ?_
    obtain ⟨c, u, hc1, rfl⟩ := y1
    have e2 : v2 = u2 := by
      have q : its2[i]? = some v2 := by simpa using y2
      rw [hu2] at q
      exact (Option.some.inj q).symm
    subst e2
    refine ⟨_, rfl, wpAny_letOwnedTupleGo_zip (s := { s with heap := h', toks := tk }) z' fun h'' z'' sb => ?_⟩
    have hT2 : h''.get? s.heap.objs.size = some { cls := .type "tuple", data := .seq #[.str ⟨#[c]⟩ u, v2] } := (sb.2 _ (Nat.ne_of_gt hzl)).trans hT
    have new : ObjOk X.prog X.w (upd H s.heap.objs.size (.tup [.str ⟨#[c]⟩, y])) h'' s.heap.objs.size (.tup [.str ⟨#[c]⟩, y]) :=
      ⟨by show 2 ≤ sizeLine; decide, [.str ⟨#[c]⟩ u, v2], .cons ⟨u, rfl⟩ (.cons ru2 .nil), ⟨_, hT2, rfl, _, rfl⟩⟩
    have I1 : Inv X pins σ (upd H s.heap.objs.size (.tup [.str ⟨#[c]⟩, y])) { s with heap := h'', toks := tk } :=
      I.turnedNew (t' := tk) (ch := [z, TI, TO, i1, i2]) (fun c o hb q => (sb.2 c (fun q' => hb (by simp [q']))).trans (hk c o (fun q' => hb (by simp [q'])) (fun q' => hb (by simp [q'])) (fun q' => hb (by simp [q'])) (fun q' => hb (by simp [q'])) q)) hf (Nat.le_refl _) new
    obtain ⟨o1, e1, r1⟩ := j1
    refine ⟨.ref s.heap.objs.size, _, I1, rfl, ⟨_, c, y, rfl, I.hok.fresh (Nat.le_refl _), hc1, rfl, fun l hl => by rw [I.tuple_inj hl hqy]; exact hy⟩, ⟨z'', ?_, ⟨.str ⟨#[c]⟩ u, v2, ?_⟩, ⟨o1, ?_, r1⟩, ?_⟩, fun c hcm => ?_⟩
    · exact (sb.2 _ D.TIz).trans (hk _ _ D.TIz D.TITO D.TIi1 D.TIi2 hTI)
    · exact (sb.2 _ D.TOz).trans TO'
    · exact (sb.2 _ D.zi1.symm).trans e1
    · exact j2.1.at fun o q => (sb.2 _ D.zi2.symm).trans q
    · have hlt : c < s.heap.objs.size := by
        have e' : c = z ∨ c = TI ∨ c = TO ∨ c = i1 ∨ c = i2 := by simpa using hcm
        rcases e' with q | q | q | q | q
        · rw [q]; exact hzl
        · rw [q]; exact Heap.lt_size hTI
        · rw [q]; exact Heap.lt_size hTO
        · rw [q]; obtain ⟨_, e1, _⟩ := h1; exact Heap.lt_size e1
        · rw [q]; obtain ⟨_, e2, _⟩ := h2; exact Heap.lt_size e2
      rw [upd_ne (Nat.ne_of_lt hlt)]
      exact (hf c hcm).1
  done := by
    intro X hP hw hK hc i pins s σ H E I hf st hg
    subst hP hw hK
    obtain ⟨hz, hTI, ⟨x0, y0, hTO⟩, h1, h2⟩ := st
    obtain ⟨ys, hqy, hend⟩ := hg
    obtain ⟨its2, rv2, p2, _⟩ := I.tuple hqy
    have l2 := rv2.length
    have hh : X.A.in1.handled = none := by have := I.ok.hd hc; simp [this]
    have D1 := Draws.text (prog := X.prog) (w := X.w) hh i1 x t
    have D2 := Draws.tuple (prog := X.prog) (w := X.w) hh i2 b hne its2.toArray
    have a1 : i ≤ x.cps.size := by omega
    have a0 : its2.toArray.size = its2.length := List.size_toArray ..
    have a2 : i ≤ its2.toArray.size := by omega
    have a3 : i = x.cps.size ∨ i = its2.toArray.size := by omega
    exact wpAny_pyNext_zipD2_end D D1 D2 hz hTI hTO h1 ⟨h2, p2⟩ a1 a2 a3 fun h' tk hk => ⟨rfl, I.turnedL (t' := tk) (ch := [z, TI, TO, i1, i2]) (fun c o hb q =>
      hk c o (fun q' => hb (by simp [q'])) (fun q' => hb (by simp [q'])) (fun q' => hb (by simp [q'])) (fun q' => hb (by simp [q'])) q) hf⟩
  self := fun A i s Q E st h => wpAny_pyIter_zip st.1 h
abbrev zS1 (h : Heap) (x : Str) (t : Tok) : Heap := h.push { cls := .type (strIterType x), data := .fields #[.str x t, .int 0 0] }
abbrev zS2 (h : Heap) (x : Str) (t : Tok) (l2 : Addr) : Heap := (zS1 h x t).push { cls := .type "tuple_iterator", data := .fields #[.ref l2, .int 0 0] }
abbrev zS3 (h : Heap) (x : Str) (t : Tok) (l2 : Addr) : Heap := (zS2 h x t l2).push { cls := .type "tuple", data := .seq #[.ref h.objs.size, .ref (zS1 h x t).objs.size] }
abbrev zS4 (h : Heap) (x : Str) (t : Tok) (l2 : Addr) : Heap := (zS3 h x t l2).push { cls := .type "tuple", data := .seq #[.none, .none] }
abbrev zS5 (h : Heap) (x : Str) (t : Tok) (l2 : Addr) : Heap := (zS4 h x t l2).push { cls := .type "zip", data := .fields #[.none, .bool false, .bool false, .ref (zS2 h x t l2).objs.size, .ref (zS3 h x t l2).objs.size] }
theorem meets_zipS (x : Str) (t : Tok) (l2 : Addr) (ys : Array Value) :
    Meets (Builtin.«zip.__new__» ⟨[.type "zip", .str x t, .ref l2], []⟩) (fun _ R s => s.heap.IsTuple l2 ys ∧
      R (.ok (.ret (.ref (zS4 s.heap x t l2).objs.size))) { s with heap := zS5 s.heap x t l2 }) :=
  .of_wp fun prog w A R s h => by
    obtain ⟨hp, g, d, tk, os⟩ := s; obtain ⟨hl2, h⟩ := h
    have hsub := sub_zip
    have hL2 : Heap.IsTuple (Shared.heap ⟨hp.push { cls := .type (strIterType x), data := .fields #[.str x t, .int 0 0] }, g, d, tk, os⟩) l2 ys := Heap.IsTuple.push hl2 _
    wp_walk using wpAny_pyIter_strU, wpAny_pyIter_tuple hL2
    exact ⟨_, rfl, h⟩
section
variable {prog : Program} {w : World} {A : Around} {E : Value → Shared → Prop} {s : Shared}
theorem call_zipS {x : Str} {t : Tok} {l2 : Addr} {ys : Array Value} {Q : Value → Shared → Prop} (hl2 : s.heap.IsTuple l2 ys)
    (h : ∀ h', IsZip h' (s.heap.objs.size + 4) (s.heap.objs.size + 2) (s.heap.objs.size + 3) .none → IsTupOf2 h' (s.heap.objs.size + 2) (.ref s.heap.objs.size) (.ref (s.heap.objs.size + 1)) →
      IsTupOf2 h' (s.heap.objs.size + 3) .none .none → h'.IsStrIter s.heap.objs.size (strIterType x) x t 0 → h'.IsTupleIter (s.heap.objs.size + 1) l2 0 → h'.objs.size = s.heap.objs.size + 5 →
      (∀ c o, s.heap.get? c = some o → h'.get? c = some o) → Q (.ref (s.heap.objs.size + 4)) { s with heap := h' }) :
    wpAny (model prog w) A (call (.type "zip") [.str x t, .ref l2]) Q E s := by
  refine callType_new F.called_zip (by decide) (F.typeCall_zip_2 _ _) (F.newCall_zip_2 _ _) (fun obj => F.args_object_init_3 obj _ _) F.entry_zip_new
    (meets_zipS x t l2 ys) ⟨hl2, ?_⟩
  have z1 : (zS1 s.heap x t).objs.size = s.heap.objs.size + 1 := Heap.size_push ..
  have z2 : (zS2 s.heap x t l2).objs.size = s.heap.objs.size + 2 := by rw [Heap.size_push, z1]
  have z3 : (zS3 s.heap x t l2).objs.size = s.heap.objs.size + 3 := by rw [Heap.size_push, z2]
  have z4 : (zS4 s.heap x t l2).objs.size = s.heap.objs.size + 4 := by rw [Heap.size_push, z3]
  have z5 : (zS5 s.heap x t l2).objs.size = s.heap.objs.size + 5 := by rw [Heap.size_push, z4]
  have g5 : (zS5 s.heap x t l2).get? (zS4 s.heap x t l2).objs.size = some _ := Heap.get?_push_size _ rfl
  have g4 : (zS5 s.heap x t l2).get? (zS3 s.heap x t l2).objs.size = some _ := Heap.get?_push_of_some _ (Heap.get?_push_size _ rfl)
  have g3 : (zS5 s.heap x t l2).get? (zS2 s.heap x t l2).objs.size = some _ := Heap.get?_push_of_some _ (Heap.get?_push_of_some _ (Heap.get?_push_size _ rfl))
  have g2 : (zS5 s.heap x t l2).get? (zS1 s.heap x t).objs.size = some _ := Heap.get?_push_of_some _ (Heap.get?_push_of_some _ (Heap.get?_push_of_some _ (Heap.get?_push_size _ rfl)))
  have g1 : (zS5 s.heap x t l2).get? s.heap.objs.size = some _ := Heap.get?_push_of_some _ (Heap.get?_push_of_some _ (Heap.get?_push_of_some _ (Heap.get?_push_of_some _ (Heap.get?_push_size _ rfl))))
  show _ ∧ _
  rw [z2, z3, z4] at g5
  rw [z1, z2] at g3
  rw [z3] at g4
  rw [z1] at g2
  rw [z4]
  exact ⟨⟨_, g5, rfl⟩, h _ g5 g3 g4 ⟨_, g1, rfl, rfl⟩ ⟨_, g2, rfl, rfl⟩ z5 fun c o x =>
    Heap.get?_push_of_some _ (Heap.get?_push_of_some _ (Heap.get?_push_of_some _ (Heap.get?_push_of_some _ (Heap.get?_push_of_some _ x))))⟩
end
theorem nl1 {n k b : Nat} (h : b < n) (e : n + k = b) : False := by omega
theorem nl2 {n k b : Nat} (h : b < n) (e : b = n + k) : False := by omega
section
variable {X : Cx} {e e2 : Expr} {wa : WA} {p pos tpos : Pos} {elts : List Expr} {kk : Nat}
/-- one sign -/
def sgn (x : Str) : List PyData := x.cps.toList.map fun c => .str ⟨#[c]⟩
theorem sgn_get {x : Str} {i : Nat} {d : PyData} (h : (sgn x)[i]? = some d) : ∃ c, x.cps[i]? = some c ∧ d = .str ⟨#[c]⟩ := by
  unfold sgn at h
  rw [List.getElem?_map] at h
  obtain ⟨c, h1, rfl⟩ := Option.map_eq_some_iff.mp h
  exact ⟨c, by rw [← Array.getElem?_toList]; exact h1, rfl⟩
theorem sgn_len (x : Str) : (sgn x).length = x.cps.size := by unfold sgn; rw [List.length_map, Array.length_toList]
abbrev wiZipS (wa : WA) : WI := fun dl M T => wa dl M fun rs M1 => match rs with
  | [.d (.str x), .d (.tuple ys)] => T (zipS (sgn x) ys) C0 M1
  | _ => False
theorem pdi_zipS (hg : Gl X "zip") (hm : X.mg "zip" = none) (ha : PDA X [e, e2] wa) (hs : starEach [e, e2] X.env = (false, eval e X.env) :: starEach [e2] X.env := by rfl) (hpl : (backTo pos (starEach [e2] X.env)).any (·.1) = false := by rfl) :
    PDI X (.Tuple elts kk tpos) (.Call (.Name "zip" p) [e, e2] [] pos) (wiZipS wa) := by
  refine ⟨fun pins s st H R I h => ?_⟩
  obtain ⟨F, dl, M, T, so, at0, hw, po⟩ := h
  refine Call_ (ld_blt I hg hm PyProof.Rows.boot_zip (PyProof.Rows.callWith_type1 (thn (PA.run ha pos pins s st H (fun vs H1 => ∃ x b ys, vs = [.str x, .ref b] ∧ SqT X.K H1 b ys ∧ R (ItzS X.K x b) H1) I (tDA_to so at0 hw fun vs F1 H1 rs M1 h1 g1 so1 at1 i1 => ?_)) fun us s1 ⟨vs, H1, I1, r1, q1⟩ => ?_) hs hpl))
  · split at h1
    · rename_i x ys
      obtain ⟨v, u, rfl, i2, i3⟩ := isAll2 i1
      cases dq_str i2
      obtain ⟨b, ws, rfl, q3, q4⟩ := sqT_at at1 i3
      have lb : ∀ F M H, Evl.Ex F1 F → At X.K F M H → ∃ us, SqT X.K H b us ∧ DqAll X.K F us ys := fun F M H e at' => by
        obtain ⟨c, zs, e2, z1, z2⟩ := sqT_at at' (dq_mono e i3)
        cases e2
        exact ⟨zs, z1, z2⟩
      refine ⟨x, b, ws, rfl, q3, po F1 M1 H1 _ _ _ h1 g1 ⟨fun F M H i e at0 c hi => ?_, fun F M H i v H' r e at0 c y hr => ?_, fun F M H e at0 c => ?_⟩⟩
      · rw [zipS_len, sgn_len] at hi
        obtain ⟨ws, s2, q4⟩ := lb F M H e at0
        obtain ⟨v2, z2, _⟩ := dqAll_get (i := i) q4 (List.getElem?_eq_getElem (by omega))
        exact ⟨by omega, ws, v2, s2, z2⟩
      · obtain ⟨ws, s2, q4⟩ := lb F M H e at0
        obtain ⟨Tp, c1, x2, rfl, hT, hc, rfl, hy⟩ := y
        obtain ⟨d1, d2, e1, e2, rfl⟩ := zipS_get hr
        obtain ⟨c2, hc2, rfl⟩ := sgn_get e1
        obtain ⟨v2, z2, w2⟩ := dqAll_get (i := i) q4 e2
        have hx2 := hy ws s2
        rw [z2] at hx2
        obtain rfl : v2 = x2 := Option.some.inj hx2
        rw [hc] at hc2
        obtain rfl : c1 = c2 := Option.some.inj hc2
        have g := Go.laid at0 (o := .tup [.str ⟨#[c1]⟩, v2]) hT
        exact ⟨_, g, _, _, rfl, .inl (.inl upd_same), .cons (.str _) (.cons (dq_mono g.ex w2) .nil)⟩
      · obtain ⟨ws, s2, q4⟩ := lb F M H e at0
        rw [zipS_len, sgn_len]
        exact ⟨ws, s2, by rw [dqAll_len q4]⟩
    · exact h1.elim
  · obtain ⟨x, b, ys, ex, hqy, q⟩ := q1
    subst ex
    cases r1 with
    | cons r rr =>
      cases rr with
      | cons r' rr =>
        cases rr
        obtain ⟨t, rfl⟩ := r
        cases r'
        have fresh5 : ∀ c, c ∈ [s1.heap.objs.size + 4, s1.heap.objs.size + 2, s1.heap.objs.size + 3, s1.heap.objs.size, s1.heap.objs.size + 1] → FpOk X pins H1 c := fun c hcm => by
          have e' : c = s1.heap.objs.size + 4 ∨ c = s1.heap.objs.size + 2 ∨ c = s1.heap.objs.size + 3 ∨ c = s1.heap.objs.size ∨ c = s1.heap.objs.size + 1 := by simpa using hcm
          have hle : s1.heap.objs.size ≤ c := by omega
          exact I1.fpOk hle (I1.hok.fresh hle)
        obtain ⟨its2, rv2, p2, _⟩ := I1.tuple hqy
        obtain ⟨o2, ho2, _⟩ := id p2
        have lb : (b : Nat) < s1.heap.objs.size := Heap.lt_size ho2
        refine call_zipS (show s1.heap.IsTuple b its2.toArray from p2) fun h' hz hTI hTO h1 h2 hsz hk => wpAny_pyIter_zip hz ?_
        have I2 : Inv X pins st H1 { s1 with heap := h' } := I1.kept (t' := s1.toks) hk
        refine ⟨s1.heap.objs.size + 4, [s1.heap.objs.size + 4, s1.heap.objs.size + 2, s1.heap.objs.size + 3, s1.heap.objs.size, s1.heap.objs.size + 1], _, _, H1, rfl, I2, turn_zipS (t := t) (fun ev => ?_) ⟨fun ev => ?_, fun ev => ?_, fun ev => ?_, fun ev => ?_, List.mem_cons_self, fun ev => ?_, fun ev => ?_, fun ev => ?_, List.mem_cons_self, fun ev => ?_, fun ev => ?_, fun ev => ?_, fun ev => ?_⟩, ⟨hz, hTI, ⟨_, _, hTO⟩, h1, h2⟩, fresh5, q⟩
        · exact nl2 (k := 1) lb ev
        all_goals try simp only [List.mem_cons, List.not_mem_nil, or_false] at ev
        all_goals first
          | (have e' : (_ : Nat) = _ := ev; omega)
          | (rcases ev with ev | ev <;> first
             | (have e' : (_ : Nat) = _ := ev; omega)
             | exact nl1 (k := 4) lb ev
             | exact nl1 (k := 3) lb ev
             | exact nl1 (k := 0) lb ev)
end
end DL

set_option Elab.async false
set_option linter.all false
set_option maxRecDepth 100000
set_option maxHeartbeats 4000000
/-! EF: texts: slices, upper, str(n), over a text; in a tuple of texts or of numbers; a written dict of texts; is True; f(); sorted(d) of texts. -/
namespace DL
open PySem PySem.Spec PyProof.Rows L2
open Evl (Ex)
section
variable {X : Cx} {a b e : Expr} {wa wb we : WE} {pos p p2 : Pos}
/-! ### x in (a, b, ..) -/
def strsD : List PyData → Option (List Str)
  | [] => some []
  | .str s :: r => (strsD r).map (s :: ·)
  | _ => none
def intsD : List PyData → Option (List Int)
  | [] => some []
  | .int s :: r => (intsD r).map (s :: ·)
  | _ => none
theorem strsD_at {K : PySem.W.Frag} {F : Hp} : ∀ {ds : List PyData} {ss : List Str} {vs : List V}, strsD ds = some ss → DqAll K F vs ds → vs = ss.map V.str
  | [], _, _, h, i => by cases h; cases i; rfl
  | .str b :: r, bs, vs, h, i => by
    simp only [strsD, Option.map_eq_some_iff] at h
    obtain ⟨rs, h1, rfl⟩ := h
    cases i with
    | cons i1 i2 => rw [dq_str i1, strsD_at h1 i2]; rfl
theorem intsD_at {K : PySem.W.Frag} {F : Hp} : ∀ {ds : List PyData} {ss : List Int} {vs : List V}, intsD ds = some ss → DqAll K F vs ds → vs = ss.map V.int
  | [], _, _, h, i => by cases h; cases i; rfl
  | .int b :: r, bs, vs, h, i => by
    simp only [intsD, Option.map_eq_some_iff] at h
    obtain ⟨rs, h1, rfl⟩ := h
    cases i with
    | cons i1 i2 => rw [dq_int i1, intsD_at h1 i2]; rfl
theorem flat_strs : ∀ ss : List Str, (ss.map V.str).all flatV = true
  | [] => rfl
  | _ :: r => by rw [List.map_cons, List.all_cons, flat_strs r]; rfl
theorem flat_ints : ∀ ss : List Int, (ss.map V.int).all flatV = true
  | [] => rfl
  | _ :: r => by rw [List.map_cons, List.all_cons, flat_ints r]; rfl
theorem inV_strs (x : Str) : ∀ ss : List Str, inV (.str x) (ss.map V.str) = decide (x ∈ ss)
  | [] => rfl
  | y :: r => by
    have ih := inV_strs x r
    unfold inV at ih ⊢
    rw [List.map_cons, List.any_cons, ih]
    have e : eqV (.str y) (.str x) = decide (x = y) := by
      show (y == x) = _
      by_cases h : x = y
      · subst h; simp
      · rw [decide_eq_false h]; exact beq_eq_false_iff_ne.mpr (Ne.symm h)
    rw [e, Bool.eq_iff_iff]; simp
theorem inV_ints (x : Int) : ∀ ss : List Int, inV (.int x) (ss.map V.int) = decide (x ∈ ss)
  | [] => rfl
  | y :: r => by
    have ih := inV_ints x r
    unfold inV at ih ⊢
    rw [List.map_cons, List.any_cons, ih]
    have e : eqV (.int y) (.int x) = decide (x = y) := by
      show (y == x) = _
      by_cases h : x = y
      · subst h; simp
      · rw [decide_eq_false h]; exact beq_eq_false_iff_ne.mpr (Ne.symm h)
    rw [e, Bool.eq_iff_iff]; simp
abbrev gIn : W2 := fun p q M R => match p, q with
  | .d (.str a), .d (.tuple ds) => ∃ ss, strsD ds = some ss ∧ R (.b (decide (a ∈ ss))) M
  | .d (.int a), .d (.tuple ds) => ∃ ss, intsD ds = some ss ∧ R (.b (decide (a ∈ ss))) M
  | _, _ => False
theorem o_in : OpD X (compareOp .In) gIn := opD_of fun F H M x y p q R Q at0 h1 h2 h3 po => by
  unfold gIn at h3
  split at h3
  · obtain ⟨ss, e, hR⟩ := h3
    cases dq_str h1
    obtain ⟨c, vs, rfl, q1, q2⟩ := sqT_at at0 h2
    have e2 := strsD_at e q2
    subst e2
    exact ⟨_, op_in_seq, c, _, rfl, .inr q1, rfl, flat_strs ss, by simp only [Bool.false_eq_true, if_false]; rw [inV_strs]; exact po _ F H _ M hR (Go.refl at0) (.bl _)⟩
  · obtain ⟨ss, e, hR⟩ := h3
    cases dq_int h1
    obtain ⟨c, vs, rfl, q1, q2⟩ := sqT_at at0 h2
    have e2 := intsD_at e q2
    subst e2
    exact ⟨_, op_in_seq, c, _, rfl, .inr q1, rfl, flat_ints ss, by simp only [Bool.false_eq_true, if_false]; rw [inV_ints]; exact po _ F H _ M hR (Go.refl at0) (.bl _)⟩
  · exact h3.elim
/-! ### is True -/
abbrev gIsB : W2 := fun p q M R => match p, q with
  | .d (.bool a), .d (.bool b) => R (.b (decide (a = b))) M
  | _, _ => False
theorem o_isB : OpD X (compareOp .Is) gIsB := opD_of fun F H M x y p q R Q at0 h1 h2 h3 po => by
  unfold gIsB at h3
  split at h3
  · exact ⟨_, op_isBl, _, _, dq_bl h1, dq_bl h2, po _ F H _ M h3 (Go.refl at0) (.bl _)⟩
  · exact h3.elim
/-! ### slices of texts, upper, str(n) -/
abbrev gSlS : Sl → Option Int → Option Int → Mem → RK → Prop := fun r lo hi M R => match r with
  | .d (.str z) => z.length ≤ sizeLine ∧ R (.s (cutS z lo hi)) M
  | _ => False
theorem pd_sliceS {lo hi : Option Expr} {wl wh : WO} (ha : PD X a wa) (hl : PDO X lo wl) (hh : PDO X hi wh) : PD X (.Subscript a (.Slice lo hi none p2) pos) (wSl gSlS wa wl wh) := by
  refine pe_imp (pe_slice sl_str ha hl hh) fun st H Q ⟨F, dl, M, R, so, at0, hw, po⟩ => ?_
  refine tD_to so at0 hw fun x F1 H1 r M1 h1 e1 so1 at1 i1 => ?_
  refine ⟨F1, dl, M1, _, so1, at1, h1, fun l F2 H2 M2 h2 e2 => ?_⟩
  refine ⟨F2, dl, M2, _, sok_mono e2.ex so1, e2.at', h2, fun h F3 H3 M3 h3 e3 => ?_⟩
  have i3 := is_mono (e2.trans e3).ex i1
  unfold gSlS at h3
  split at h3
  · exact ⟨_, dq_str i3, h3.1, po _ F3 H3 _ M3 h3.2 ((e1.trans e2).trans e3) (.str _)⟩
  · exact h3.elim
abbrev wUpper (wa : WE) : WE := fun dl M R => wa dl M fun r M1 => match r with
  | .d (.str z) => z.length ≤ 5592405 ∧ R (.s (Txt.upper z)) M1
  | _ => False
theorem pd_upper {apos : Pos} (ha : PD X a wa) (hbase : attributeBase a "upper" X.env (eval a X.env) = eval a X.env := by rfl) (hline : (apos.endLine == pos.line) = true := by rfl) : PD X (.Call (.Attribute a "upper" apos) [] [] pos) (wUpper wa) := by
  refine pe_imp (pe_upper ha hbase hline) fun st H Q ⟨F, dl, M, R, so, at0, hw, po⟩ => ?_
  refine tD_to so at0 hw fun x F1 H1 r M1 h1 e1 so1 at1 i1 => ?_
  split at h1
  · have e := dq_str i1
    exact ⟨⟨_, e⟩, _, e, rfl, h1.1, po _ F1 H1 _ M1 h1.2 e1 (.str _)⟩
  · exact h1.elim
abbrev gStr : Sl → Mem → RK → Prop := fun r M R => match r with
  | .d (.int i) => i.natAbs.log2 < 1920 ∧ R (.s (toString i)) M
  | _ => False
theorem c_str : CaD X (.type "str") (g1 gStr) := ca1 fun F H M v r R Q at0 i1 h1 po => by
  unfold gStr at h1
  split at h1
  · exact ⟨_, call_str_int, _, by rw [dq_int i1], h1.1, po _ F H _ M h1.2 (Go.refl at0) (.str _)⟩
  · exact h1.elim
/-! ### over a text -/
abbrev wiStr (we : WE) : WI := fun dl M T => we dl M fun r M1 => match r with
  | .d (.str x) => T ((sgn x).map Sl.d) C0 M1
  | _ => False
theorem pdi_str {tg : Expr} (he : PD X e we) : PDI X tg e (wiStr we) :=
  pi_imp (pi_str he) fun st H Q ⟨F, dl, M, T, so, at0, hw, po⟩ =>
    tD_to so at0 hw fun v F1 H1 r M1 h1 g1 so1 at1 i1 => by
      split at h1
      · rename_i x
        refine ⟨x, dq_str i1, po F1 M1 H1 _ _ _ h1 g1 ⟨fun F M H i e at0 c hi => ?_, fun F M H i v H' r e at0 c y hr => ?_, fun F M H e at0 c => ?_⟩⟩
        · rw [List.length_map, sgn_len] at hi; exact hi
        · obtain ⟨rfl, c, hc, rfl⟩ := y
          rw [List.getElem?_map] at hr
          obtain ⟨d, hd, rfl⟩ := Option.map_eq_some_iff.mp hr
          obtain ⟨c2, hc2, rfl⟩ := sgn_get hd
          rw [hc] at hc2
          obtain rfl : c = c2 := Option.some.inj hc2
          exact ⟨F, Go.refl at0, .str _⟩
        · show x.cps.size ≤ _
          rw [List.length_map, sgn_len]; exact Nat.le_refl _
      · exact h1.elim
/-! ### a written dict of texts -/
def GT (K : PySem.W.Frag) (w : World) (mg : Str → Option Value) (x : Str) (kvs : List (Str × Str)) : Prop := ∃ a es n, mg x = some (.ref a) ∧ KDict K w a es n ∧
  ∀ z, (kvs.lookup z = none ∧ PySem.W.nsIn K a z = some none) ∨ ∃ v t, kvs.lookup z = some v ∧ PySem.W.nsIn K a z = some (some (.str v t))
abbrev wNotInK (kvs : List (Str × Str)) (wa : WE) : WE := fun dl M R => wa dl M fun r M1 => match r with
  | .d (.str z) => R (.b (!(kvs.lookup z).isSome)) M1
  | _ => False
theorem pdt_notInK {x : Str} {kvs : List (Str × Str)} (h : GT X.K X.w X.mg x kvs) (hg : Gl X x) (ha : PD X a wa) (hm : behindInMarks .NotIn (.Name x p) = false := by rfl) (hd : (x == ("__debug__" : Str)) = false := by decide) : PDT X (.Compare a [.NotIn] [.Name x p] pos) (wBl (wNotInK kvs wa)) := by
  obtain ⟨d, es, n, hx, D, hz⟩ := h
  refine pt_imp (pt_cmpR (op_notIn_kd D) ha (pe_glob (v := .ref d) hg hx rfl hd) hm) fun st H Q ⟨F, dl, M, R, so, at0, hw, po⟩ => ?_
  refine tD_to so at0 hw fun v F1 H1 r M1 h1 g1 so1 at1 i1 => ?_
  split at h1
  · rename_i z
    rcases hz z with ⟨e1, e2⟩ | ⟨u, t, e1, e2⟩
    · rw [e1] at h1
      exact ⟨z, none, dq_str i1, rfl, e2, true, rfl, po _ F1 H1 M1 h1 g1⟩
    · rw [e1] at h1
      exact ⟨z, _, dq_str i1, rfl, e2, false, rfl, po _ F1 H1 M1 h1 g1⟩
  · exact h1.elim
abbrev wGetK (kvs : List (Str × Str)) (wb : WE) : WE := fun dl M R => wb dl M fun r M1 => match r with
  | .d (.str z) => ∃ v, kvs.lookup z = some v ∧ R (.s v) M1
  | _ => False
theorem pd_getK {x : Str} {kvs : List (Str × Str)} (h : GT X.K X.w X.mg x kvs) (hg : Gl X x) (hb : PD X b wb) (hs : PlainIx b := by exact fun _ _ => rfl) (hd : (x == ("__debug__" : Str)) = false := by decide) : PD X (.Subscript (.Name x p) b pos) (wGetK kvs wb) := by
  obtain ⟨d, es, n, hx, D, hz⟩ := h
  refine pe_imp (pe_ix ix_kdict (pe_glob (v := .ref d) hg hx rfl hd) hb hs) fun st H Q ⟨F, dl, M, R, so, at0, hw, po⟩ => ?_
  refine tD_to so at0 hw fun v F1 H1 r M1 h1 g1 so1 at1 i1 => ?_
  split at h1
  · rename_i z
    obtain ⟨u, e, hR⟩ := h1
    rcases hz z with ⟨e1, e2⟩ | ⟨u', t, e1, e2⟩
    · rw [e] at e1; cases e1
    · rw [e] at e1
      cases e1
      exact ⟨d, z, .str u, rfl, dq_str i1, ⟨es, n, _, D.at_, D.lit, e2, t, rfl⟩, po _ F1 H1 _ M1 hR g1 (.str _)⟩
  · exact h1.elim
theorem gt_of {K : PySem.W.Frag} {w : World} {mg : Str → Option Value} {x : Str} {kvs : List (Str × Str)} {a : Addr} {es : Array DictEntry} {n : Nat} (hx : mg x = some (.ref a)) (hl : K.lookup a = some ⟨.type "dict", none, .dict es n, #[]⟩) (hk : PySem.W.KeysLit w.params es.toList)
    (low : (a == sysModules) = false) (h : All2 (fun (e : DictEntry) (kv : Str × Str) => ∃ t u, e.key = .str kv.1 t ∧ e.val = .str kv.2 u) es.toList kvs) : GT K w mg x kvs := by
  refine ⟨a, es, n, hx, ⟨hl, hk, low⟩, fun z => ?_⟩
  unfold PySem.W.nsIn
  rw [hl]
  dsimp only
  have hf : ∀ {l : List DictEntry} {kvs : List (Str × Str)}, All2 (fun (e : DictEntry) (kv : Str × Str) => ∃ t u, e.key = .str kv.1 t ∧ e.val = .str kv.2 u) l kvs →
      (kvs.lookup z = none ∧ l.find? (·.key.isStr z) = none) ∨ ∃ v t e, kvs.lookup z = some v ∧ l.find? (·.key.isStr z) = some e ∧ e.val = .str v t := by
    intro l kvs h
    induction h with
    | nil => exact .inl ⟨rfl, rfl⟩
    | @cons e kv l kvs h1 _ ih =>
      obtain ⟨t, u, h1, h2⟩ := h1
      obtain ⟨k, v⟩ := kv
      have q : e.key.isStr z = (k == z) := by rw [h1]; rfl
      by_cases hz : z = k
      · subst hz
        exact .inr ⟨v, u, e, by simp [List.lookup], by rw [List.find?_cons, q]; simp, h2⟩
      · have q2 : (k == z) = false := by simp [Ne.symm hz]
        have q3 : (z == k) = false := by simp [hz]
        rw [List.find?_cons, q, q2]
        simp only [List.lookup, q3]
        exact ih
  have hr : ∀ {l : List DictEntry} {kvs : List (Str × Str)}, All2 (fun (e : DictEntry) (kv : Str × Str) => ∃ t u, e.key = .str kv.1 t ∧ e.val = .str kv.2 u) l kvs → l.any (·.refKey) = false := by
    intro l kvs h
    induction h with
    | nil => rfl
    | @cons e kv l kvs h1 _ ih =>
      obtain ⟨t, u, h1, h2⟩ := h1
      rw [List.any_cons, ih, Bool.or_false]
      unfold DictEntry.refKey
      rw [h1]
  rcases hf h with ⟨e1, e2⟩ | ⟨v, t, e, e1, e2, e3⟩
  · refine .inl ⟨e1, ?_⟩
    rw [e2, hr h]; rfl
  · refine .inr ⟨v, t, e1, ?_⟩
    rw [e2]
    show some (some e.val) = _
    rw [e3]
/-! ### k not in d -/
abbrev gDNotIn : W2 := fun q p M R => match p with
  | .v (.ref a) => ∃ ks k, M a = some (.dic ks) ∧ keyS q = some k ∧ R (.b (!(valS ks k).isSome)) M
  | _ => False
theorem pdt_dnotin (hu : X.A.units + 1 < cLine) (ha : PD X a wa) (hb : PD X b wb) (hm : behindInMarks .NotIn b = false := by rfl) : PDT X (.Compare a [.NotIn] [b] pos) (wBl (wOp gDNotIn wa wb)) := by
  refine pt_imp (pt_cmp (pc_dnotin hu ha hb) hm) fun st H Q ⟨F, dl, M, R, so, at0, hw, po⟩ => ?_
  refine tD_to so at0 hw fun x F1 H1 p M1 h1 e1 so1 at1 i1 => ?_
  refine tD_to so1 at1 h1 fun y F2 H2 q M2 h2 e2 so2 at2 i2 => ?_
  unfold gDNotIn at h2
  split at h2
  · rename_i ad
    obtain ⟨ks, k, m, hk, hR⟩ := h2
    have e : y = .ref ad := i2
    subst e
    obtain ⟨_, kvs, q1, q2⟩ := at2.mem ad _ m
    refine ⟨ad, _, rfl, by rw [keyS_at (is_mono e2.ex i1) hk]; exact DGet.k q1, _, rfl, ?_⟩
    rw [← valS_isSome q2]
    exact po _ F2 H2 M2 hR (e1.trans e2)
  · exact h2.elim
/-! ### sorted(d), texts -/
def keysT : KS → Option (List Str)
  | [] => some []
  | (.inr k, _) :: r => (keysT r).map (k :: ·)
  | _ => none
theorem keysT_at {K : PySem.W.Frag} {F : Hp} : ∀ {ks : KS} {kvs : List (Key × V)} {ns : List Str}, All2 (KIs K F) ks kvs → keysT ks = some ns → kvs.map (·.1) = ns.map Sum.inr
  | [], _, _, h, e => by cases h; cases e; rfl
  | (.inr k, s) :: r, _, ns, h, e => by
    simp only [keysT, Option.map_eq_some_iff] at e
    obtain ⟨rs, h1, rfl⟩ := e
    cases h with
    | cons h t => rw [List.map_cons, List.map_cons, keysT_at t h1, ← h.1]
  | (.inl _, _) :: _, _, _, _, e => by simp [keysT] at e
theorem dqAll_strs {K : PySem.W.Frag} {F : Hp} : ∀ ns : List Str, DqAll K F (ns.map V.str) (ns.map PyData.str)
  | [] => .nil
  | n :: r => .cons (.str n) (dqAll_strs r)
abbrev gSortedDS : Sl → Mem → RK → Prop := fun r M R => match r with
  | .v (.ref a) => ∃ ks ns, M a = some (.dic ks) ∧ keysT ks = some ns ∧ ns.length < 64 ∧ ∀ ys : List Str, ys.Perm ns → R (.d (.list (ys.map PyData.str))) M
  | _ => False
theorem c_sortedDS (hc : X.calm = true) : CaD X (.builtin "sorted") (g1 gSortedDS) := ca1 fun F H M v r R Q at0 i1 h1 po => by
  unfold gSortedDS at h1
  split at h1
  · rename_i ad
    obtain ⟨ks, ns, m, hk, hl, hR⟩ := h1
    have e : v = .ref ad := i1
    subst e
    obtain ⟨_, kvs, q1, q2⟩ := at0.mem ad _ m
    exact ⟨_, call_sortedD hc, ad, kvs, ns, rfl, .inl q1, keysT_at q2 hk, hl, fun ys p hp _ hn => po_dat at0 po hn (hR ys hp) fun F' e h => .lst h (dqAll_strs _)⟩
  · exact h1.elim
/-! ### + by shapes, texts too -/
abbrev gPlusE : W2 := fun p q M R => match p, q with
  | .d (.str a), .d (.str b) => a.length + b.length ≤ sizeLine ∧ R (.s (a ++ b)) M
  | p, q => gPlusD p q M R
theorem o_plusE : OpD X (binaryOp .Add) gPlusE := opD_of fun F H M x y p q R Q at0 h1 h2 h3 po => by
  unfold gPlusE at h3
  split at h3
  · exact ⟨_, op_add_str, _, _, dq_str h1, dq_str h2, h3.1, po _ F H _ M h3.2 (Go.refl at0) (.str _)⟩
  · obtain ⟨r, ho, hr⟩ := o_plusD (X := X)
    exact ⟨r, ho, hr F H M x y _ _ R Q at0 h1 h2 h3 po⟩
/-! ### f() -/
theorem pd_fn0 {k : Nat} {x : Str} {st : Stmt} {cn : Cn} (h : Has X.prog X.w X.K X.mg X.base k x st [] cn) (hgd : X.A.guards = some []) (hr : Room k X.A) (hg : Gl X x)
    (hdb : (x == ("__debug__" : Str)) = false := by decide) : PD X (.Call (.Name x p) [] [] pos) (wCall cn wNil) := by
  obtain ⟨f, fd, hm, Fu, hb, G⟩ := h.ex
  refine ⟨fun pins s st H Q I h => ?_⟩
  obtain ⟨F, dl, M, R, so, at0, hw, po⟩ := h
  refine wpAny_Call_Name_kw (ld_glob I hg hm ?_ hdb)
  refine PySem.W.callWith_K0 I.kIn Fu.kp ?_
  have q1 : spD X.K cn [] H Q := spD_of at0 .nil hw po
  have hb1 := hb s [] I.kIn rfl
  exact run_fnD G hgd hr hb1 I .nil q1
end
end DL

set_option Elab.async false
set_option linter.all false
set_option maxRecDepth 100000
set_option maxHeartbeats 4000000
/-! EG: a comprehension within another one. -/
namespace DL
open PySem PySem.Spec PyProof.Rows L2
theorem look_relabel {env : Env} {x : Str} : ∀ {names : List (Str × NameKind)}, (names.lookup x = some .cell ∨ names.lookup x = some .free) →
    ((names.map fun (n, k) => if (k == NameKind.free && env.scope.kind == .function && env.kindOf n == some .cell) then (n, NameKind.cell) else (n, k)).lookup x = some .cell ∨
     (names.map fun (n, k) => if (k == NameKind.free && env.scope.kind == .function && env.kindOf n == some .cell) then (n, NameKind.cell) else (n, k)).lookup x = some .free)
  | [], h => by rcases h with h | h <;> cases h
  | (n, k) :: r, h => by
    rw [List.map_cons]
    dsimp only
    cases hb : (x == n) with
    | true =>
      rw [List.lookup, hb] at h
      split
      · rw [List.lookup, hb]; exact .inl rfl
      · rw [List.lookup, hb]; exact h
    | false =>
      rw [List.lookup, hb] at h
      split
      · rw [List.lookup, hb]; exact look_relabel h
      · rw [List.lookup, hb]; exact look_relabel h
theorem blkOk_in {N : List Str} {outer scope : Scope} {own : List (Str × Nat)} {env : Env} (h : blkC N outer scope own = true) : BlkOk N (relabel outer env) scope own := by
  have q := blkOk_by h
  exact ⟨q.kind, q.uniq, q.ix, fun y hy e => look_relabel (q.free y hy e), q.own⟩
end DL

set_option Elab.async false
set_option linter.all false
set_option maxRecDepth 100000
set_option maxHeartbeats 4000000
namespace LW
open PySem PySem.Spec L2 DL
abbrev PG : Program := PySem.Challenge.pw_splitstays_k15_pages_behind_shapes
def top (i : Nat) : Stmt := PG.main.body.getD i (.Pass ⟨0, 0, 0, 0⟩)
abbrev s_tupled : Stmt := top 2
abbrev N_tupled : List Str := ["thing", "part"]
theorem sc_tupled : FnScope N_tupled ["thing"] (defScope s_tupled) := ⟨rfl, rfl, rfl, by decide +kernel, rfl, by decide +kernel, by decide +kernel⟩
abbrev s_is_full : Stmt := top 10
abbrev N_is_full : List Str := ["content"]
theorem sc_is_full : FnScope N_is_full ["content"] (defScope s_is_full) := ⟨rfl, rfl, rfl, by decide +kernel, rfl, by decide +kernel, by decide +kernel⟩
abbrev s_contents_of : Stmt := top 13
abbrev N_contents_of : List Str := ["pages"]
theorem sc_contents_of : FnScope N_contents_of ["pages"] (defScope s_contents_of) := ⟨rfl, rfl, rfl, by decide +kernel, rfl, by decide +kernel, by decide +kernel⟩
abbrev s_pages_of : Stmt := top 14
abbrev N_pages_of : List Str := ["contents", "page"]
theorem sc_pages_of : FnScope N_pages_of ["contents"] (defScope s_pages_of) := ⟨rfl, rfl, rfl, by decide +kernel, rfl, by decide +kernel, by decide +kernel⟩
abbrev s_content_in : Stmt := top 15
abbrev N_content_in : List Str := ["contents", "page"]
theorem sc_content_in : FnScope N_content_in ["contents", "page"] (defScope s_content_in) := ⟨rfl, rfl, rfl, by decide +kernel, rfl, by decide +kernel, by decide +kernel⟩
abbrev s_children_with_ranges : Stmt := top 16
abbrev N_children_with_ranges : List Str := ["children", "low", "high", "lows", "pages", "key", "page"]
theorem sc_children_with_ranges : FnScope N_children_with_ranges ["children", "low", "high"] (defScope s_children_with_ranges) := ⟨rfl, rfl, rfl, by decide +kernel, rfl, by decide +kernel, by decide +kernel⟩
abbrev s_is_within : Stmt := top 17
abbrev N_is_within : List Str := ["key", "low", "high"]
theorem sc_is_within : FnScope N_is_within ["key", "low", "high"] (defScope s_is_within) := ⟨rfl, rfl, rfl, by decide +kernel, rfl, by decide +kernel, by decide +kernel⟩
abbrev s_way_in : Stmt := top 18
abbrev N_way_in : List Str := ["contents", "key", "found", "content", "below", "page", "low", "high"]
theorem sc_way_in : FnScope N_way_in ["contents", "key"] (defScope s_way_in) := ⟨rfl, rfl, rfl, by decide +kernel, rfl, by decide +kernel, by decide +kernel⟩
abbrev s_least_free : Stmt := top 19
abbrev N_least_free : List Str := ["contents", "many", "found", "page"]
theorem sc_least_free : FnScope N_least_free ["contents", "many"] (defScope s_least_free) := ⟨rfl, rfl, rfl, by decide +kernel, rfl, by decide +kernel, by decide +kernel⟩
abbrev s_lay_shapes : Stmt := top 20
abbrev N_lay_shapes : List Str := ["contents", "shapes", "page", "before", "after"]
theorem sc_lay_shapes : FnScope N_lay_shapes ["contents", "shapes"] (defScope s_lay_shapes) := ⟨rfl, rfl, rfl, by decide +kernel, rfl, by decide +kernel, by decide +kernel⟩
abbrev s_halves : Stmt := top 21
abbrev N_halves : List Str := ["content", "moving", "word", "parts", "key", "other"]
theorem sc_halves : FnScope N_halves ["content"] (defScope s_halves) := ⟨rfl, rfl, rfl, by decide +kernel, rfl, by decide +kernel, by decide +kernel⟩
abbrev s_root_split : Stmt := top 22
abbrev N_root_split : List Str := ["contents", "root", "staying", "moving", "key", "one", "other"]
theorem sc_root_split : FnScope N_root_split ["contents"] (defScope s_root_split) := ⟨rfl, rfl, rfl, by decide +kernel, rfl, by decide +kernel, by decide +kernel⟩
abbrev s_page_split : Stmt := top 23
abbrev N_page_split : List Str := ["contents", "page", "parent", "fresh", "children", "at", "wider", "staying", "moving", "key", "other", "child"]
theorem sc_page_split : FnScope N_page_split ["contents", "page", "parent"] (defScope s_page_split) := ⟨rfl, rfl, rfl, by decide +kernel, rfl, by decide +kernel, by decide +kernel⟩
abbrev s_room_in : Stmt := top 24
abbrev N_room_in : List Str := ["contents", "key", "pages", "leaf", "many", "page", "work", "found", "above", "shapes"]
theorem sc_room_in : FnScope N_room_in ["contents", "key"] (defScope s_room_in) := ⟨rfl, rfl, rfl, by decide +kernel, rfl, by decide +kernel, by decide +kernel⟩
abbrev s_way_to : Stmt := top 25
abbrev N_way_to : List Str := ["contents", "page", "parents", "found", "above", "content", "key", "child"]
theorem sc_way_to : FnScope N_way_to ["contents", "page"] (defScope s_way_to) := ⟨rfl, rfl, rfl, by decide +kernel, rfl, by decide +kernel, by decide +kernel⟩
abbrev s_without_child : Stmt := top 26
abbrev N_without_child : List Str := ["content", "page", "children", "child"]
theorem sc_without_child : FnScope N_without_child ["content", "page"] (defScope s_without_child) := ⟨rfl, rfl, rfl, by decide +kernel, rfl, by decide +kernel, by decide +kernel⟩
abbrev s_shrinking : Stmt := top 27
abbrev N_shrinking : List Str := ["contents", "found", "shapes", "root", "child"]
theorem sc_shrinking : FnScope N_shrinking ["contents"] (defScope s_shrinking) := ⟨rfl, rfl, rfl, by decide +kernel, rfl, by decide +kernel, by decide +kernel⟩
abbrev s_freeing_in : Stmt := top 28
abbrev N_freeing_in : List Str := ["contents", "page", "pages", "at", "parent", "found", "work", "below"]
theorem sc_freeing_in : FnScope N_freeing_in ["contents", "page"] (defScope s_freeing_in) := ⟨rfl, rfl, rfl, by decide +kernel, rfl, by decide +kernel, by decide +kernel⟩
abbrev s_room : Stmt := top 29
abbrev N_room : List Str := ["pages", "key"]
theorem sc_room : FnScope N_room ["pages", "key"] (defScope s_room) := ⟨rfl, rfl, rfl, by decide +kernel, rfl, by decide +kernel, by decide +kernel⟩
abbrev s_freeing : Stmt := top 30
abbrev N_freeing : List Str := ["pages", "page"]
theorem sc_freeing : FnScope N_freeing ["pages", "page"] (defScope s_freeing) := ⟨rfl, rfl, rfl, by decide +kernel, rfl, by decide +kernel, by decide +kernel⟩
abbrev s_shaped : Stmt := top 31
abbrev N_shaped : List Str := ["pages", "shapes", "contents"]
theorem sc_shaped : FnScope N_shaped ["pages", "shapes"] (defScope s_shaped) := ⟨rfl, rfl, rfl, by decide +kernel, rfl, by decide +kernel, by decide +kernel⟩
abbrev s__law_box : Stmt := top 33
abbrev N__law_box : List Str := ["_law_script", "_law_k", "_law_cell"]
theorem sc__law_box : FnScope N__law_box ["_law_script", "_law_k"] (defScope s__law_box) := ⟨rfl, rfl, rfl, by decide +kernel, rfl, by decide +kernel, by decide +kernel⟩
abbrev s__law_take : Stmt := top 34
abbrev N__law_take : List Str := ["_law_box_here", "_law_below", "_law_once", "_law_far", "_law_twice", "_law_found"]
theorem sc__law_take : FnScope N__law_take ["_law_box_here", "_law_below"] (defScope s__law_take) := ⟨rfl, rfl, rfl, by decide +kernel, rfl, by decide +kernel, by decide +kernel⟩
abbrev s__law_cells : Stmt := top 35
abbrev N__law_cells : List Str := ["_law_script", "_law_most", "_law_cells_here", "_law_k", "_law_cell"]
theorem sc__law_cells : FnScope N__law_cells ["_law_script", "_law_most"] (defScope s__law_cells) := ⟨rfl, rfl, rfl, by decide +kernel, rfl, by decide +kernel, by decide +kernel⟩
abbrev s__law_of : Stmt := top 36
abbrev N__law_of : List Str := ["_law_box_here", "_law_some"]
theorem sc__law_of : FnScope N__law_of ["_law_box_here", "_law_some"] (defScope s__law_of) := ⟨rfl, rfl, rfl, by decide +kernel, rfl, by decide +kernel, by decide +kernel⟩
abbrev s__law_same : Stmt := top 37
abbrev N__law_same : List Str := ["_law_found", "_law_due_so"]
theorem sc__law_same : FnScope N__law_same ["_law_found", "_law_due_so"] (defScope s__law_same) := ⟨rfl, rfl, rfl, by decide +kernel, rfl, by decide +kernel, by decide +kernel⟩
abbrev s__law_lists : Stmt := top 38
abbrev N__law_lists : List Str := ["_law_matter", "_law_part"]
theorem sc__law_lists : FnScope N__law_lists ["_law_matter"] (defScope s__law_lists) := ⟨rfl, rfl, rfl, by decide +kernel, rfl, by decide +kernel, by decide +kernel⟩
abbrev s__law_strewn : Stmt := top 39
abbrev N__law_strewn : List Str := ["_law_box_here", "_law_some", "_law_left", "_law_found"]
theorem sc__law_strewn : FnScope N__law_strewn ["_law_box_here", "_law_some"] (defScope s__law_strewn) := ⟨rfl, rfl, rfl, by decide +kernel, rfl, by decide +kernel, by decide +kernel⟩
abbrev s__law_grown : Stmt := top 40
abbrev N__law_grown : List Str := ["_law_box_here", "_law_world", "_law_low", "_law_high", "_law_depth", "_law_sheet", "_law_many", "_law_cuts", "_law_below", "_law_spots", "_law_states_so", "_law_spot", "_law_one", "_law_two", "_law_turn", "_law_pair"]
theorem sc__law_grown : FnScope N__law_grown ["_law_box_here", "_law_world", "_law_low", "_law_high", "_law_depth"] (defScope s__law_grown) := ⟨rfl, rfl, rfl, by decide +kernel, rfl, by decide +kernel, by decide +kernel⟩
abbrev s__law_tree : Stmt := top 41
abbrev N__law_tree : List Str := ["_law_box_here", "_law_depth", "_law_cuts", "_law_most", "_law_numbers", "_law_world"]
theorem sc__law_tree : FnScope N__law_tree ["_law_box_here"] (defScope s__law_tree) := ⟨rfl, rfl, rfl, by decide +kernel, rfl, by decide +kernel, by decide +kernel⟩
abbrev s__law_pairs : Stmt := top 42
abbrev N__law_pairs : List Str := ["_law_stuffs", "_law_sheet"]
theorem sc__law_pairs : FnScope N__law_pairs ["_law_stuffs"] (defScope s__law_pairs) := ⟨rfl, rfl, rfl, by decide +kernel, rfl, by decide +kernel, by decide +kernel⟩
abbrev s__law_drawn : Stmt := top 43
abbrev N__law_drawn : List Str := ["_law_box_here", "_law_stuffs", "_law_turn", "_law_found", "_law_work", "_law_sheet", "_law_some", "_law_after"]
theorem sc__law_drawn : FnScope N__law_drawn ["_law_box_here", "_law_stuffs"] (defScope s__law_drawn) := ⟨rfl, rfl, rfl, by decide +kernel, rfl, by decide +kernel, by decide +kernel⟩
abbrev s__law_right : Stmt := top 44
abbrev N__law_right : List Str := ["_law_box_here", "_law_turn", "_law_stuffs", "_law_sheet", "_law_soft", "_law_moves_so", "_law_sheets", "_law_made", "_law_some", "_law_few", "_law_word", "_law_pairs_here", "_law_due_so", "_law_told", "_law_work", "_law_kept", "_law_before", "_law_after"]
theorem sc__law_right : FnScope N__law_right ["_law_box_here"] (defScope s__law_right) := ⟨rfl, rfl, rfl, by decide +kernel, rfl, by decide +kernel, by decide +kernel⟩
abbrev s_law : Stmt := top 45
abbrev N_law : List Str := ["_law_script", "_law_cells_here", "_law_k", "_law_box_here", "_law_turn"]
theorem sc_law : FnScope N_law ["_law_script"] (defScope s_law) := ⟨rfl, rfl, rfl, by decide +kernel, rfl, by decide +kernel, by decide +kernel⟩
theorem hb_tupled : ∀ (kV doc pm : Value) (an : Option Addr) (cdv ct : Value) (us : List Value), us.length = (["thing"] : List Str).length → bindArgs (PySem.W.fnOf "tupled" "tupled" (defArgs s_tupled) (defBody s_tupled) (defScope s_tupled) .none kV doc pm an cdv ct) ⟨us, []⟩ = pure ((["thing"] : List Str).zip us) := fun _ _ _ _ _ _ us hl => match us, hl with | [_], _ => rfl
theorem hb_is_full : ∀ (kV doc pm : Value) (an : Option Addr) (cdv ct : Value) (us : List Value), us.length = (["content"] : List Str).length → bindArgs (PySem.W.fnOf "is_full" "is_full" (defArgs s_is_full) (defBody s_is_full) (defScope s_is_full) .none kV doc pm an cdv ct) ⟨us, []⟩ = pure ((["content"] : List Str).zip us) := fun _ _ _ _ _ _ us hl => match us, hl with | [_], _ => rfl
theorem hb_contents_of : ∀ (kV doc pm : Value) (an : Option Addr) (cdv ct : Value) (us : List Value), us.length = (["pages"] : List Str).length → bindArgs (PySem.W.fnOf "contents_of" "contents_of" (defArgs s_contents_of) (defBody s_contents_of) (defScope s_contents_of) .none kV doc pm an cdv ct) ⟨us, []⟩ = pure ((["pages"] : List Str).zip us) := fun _ _ _ _ _ _ us hl => match us, hl with | [_], _ => rfl
theorem hb_pages_of : ∀ (kV doc pm : Value) (an : Option Addr) (cdv ct : Value) (us : List Value), us.length = (["contents"] : List Str).length → bindArgs (PySem.W.fnOf "pages_of" "pages_of" (defArgs s_pages_of) (defBody s_pages_of) (defScope s_pages_of) .none kV doc pm an cdv ct) ⟨us, []⟩ = pure ((["contents"] : List Str).zip us) := fun _ _ _ _ _ _ us hl => match us, hl with | [_], _ => rfl
theorem hb_content_in : ∀ (kV doc pm : Value) (an : Option Addr) (cdv ct : Value) (us : List Value), us.length = (["contents", "page"] : List Str).length → bindArgs (PySem.W.fnOf "content_in" "content_in" (defArgs s_content_in) (defBody s_content_in) (defScope s_content_in) .none kV doc pm an cdv ct) ⟨us, []⟩ = pure ((["contents", "page"] : List Str).zip us) := fun _ _ _ _ _ _ us hl => match us, hl with | [_, _], _ => rfl
theorem hb_children_with_ranges : ∀ (kV doc pm : Value) (an : Option Addr) (cdv ct : Value) (us : List Value), us.length = (["children", "low", "high"] : List Str).length → bindArgs (PySem.W.fnOf "children_with_ranges" "children_with_ranges" (defArgs s_children_with_ranges) (defBody s_children_with_ranges) (defScope s_children_with_ranges) .none kV doc pm an cdv ct) ⟨us, []⟩ = pure ((["children", "low", "high"] : List Str).zip us) := fun _ _ _ _ _ _ us hl => match us, hl with | [_, _, _], _ => rfl
theorem hb_is_within : ∀ (kV doc pm : Value) (an : Option Addr) (cdv ct : Value) (us : List Value), us.length = (["key", "low", "high"] : List Str).length → bindArgs (PySem.W.fnOf "is_within" "is_within" (defArgs s_is_within) (defBody s_is_within) (defScope s_is_within) .none kV doc pm an cdv ct) ⟨us, []⟩ = pure ((["key", "low", "high"] : List Str).zip us) := fun _ _ _ _ _ _ us hl => match us, hl with | [_, _, _], _ => rfl
theorem hb_way_in : ∀ (kV doc pm : Value) (an : Option Addr) (cdv ct : Value) (us : List Value), us.length = (["contents", "key"] : List Str).length → bindArgs (PySem.W.fnOf "way_in" "way_in" (defArgs s_way_in) (defBody s_way_in) (defScope s_way_in) .none kV doc pm an cdv ct) ⟨us, []⟩ = pure ((["contents", "key"] : List Str).zip us) := fun _ _ _ _ _ _ us hl => match us, hl with | [_, _], _ => rfl
theorem hb_least_free : ∀ (kV doc pm : Value) (an : Option Addr) (cdv ct : Value) (us : List Value), us.length = (["contents", "many"] : List Str).length → bindArgs (PySem.W.fnOf "least_free" "least_free" (defArgs s_least_free) (defBody s_least_free) (defScope s_least_free) .none kV doc pm an cdv ct) ⟨us, []⟩ = pure ((["contents", "many"] : List Str).zip us) := fun _ _ _ _ _ _ us hl => match us, hl with | [_, _], _ => rfl
theorem hb_lay_shapes : ∀ (kV doc pm : Value) (an : Option Addr) (cdv ct : Value) (us : List Value), us.length = (["contents", "shapes"] : List Str).length → bindArgs (PySem.W.fnOf "lay_shapes" "lay_shapes" (defArgs s_lay_shapes) (defBody s_lay_shapes) (defScope s_lay_shapes) .none kV doc pm an cdv ct) ⟨us, []⟩ = pure ((["contents", "shapes"] : List Str).zip us) := fun _ _ _ _ _ _ us hl => match us, hl with | [_, _], _ => rfl
theorem hb_halves : ∀ (kV doc pm : Value) (an : Option Addr) (cdv ct : Value) (us : List Value), us.length = (["content"] : List Str).length → bindArgs (PySem.W.fnOf "halves" "halves" (defArgs s_halves) (defBody s_halves) (defScope s_halves) .none kV doc pm an cdv ct) ⟨us, []⟩ = pure ((["content"] : List Str).zip us) := fun _ _ _ _ _ _ us hl => match us, hl with | [_], _ => rfl
theorem hb_root_split : ∀ (kV doc pm : Value) (an : Option Addr) (cdv ct : Value) (us : List Value), us.length = (["contents"] : List Str).length → bindArgs (PySem.W.fnOf "root_split" "root_split" (defArgs s_root_split) (defBody s_root_split) (defScope s_root_split) .none kV doc pm an cdv ct) ⟨us, []⟩ = pure ((["contents"] : List Str).zip us) := fun _ _ _ _ _ _ us hl => match us, hl with | [_], _ => rfl
theorem hb_page_split : ∀ (kV doc pm : Value) (an : Option Addr) (cdv ct : Value) (us : List Value), us.length = (["contents", "page", "parent"] : List Str).length → bindArgs (PySem.W.fnOf "page_split" "page_split" (defArgs s_page_split) (defBody s_page_split) (defScope s_page_split) .none kV doc pm an cdv ct) ⟨us, []⟩ = pure ((["contents", "page", "parent"] : List Str).zip us) := fun _ _ _ _ _ _ us hl => match us, hl with | [_, _, _], _ => rfl
theorem hb_room_in : ∀ (kV doc pm : Value) (an : Option Addr) (cdv ct : Value) (us : List Value), us.length = (["contents", "key"] : List Str).length → bindArgs (PySem.W.fnOf "room_in" "room_in" (defArgs s_room_in) (defBody s_room_in) (defScope s_room_in) .none kV doc pm an cdv ct) ⟨us, []⟩ = pure ((["contents", "key"] : List Str).zip us) := fun _ _ _ _ _ _ us hl => match us, hl with | [_, _], _ => rfl
theorem hb_way_to : ∀ (kV doc pm : Value) (an : Option Addr) (cdv ct : Value) (us : List Value), us.length = (["contents", "page"] : List Str).length → bindArgs (PySem.W.fnOf "way_to" "way_to" (defArgs s_way_to) (defBody s_way_to) (defScope s_way_to) .none kV doc pm an cdv ct) ⟨us, []⟩ = pure ((["contents", "page"] : List Str).zip us) := fun _ _ _ _ _ _ us hl => match us, hl with | [_, _], _ => rfl
theorem hb_without_child : ∀ (kV doc pm : Value) (an : Option Addr) (cdv ct : Value) (us : List Value), us.length = (["content", "page"] : List Str).length → bindArgs (PySem.W.fnOf "without_child" "without_child" (defArgs s_without_child) (defBody s_without_child) (defScope s_without_child) .none kV doc pm an cdv ct) ⟨us, []⟩ = pure ((["content", "page"] : List Str).zip us) := fun _ _ _ _ _ _ us hl => match us, hl with | [_, _], _ => rfl
theorem hb_shrinking : ∀ (kV doc pm : Value) (an : Option Addr) (cdv ct : Value) (us : List Value), us.length = (["contents"] : List Str).length → bindArgs (PySem.W.fnOf "shrinking" "shrinking" (defArgs s_shrinking) (defBody s_shrinking) (defScope s_shrinking) .none kV doc pm an cdv ct) ⟨us, []⟩ = pure ((["contents"] : List Str).zip us) := fun _ _ _ _ _ _ us hl => match us, hl with | [_], _ => rfl
theorem hb_freeing_in : ∀ (kV doc pm : Value) (an : Option Addr) (cdv ct : Value) (us : List Value), us.length = (["contents", "page"] : List Str).length → bindArgs (PySem.W.fnOf "freeing_in" "freeing_in" (defArgs s_freeing_in) (defBody s_freeing_in) (defScope s_freeing_in) .none kV doc pm an cdv ct) ⟨us, []⟩ = pure ((["contents", "page"] : List Str).zip us) := fun _ _ _ _ _ _ us hl => match us, hl with | [_, _], _ => rfl
theorem hb_room : ∀ (kV doc pm : Value) (an : Option Addr) (cdv ct : Value) (us : List Value), us.length = (["pages", "key"] : List Str).length → bindArgs (PySem.W.fnOf "room" "room" (defArgs s_room) (defBody s_room) (defScope s_room) .none kV doc pm an cdv ct) ⟨us, []⟩ = pure ((["pages", "key"] : List Str).zip us) := fun _ _ _ _ _ _ us hl => match us, hl with | [_, _], _ => rfl
theorem hb_freeing : ∀ (kV doc pm : Value) (an : Option Addr) (cdv ct : Value) (us : List Value), us.length = (["pages", "page"] : List Str).length → bindArgs (PySem.W.fnOf "freeing" "freeing" (defArgs s_freeing) (defBody s_freeing) (defScope s_freeing) .none kV doc pm an cdv ct) ⟨us, []⟩ = pure ((["pages", "page"] : List Str).zip us) := fun _ _ _ _ _ _ us hl => match us, hl with | [_, _], _ => rfl
theorem hb_shaped : ∀ (kV doc pm : Value) (an : Option Addr) (cdv ct : Value) (us : List Value), us.length = (["pages", "shapes"] : List Str).length → bindArgs (PySem.W.fnOf "shaped" "shaped" (defArgs s_shaped) (defBody s_shaped) (defScope s_shaped) .none kV doc pm an cdv ct) ⟨us, []⟩ = pure ((["pages", "shapes"] : List Str).zip us) := fun _ _ _ _ _ _ us hl => match us, hl with | [_, _], _ => rfl
theorem hb__law_box : ∀ (kV doc pm : Value) (an : Option Addr) (cdv ct : Value) (us : List Value), us.length = (["_law_script", "_law_k"] : List Str).length → bindArgs (PySem.W.fnOf "_law_box" "_law_box" (defArgs s__law_box) (defBody s__law_box) (defScope s__law_box) .none kV doc pm an cdv ct) ⟨us, []⟩ = pure ((["_law_script", "_law_k"] : List Str).zip us) := fun _ _ _ _ _ _ us hl => match us, hl with | [_, _], _ => rfl
theorem hb__law_take : ∀ (kV doc pm : Value) (an : Option Addr) (cdv ct : Value) (us : List Value), us.length = (["_law_box_here", "_law_below"] : List Str).length → bindArgs (PySem.W.fnOf "_law_take" "_law_take" (defArgs s__law_take) (defBody s__law_take) (defScope s__law_take) .none kV doc pm an cdv ct) ⟨us, []⟩ = pure ((["_law_box_here", "_law_below"] : List Str).zip us) := fun _ _ _ _ _ _ us hl => match us, hl with | [_, _], _ => rfl
theorem hb__law_cells : ∀ (kV doc pm : Value) (an : Option Addr) (cdv ct : Value) (us : List Value), us.length = (["_law_script", "_law_most"] : List Str).length → bindArgs (PySem.W.fnOf "_law_cells" "_law_cells" (defArgs s__law_cells) (defBody s__law_cells) (defScope s__law_cells) .none kV doc pm an cdv ct) ⟨us, []⟩ = pure ((["_law_script", "_law_most"] : List Str).zip us) := fun _ _ _ _ _ _ us hl => match us, hl with | [_, _], _ => rfl
theorem hb__law_of : ∀ (kV doc pm : Value) (an : Option Addr) (cdv ct : Value) (us : List Value), us.length = (["_law_box_here", "_law_some"] : List Str).length → bindArgs (PySem.W.fnOf "_law_of" "_law_of" (defArgs s__law_of) (defBody s__law_of) (defScope s__law_of) .none kV doc pm an cdv ct) ⟨us, []⟩ = pure ((["_law_box_here", "_law_some"] : List Str).zip us) := fun _ _ _ _ _ _ us hl => match us, hl with | [_, _], _ => rfl
theorem hb__law_same : ∀ (kV doc pm : Value) (an : Option Addr) (cdv ct : Value) (us : List Value), us.length = (["_law_found", "_law_due_so"] : List Str).length → bindArgs (PySem.W.fnOf "_law_same" "_law_same" (defArgs s__law_same) (defBody s__law_same) (defScope s__law_same) .none kV doc pm an cdv ct) ⟨us, []⟩ = pure ((["_law_found", "_law_due_so"] : List Str).zip us) := fun _ _ _ _ _ _ us hl => match us, hl with | [_, _], _ => rfl
theorem hb__law_lists : ∀ (kV doc pm : Value) (an : Option Addr) (cdv ct : Value) (us : List Value), us.length = (["_law_matter"] : List Str).length → bindArgs (PySem.W.fnOf "_law_lists" "_law_lists" (defArgs s__law_lists) (defBody s__law_lists) (defScope s__law_lists) .none kV doc pm an cdv ct) ⟨us, []⟩ = pure ((["_law_matter"] : List Str).zip us) := fun _ _ _ _ _ _ us hl => match us, hl with | [_], _ => rfl
theorem hb__law_strewn : ∀ (kV doc pm : Value) (an : Option Addr) (cdv ct : Value) (us : List Value), us.length = (["_law_box_here", "_law_some"] : List Str).length → bindArgs (PySem.W.fnOf "_law_strewn" "_law_strewn" (defArgs s__law_strewn) (defBody s__law_strewn) (defScope s__law_strewn) .none kV doc pm an cdv ct) ⟨us, []⟩ = pure ((["_law_box_here", "_law_some"] : List Str).zip us) := fun _ _ _ _ _ _ us hl => match us, hl with | [_, _], _ => rfl
theorem hb__law_grown : ∀ (kV doc pm : Value) (an : Option Addr) (cdv ct : Value) (us : List Value), us.length = (["_law_box_here", "_law_world", "_law_low", "_law_high", "_law_depth"] : List Str).length → bindArgs (PySem.W.fnOf "_law_grown" "_law_grown" (defArgs s__law_grown) (defBody s__law_grown) (defScope s__law_grown) .none kV doc pm an cdv ct) ⟨us, []⟩ = pure ((["_law_box_here", "_law_world", "_law_low", "_law_high", "_law_depth"] : List Str).zip us) := fun _ _ _ _ _ _ us hl => match us, hl with | [_, _, _, _, _], _ => rfl
theorem hb__law_tree : ∀ (kV doc pm : Value) (an : Option Addr) (cdv ct : Value) (us : List Value), us.length = (["_law_box_here"] : List Str).length → bindArgs (PySem.W.fnOf "_law_tree" "_law_tree" (defArgs s__law_tree) (defBody s__law_tree) (defScope s__law_tree) .none kV doc pm an cdv ct) ⟨us, []⟩ = pure ((["_law_box_here"] : List Str).zip us) := fun _ _ _ _ _ _ us hl => match us, hl with | [_], _ => rfl
theorem hb__law_pairs : ∀ (kV doc pm : Value) (an : Option Addr) (cdv ct : Value) (us : List Value), us.length = (["_law_stuffs"] : List Str).length → bindArgs (PySem.W.fnOf "_law_pairs" "_law_pairs" (defArgs s__law_pairs) (defBody s__law_pairs) (defScope s__law_pairs) .none kV doc pm an cdv ct) ⟨us, []⟩ = pure ((["_law_stuffs"] : List Str).zip us) := fun _ _ _ _ _ _ us hl => match us, hl with | [_], _ => rfl
theorem hb__law_drawn : ∀ (kV doc pm : Value) (an : Option Addr) (cdv ct : Value) (us : List Value), us.length = (["_law_box_here", "_law_stuffs"] : List Str).length → bindArgs (PySem.W.fnOf "_law_drawn" "_law_drawn" (defArgs s__law_drawn) (defBody s__law_drawn) (defScope s__law_drawn) .none kV doc pm an cdv ct) ⟨us, []⟩ = pure ((["_law_box_here", "_law_stuffs"] : List Str).zip us) := fun _ _ _ _ _ _ us hl => match us, hl with | [_, _], _ => rfl
theorem hb__law_right : ∀ (kV doc pm : Value) (an : Option Addr) (cdv ct : Value) (us : List Value), us.length = (["_law_box_here"] : List Str).length → bindArgs (PySem.W.fnOf "_law_right" "_law_right" (defArgs s__law_right) (defBody s__law_right) (defScope s__law_right) .none kV doc pm an cdv ct) ⟨us, []⟩ = pure ((["_law_box_here"] : List Str).zip us) := fun _ _ _ _ _ _ us hl => match us, hl with | [_], _ => rfl
theorem hb_law : ∀ (kV doc pm : Value) (an : Option Addr) (cdv ct : Value) (us : List Value), us.length = (["_law_script"] : List Str).length → bindArgs (PySem.W.fnOf "law" "law" (defArgs s_law) (defBody s_law) (defScope s_law) .none kV doc pm an cdv ct) ⟨us, []⟩ = pure ((["_law_script"] : List Str).zip us) := fun _ _ _ _ _ _ us hl => match us, hl with | [_], _ => rfl
theorem kb_shaped_Swap : ∀ (kV doc pmv : Value) (an : Option Addr) (cdv ct : Value) (ws : List Value), (pmSwap ws).length = (["pages", "shapes"] : List Str).length → bindArgs (PySem.W.fnOf "shaped" "shaped" (defArgs s_shaped) (defBody s_shaped) (defScope s_shaped) .none kV doc pmv an cdv ct) ⟨[], (["shapes", "pages"] : List Str).zip ws⟩ = pure ((["pages", "shapes"] : List Str).zip (pmSwap ws)) := fun _ _ _ _ _ _ ws hl => match ws, hl with | [_, _], _ => rfl
/-- what the top has left: built-in names that nothing hides, constants -/
structure Tx (K : PySem.W.Frag) (mg : Str → Option Value) : Prop where
  z_abs : mg "abs" = none
  z_all : mg "all" = none
  z_dict : mg "dict" = none
  z_enumerate : mg "enumerate" = none
  z_int : mg "int" = none
  z_isinstance : mg "isinstance" = none
  z_len : mg "len" = none
  z_list : mg "list" = none
  z_range : mg "range" = none
  z_repr : mg "repr" = none
  z_set : mg "set" = none
  z_sorted : mg "sorted" = none
  z_tuple : mg "tuple" = none
  z_zip : mg "zip" = none
  c_FREE : GD K mg "FREE" (.tuple [(.str "free")])
  c_FULL : ∃ t, mg "FULL" = some (.int 4 t)
  c_INNER : ∃ t, mg "INNER" = some (.str "inner" t)
  c_KEPT : ∃ t, mg "KEPT" = some (.int 2 t)
  c_LEAF : ∃ t, mg "LEAF" = some (.str "leaf" t)
  c_ROOT : ∃ t, mg "ROOT" = some (.int 0 t)
end LW

set_option Elab.async false
set_option linter.all false
set_option maxRecDepth 100000
set_option maxHeartbeats 4000000
namespace LW
open PySem PySem.Spec L2 DL
local macro_rules | `(tactic| walk_at "mem") => `(tactic| ((repeat rw [upM_ne (by assumption)]); first | exact upM_same | assumption))
local macro_rules | `(tactic| walk_at "look") => `(tactic| first | rfl | assumption | exact atI_map0 | exact atI_map1 | walk_at "mem" | (with_reducible apply lsOf_m; walk_at "mem") | (with_reducible apply sqOf_m; walk_at "mem") | (with_reducible apply rlOf_m; walk_at "mem") | (with_reducible apply sqOf'_m; walk_at "mem") | (with_reducible apply tru_l; walk_at "mem") | (with_reducible apply tru_d; walk_at "mem") | ((simp (discharger := assumption) only [sqOf, sqOf', rlOf, lsOf, tru, upM_same, upM_ne]) <;> rfl))
local macro_rules | `(tactic| walk_at "set") => `(tactic| (simp only [wipeD, List.set_cons_zero, List.set_cons_succ, List.set_nil]; rfl))
local macro_rules | `(tactic| walk_at "side") => `(tactic| first | omega | (simp only [List.length_map, List.length_cons, List.length_nil]; omega) | assumption | rfl | decide | exact ⟨by omega, by omega⟩ | exact Nat.le_of_ble_eq_true rfl)
local macro_rules | `(tactic| walk_at "head") => `(tactic| with_reducible conv => whnf)
local macro_rules | `(tactic| walk_at "step") => `(tactic| (walk_at "head"; first
  | ((with_reducible apply gN_go); (focus walk_at "set"))
  | ((with_reducible apply e1s); (focus rfl))
  | ((with_reducible apply e1); (focus walk_at "look"))
  | ((with_reducible apply e2); (focus walk_at "look"); (focus walk_at "look"))
  | ((with_reducible apply l1); (focus walk_at "look"))
  | ((with_reducible apply l2); (focus walk_at "look"); (focus walk_at "look"))
  | ((with_reducible apply e3); (focus walk_at "look"); (focus walk_at "look"); (focus walk_at "look"))
  | ((with_reducible apply e0a); (focus walk_at "look"))
  | ((with_reducible apply And.intro); (focus walk_at "side"))
  | ((with_reducible apply d1); (focus walk_at "look"))
  | ((with_reducible apply d2); (focus walk_at "look"); (focus walk_at "look"))
  | ((with_reducible apply d3); (focus walk_at "look"); (focus walk_at "look"); (focus walk_at "look"))
  | ((with_reducible apply d0); (focus walk_at "look"))
  | ((with_reducible apply lk1); (focus walk_at "look"))
  | with_reducible apply gw2_go
  | with_reducible apply gw3_go
  | with_reducible apply gs_go
  | with_reducible apply gt2_go
  | with_reducible apply gt3_go
  | with_reducible apply gt1_go
  | with_reducible apply gt4_go
  | with_reducible apply gt5_go
  | with_reducible apply gt6_go
  | with_reducible apply gt7_go
  | with_reducible apply gt8_go
  | with_reducible apply ift_go
  | with_reducible apply iff_go
  | ((with_reducible apply ifT_go); (focus rfl))
  | ((with_reducible apply ifF_go); (focus rfl))))
local macro_rules | `(tactic| walk_at "run") => `(tactic| (repeat walk_at "step"); walk_at "head")
local macro_rules | `(tactic| walk_at "start") => `(tactic| simp only [startD, List.map_cons, List.map_nil, List.length_cons, List.length_nil, List.replicate, List.cons_append, List.nil_append, Nat.reduceAdd, Nat.reduceSub, bodyK])
/-! ### draws -/
structure Bx where
  x : Int
  y : Int
  z : Int
abbrev Bx.mo (B : Bx) : MO := .lst [.i B.x, .i B.y, .i B.z]
/-- so many draws are left -/
structure Bx.Ok (B : Bx) (m : Nat) : Prop where
  y0 : 0 ≤ B.y
  y1 : B.y < 2 ^ 62
  z0 : 0 ≤ B.z
  z1 : B.z + (m : Int) ≤ 2 ^ 50
theorem Bx.Ok.mono {B : Bx} {m n : Nat} (h : B.Ok m) (l : n ≤ m) : B.Ok n := ⟨h.y0, h.y1, h.z0, by have := h.z1; omega⟩
abbrev intD (ns : List Int) : PyData := .list (ns.map PyData.int)
def cn_take : Cn := fun rs M R => ∃ b B n m, rs = [.v (.ref b), .i n] ∧ M b = some B.mo ∧ Bx.Ok B (m + 1) ∧ 0 < n ∧ n < 2 ^ 30 ∧ ∀ v B', 0 ≤ v → v < n → Bx.Ok B' m → R (.i v) (upM M b B'.mo)
def cn_box : Cn := fun rs M R => ∃ cs k, rs = [.d (intD cs), .i k] ∧ 0 ≤ k ∧ k < 100 ∧ ∀ b B, M b = none → Bx.Ok B (2 ^ 49) → R (.v (.ref b)) (upM M b B.mo)
def cn_of : Cn := fun rs M R => ∃ b B ds m, rs = [.v (.ref b), .d (.list ds)] ∧ M b = some B.mo ∧ Bx.Ok B (m + 1) ∧ 0 < ds.length ∧ ds.length < 2 ^ 30 ∧ ∀ d B', d ∈ ds → Bx.Ok B' m → R (.d d) (upM M b B'.mo)
def cn_same : Cn := fun rs M R => ∃ a c d, rs = [a, c] ∧ RdM M a d ∧ RdM M c d ∧ Shw d ∧ R (.b true) M
section
variable {P : Program} {w : World} {K : PySem.W.Frag} {mg : Str → Option Value} {base : Heap}
theorem ok_take (T : Tx K mg) {f : Addr} {fd : FuncData} (Fu : Fun K "_law_take" "_law_take" s__law_take f fd) : FnD P w K mg base 1 f fd ["_law_box_here", "_law_below"] cn_take := by
  refine fnD_of Fu sc__law_take (fun rs M R h => ?_) fun cdv A outer s H hgd hr => ⟨_, (pdb_cons (pds_if (pdt_cmp o_gt (pd_ix (pd_var 0) pd_int) pd_int (nomark _)) (pdb_cons (pds_set 5 sc__law_take.nd (pd_op o_mod (pd_callT c_int (by rfl) T.z_int (by decide +kernel) (pda_cons (pd_ix (pd_var 0) pd_int) pda_nil)) (pd_var 1)))
      (pdb_cons (pds_asg (pd_op o_div (pd_ix (pd_var 0) pd_int) (pd_var 1)) (pdg_setL (pd_var 0) pd_int))
      (pdb_one (pds_ret (pd_var 5))))) pdb_nil)
      (pdb_cons (pds_asg (pd_op o_plus (pd_ix (pd_var 0) pd_int) pd_int) (pdg_setL (pd_var 0) pd_int))
      (pdb_cons (pds_set 2 sc__law_take.nd (pd_op o_mod (pd_op o_times (pd_op o_plus (pd_ix (pd_var 0) pd_int) (pd_op o_times pd_int (pd_ix (pd_var 0) pd_int))) (pd_op o_plus pd_int (pd_ix (pd_var 0) pd_int))) pd_int))
      (pdb_cons (pds_set 3 sc__law_take.nd (pd_op o_plus (pd_op o_mod (pd_callT c_int (by rfl) T.z_int (by decide +kernel) (pda_cons (pd_var 2) pda_nil)) pd_int) pd_int))
      (pdb_cons (pds_set 4 sc__law_take.nd (pd_op o_mod (pd_op o_times (pd_op o_plus (pd_op o_plus (pd_var 2) (pd_ix (pd_var 0) pd_int)) (pd_op o_div (pd_ix (pd_var 0) pd_int) pd_int)) (pd_var 3)) pd_int))
      (pdb_one (pds_ret (pd_op o_mod (pd_op o_div (pd_op o_mod (pd_op o_plus (pd_op o_times (pd_var 4) pd_int) (pd_var 2)) pd_int) pd_int) (pd_var 1))))))))), ?_⟩
  · obtain ⟨b, B, n, m, rfl, _⟩ := h
    rfl
  · rintro rs M R ⟨b, B, n, m, rfl, hb, ok, n0, n1, k⟩
    rw [← upM_self hb] at k ⊢
    have hz := ok.z0
    have hz1 := ok.z1
    have hy := ok.y0
    have hy1 := ok.y1
    walk_at "start"
    walk_at "run"
    with_reducible apply ifd_go <;> intro hx
    · walk_at "run"
      exact upR.of (k (B.x % n) ⟨B.x / n, B.y, B.z⟩ (Int.emod_nonneg _ (by omega)) (Int.emod_lt_of_pos _ n0) ⟨hy, hy1, hz, by show B.z + _ ≤ _; omega⟩)
    · walk_at "run"
      exact upR.of (k _ ⟨B.x, B.y, B.z + 1⟩ (Int.emod_nonneg _ (by omega)) (Int.emod_lt_of_pos _ n0) ⟨hy, hy1, by show 0 ≤ B.z + 1; omega, by show B.z + 1 + _ ≤ _; omega⟩)
theorem ok_box (T : Tx K mg) {f : Addr} {fd : FuncData} (Fu : Fun K "_law_box" "_law_box" s__law_box f fd) : FnD P w K mg base 1 f fd ["_law_script", "_law_k"] cn_box := by
  refine fnD_of Fu sc__law_box (fun rs M R h => ?_) fun cdv A outer s H hgd hr => ⟨_, (pdb_cons (pds_set 2 sc__law_box.nd (pd_if (pdt_cmp o_lt (pd_var 1) (pd_callB c_len (by rfl) T.z_len (by decide +kernel) (pda_cons (pd_var 0) pda_nil)) (nomark _)) (pd_ix (pd_var 0) (pd_var 1)) pd_int))
      (pdb_one (pds_ret (pd_lstM (pda_cons (pd_op o_times (pd_callB c_abs (by rfl) T.z_abs (by decide +kernel) (pda_cons (pd_var 2) pda_nil)) (pd_callT c_int (by rfl) T.z_int (by decide +kernel) (pda_cons (pd_cmp o_ge (pd_callB c_abs (by rfl) T.z_abs (by decide +kernel) (pda_cons (pd_var 2) pda_nil)) (pd_op o_pow pd_int pd_int) (nomark _)) pda_nil))) (pda_cons (pd_op o_plus (pd_op o_plus (pd_op o_mod (pd_callT c_int (by rfl) T.z_int (by decide +kernel) (pda_cons (pd_var 2) pda_nil)) pd_int) (pd_op o_times pd_int (pd_var 1))) pd_int) (pda_cons pd_int pda_nil))))))), ?_⟩
  · obtain ⟨b, B, rfl, _⟩ := h
    rfl
  · rintro rs M R ⟨cs, k, rfl, k0, k1, hk⟩
    walk_at "start"
    refine seq_cut (fun dl M' => M' = M ∧ ∃ c, dl = [some (.d (intD cs)), some (.i k), some (.i c)]) ?_ fun nx hnx => ?_
    · rintro _ _ ⟨rfl, c, rfl⟩
      walk_at "run"
      intro p hp
      have hm := Int.emod_nonneg c (show (2305843009213693951 : Int) ≠ 0 by decide)
      have hm2 := Int.emod_lt_of_pos c (show (0 : Int) < 2305843009213693951 by decide)
      refine upR.of (hk p ⟨_, _, 0⟩ hp ⟨?_, ?_, ?_, ?_⟩)
      · show 0 ≤ c % 2305843009213693951 + 39373 * k + 71; omega
      · show c % 2305843009213693951 + 39373 * k + 71 < 2 ^ 62; omega
      · show (0 : Int) ≤ 0; omega
      · show (0 : Int) + ((2 ^ 49 : Nat) : Int) ≤ 2 ^ 50; decide
    · walk_at "run"
      with_reducible apply ifd_go <;> intro hx
      · walk_at "run"
        simp only [List.length_map] at hx
        refine e2 rfl (atI_int k0 (i := k) (x := .i (cs[k.toNat]'(by omega))) ?_) ?_
        · rw [List.getElem?_map, List.getElem?_map, List.getElem?_eq_getElem (by omega)]; rfl
        · walk_at "run"
          exact hnx _ _ ⟨rfl, _, rfl⟩
      · walk_at "run"
        exact hnx _ _ ⟨rfl, _, rfl⟩
theorem ok_of (T : Tx K mg) (H__law_take : Has P w K mg base 1 "_law_take" s__law_take ["_law_box_here", "_law_below"] cn_take) {f : Addr} {fd : FuncData} (Fu : Fun K "_law_of" "_law_of" s__law_of f fd) : FnD P w K mg base 2 f fd ["_law_box_here", "_law_some"] cn_of := by
  refine fnD_of Fu sc__law_of (fun rs M R h => ?_) fun cdv A outer s H hgd hr => ⟨_, (pdb_one (pds_ret (pd_ix (pd_var 1) (pd_fn H__law_take hgd (hr.mono (by first | decide | omega)) (by rfl) (pda_cons (pd_var 0) (pda_cons (pd_callB c_len (by rfl) T.z_len (by decide +kernel) (pda_cons (pd_var 1) pda_nil)) pda_nil)))))), ?_⟩
  · obtain ⟨b, B, n, m, rfl, _⟩ := h
    rfl
  · rintro rs M R ⟨b, B, ds, m, rfl, hb, ok, n0, n1, k⟩
    rw [← upM_self hb] at k ⊢
    walk_at "start"
    walk_at "run"
    simp only [List.length_map]
    refine ⟨b, B, _, m, rfl, upM_same, ok, by omega, by omega, fun v B' v0 v1 ok' => ?_⟩
    walk_at "head"
    refine e2 rfl (atI_int v0 (x := .d (ds[v.toNat]'(by omega))) ?_) ?_
    · rw [List.getElem?_map, List.getElem?_eq_getElem (by omega)]; rfl
    · exact upR.of (k _ B' (List.getElem_mem _) ok')
theorem ok_same (T : Tx K mg) {f : Addr} {fd : FuncData} (Fu : Fun K "_law_same" "_law_same" s__law_same f fd) : FnD P w K mg base 1 f fd ["_law_found", "_law_due_so"] cn_same := by
  refine fnD_of Fu sc__law_same (fun rs M R h => ?_) fun cdv A outer s H hgd hr => ⟨_, (pdb_one (pds_ret (pd_cmp (o_eq hr.units) (pd_callB (c_reprM hgd hr.units) (by rfl) T.z_repr (by decide +kernel) (pda_cons (pd_var 0) pda_nil)) (pd_callB (c_reprM hgd hr.units) (by rfl) T.z_repr (by decide +kernel) (pda_cons (pd_var 1) pda_nil)) (nomark _)))), ?_⟩
  · obtain ⟨a, c, d, rfl, _⟩ := h
    rfl
  · rintro rs M R ⟨a, c, d, rfl, ha, hc, hd, k⟩
    walk_at "start"
    walk_at "run"
    refine ⟨d, ha, hd, ?_⟩
    walk_at "run"
    refine ⟨d, hc, hd, ?_⟩
    walk_at "head"
    rw [decide_eq_true rfl]
    exact upR.of k
end
end LW

set_option Elab.async false
set_option linter.all false
set_option maxRecDepth 100000
set_option maxHeartbeats 4000000
namespace LW
open PySem PySem.Spec L2 DL
local macro_rules | `(tactic| walk_at "mem") => `(tactic| ((repeat rw [upM_ne (by assumption)]); first | exact upM_same | assumption))
local macro_rules | `(tactic| walk_at "look") => `(tactic| first | rfl | assumption | exact atI_map0 | exact atI_map1 | walk_at "mem" | (with_reducible apply lsOf_m; walk_at "mem") | (with_reducible apply sqOf_m; walk_at "mem") | (with_reducible apply rlOf_m; walk_at "mem") | (with_reducible apply sqOf'_m; walk_at "mem") | (with_reducible apply tru_l; walk_at "mem") | (with_reducible apply tru_d; walk_at "mem") | ((simp (discharger := assumption) only [sqOf, sqOf', rlOf, lsOf, tru, upM_same, upM_ne]) <;> rfl))
local macro_rules | `(tactic| walk_at "set") => `(tactic| (simp only [wipeD, List.set_cons_zero, List.set_cons_succ, List.set_nil]; rfl))
local macro_rules | `(tactic| walk_at "side") => `(tactic| first | omega | (simp only [List.length_map, List.length_cons, List.length_nil]; omega) | assumption | rfl | decide | exact ⟨by omega, by omega⟩ | exact Nat.le_of_ble_eq_true rfl)
local macro_rules | `(tactic| walk_at "head") => `(tactic| with_reducible conv => whnf)
local macro_rules | `(tactic| walk_at "step") => `(tactic| (walk_at "head"; first
  | ((with_reducible apply gN_go); (focus walk_at "set"))
  | ((with_reducible apply e1s); (focus rfl))
  | ((with_reducible apply e1); (focus walk_at "look"))
  | ((with_reducible apply e2); (focus walk_at "look"); (focus walk_at "look"))
  | ((with_reducible apply l1); (focus walk_at "look"))
  | ((with_reducible apply l2); (focus walk_at "look"); (focus walk_at "look"))
  | ((with_reducible apply e3); (focus walk_at "look"); (focus walk_at "look"); (focus walk_at "look"))
  | ((with_reducible apply e0a); (focus walk_at "look"))
  | ((with_reducible apply And.intro); (focus walk_at "side"))
  | ((with_reducible apply d1); (focus walk_at "look"))
  | ((with_reducible apply d2); (focus walk_at "look"); (focus walk_at "look"))
  | ((with_reducible apply d3); (focus walk_at "look"); (focus walk_at "look"); (focus walk_at "look"))
  | ((with_reducible apply d0); (focus walk_at "look"))
  | ((with_reducible apply lk1); (focus walk_at "look"))
  | with_reducible apply gw2_go
  | with_reducible apply gw3_go
  | with_reducible apply gs_go
  | with_reducible apply gt2_go
  | with_reducible apply gt3_go
  | with_reducible apply gt1_go
  | with_reducible apply gt4_go
  | with_reducible apply gt5_go
  | with_reducible apply gt6_go
  | with_reducible apply gt7_go
  | with_reducible apply gt8_go
  | with_reducible apply ift_go
  | with_reducible apply iff_go
  | ((with_reducible apply ifT_go); (focus rfl))
  | ((with_reducible apply ifF_go); (focus rfl))))
local macro_rules | `(tactic| walk_at "run") => `(tactic| (repeat walk_at "step"); walk_at "head")
local macro_rules | `(tactic| walk_at "start") => `(tactic| simp only [startD, List.map_cons, List.map_nil, List.length_cons, List.length_nil, List.replicate, List.cons_append, List.nil_append, Nat.reduceAdd, Nat.reduceSub, bodyK])
def cn_cells : Cn := fun rs M R => ∃ ns most, rs = [.r ns, .i most] ∧ 0 < most ∧ most < 63 ∧ ∀ cs, cs ≠ [] → (cs.length : Int) ≤ most → R (.d (intD cs)) M
section
variable {P : Program} {w : World} {K : PySem.W.Frag} {mg : Str → Option Value} {base : Heap}
theorem ok_cells (T : Tx K mg) {f : Addr} {fd : FuncData} (Fu : Fun K "_law_cells" "_law_cells" s__law_cells f fd) : FnD P w K mg base 1 f fd ["_law_script", "_law_most"] cn_cells := by
  refine fnD_of Fu sc__law_cells (fun rs M R h => ?_) fun cdv A outer s H hgd hr => ⟨_, (pdb_cons (pds_set 2 sc__law_cells.nd (pd_or (pd_callT c_listM (by rfl) T.z_list (by decide +kernel) (pda_cons (pd_slice (pd_var 0) pdo_none (pdo_some (pd_var 1))) pda_nil)) (pd_one (pd_lstM (pda_cons pd_int pda_nil)))))
      (pdb_cons (pds_for PassesOwn.never rfl (pdi_enum (by rfl) T.z_enumerate (pda_cons (pd_slice (pd_var 0) (pdo_some (pd_var 1)) (pdo_some pd_int)) pda_nil)) (pdg_tup (n := 2) rfl (pdgs_cons (pdg_name 3 sc__law_cells.nd) (pdgs_cons (pdg_name 4 sc__law_cells.nd) pdgs_nil))) (pdb_one (pds_asg (pd_op o_plus (pd_ix (pd_var 2) (pd_op o_mod (pd_callT c_int (by rfl) T.z_int (by decide +kernel) (pda_cons (pd_var 3) pda_nil)) (pd_var 1))) (pd_op o_times (pd_var 4) (pd_op o_plus (pd_var 3) pd_int))) (pdg_setL (pd_var 2) (pd_op o_mod (pd_callT c_int (by rfl) T.z_int (by decide +kernel) (pda_cons (pd_var 3) pda_nil)) (pd_var 1))))))
      (pdb_one (pds_ret (pd_var 2))))), ?_⟩
  · obtain ⟨b, B, rfl, _⟩ := h
    rfl
  · rintro rs M R ⟨ns, most, rfl, k0, k1, hk⟩
    walk_at "start"
    refine seq_cut (fun dl M' => ∃ p cs, M p = none ∧ Le M M' ∧ M' p = some (.lst (cs.map fun n => Sl.i n)) ∧ cs ≠ [] ∧ (cs.length : Int) ≤ most ∧ (most < ns.length → (cs.length : Int) = most) ∧ dl = [some (.r ns), some (.i most), some (.v (.ref p)), none, none]) ?_ fun nx hnx => ?_
    · rintro _ M1 ⟨p, cs, hp, hle, hp1, c0, c1, c2, rfl⟩
      walk_at "run"
      refine e2 rfl (by rw [cutA_mid (by omega) (by omega), ← List.map_take, ← List.map_drop]; exact datI _) ?_
      walk_at "run"
      refine for_ind (fun rest dl M' => ∃ cs k c, Le M M' ∧ M' p = some (.lst (cs.map fun n => Sl.i n)) ∧ cs ≠ [] ∧ (cs.length : Int) ≤ most ∧ (rest ≠ [] → (cs.length : Int) = most) ∧ (∀ x ∈ rest, ∃ (i : Nat) (c : Int), i < 100 ∧ x = .w [.int i, .int c]) ∧ dl = [some (.r ns), some (.i most), some (.v (.ref p)), k, c]) ?_ ?_ ⟨cs, _, _, hle, hp1, c0, c1, ?_, ?_, rfl⟩
      · rintro _ M2 ⟨cs, _, _, hle, hp1, c0, c1, _, _, rfl⟩
        walk_at "run"
        exact ⟨trivial, e1s rfl ⟨_, _, Vw.frz (by rw [hp1, mapI]) hle hp, hk cs c0 c1⟩⟩
      · rintro x xs nx _ M2 hnx ⟨cs, _, _, hle, hp1, c0, c1, c2, hx, rfl⟩
        obtain ⟨i, c, hi, rfl⟩ := hx x List.mem_cons_self
        have c3 := c2 (by simp)
        have m0 := Int.emod_nonneg (i : Int) (show most ≠ 0 by omega)
        have m1 := Int.emod_lt_of_pos (i : Int) k0
        refine ⟨trivial, ?_⟩
        rw [← upM_self hp1]
        have hget : ∀ j : Int, 0 ≤ j → j < most → atI (cs.map fun n => Sl.i n) j = some (.i (cs.getD j.toNat 0)) := fun j j0 j1 => by
          refine atI_int j0 ?_
          rw [List.getElem?_map, List.getD_eq_getElem?_getD, List.getElem?_eq_getElem (by omega)]; rfl
        walk_at "run"
        refine e2 (by walk_at "look") (hget _ m0 m1) ?_
        walk_at "run"
        refine l2 upM_same (b := ((i : Int) % most).toNat) ?_ ?_
        · unfold ixN
          rw [if_pos m0, if_pos (by rw [List.length_map]; omega)]
        · rw [upM_upM, intsS_set]
          refine hnx _ _ ⟨_, _, _, fun a o h => by rw [upM_ne (neM h hp)]; exact hle a o h, upM_same, ?_, ?_, ?_, fun y hy => hx y (List.mem_cons_of_mem _ hy), rfl⟩
          · intro e
            apply c0
            exact List.length_eq_zero_iff.mp (by have := congrArg List.length e; simpa using this)
          · rw [List.length_set]; exact c1
          · intro _; rw [List.length_set]; exact c3
      · intro h
        apply c2
        by_cases hl : most < ns.length
        · exact hl
        · exfalso; apply h
          rw [List.drop_of_length_le (by rw [List.length_take]; omega)]; rfl
      · intro x hx
        unfold enumS at hx
        obtain ⟨⟨d, i⟩, hq, rfl⟩ := List.mem_map.mp hx
        have h1 := List.mem_zipIdx hq
        rw [List.length_map, List.length_drop, List.length_take] at h1
        have h2 : d ∈ (List.drop most.toNat (List.take (Int.toNat 63) ns)).map PyData.int := by rw [h1.2.2]; exact List.getElem_mem _
        obtain ⟨c, _, rfl⟩ := List.mem_map.mp h2
        exact ⟨i, c, by have := h1.2.1; have e : Int.toNat 63 = 63 := rfl; omega, rfl⟩
    · walk_at "run"
      refine e2 rfl (by rw [cutA_to (by omega), ← List.map_take]; exact datI _) ?_
      walk_at "run"
      intro p hp
      refine e1 (by simp only [tru, upM_same]; rfl) ?_
      have hlen : ((ns.take most.toNat).map PyData.int).length = min most.toNat ns.length := by rw [List.length_map, List.length_take]
      apply if_go
      · intro h
        walk_at "run"
        refine hnx _ _ ⟨p, ns.take most.toNat, hp, fun a o h => by rw [upM_ne (neM h hp)]; exact h, by rw [upM_same, mapI], ?_, ?_, ?_, rfl⟩
        · intro e; rw [e] at h; cases h
        · rw [List.length_take]; omega
        · intro h; rw [List.length_take]; omega
      · intro h
        walk_at "run"
        intro q hq
        walk_at "run"
        have hq1 : M q = none := by
          cases e : M q with
          | none => rfl
          | some o =>
            rw [upM_ne (neM e hp), e] at hq; cases hq
        refine hnx _ _ ⟨q, [0], hq1, fun a o h => by rw [upM_ne (neM h hq1), upM_ne (neM h hp)]; exact h, by rw [upM_same]; rfl, by simp, by simp; omega, ?_, rfl⟩
        intro h2
        exfalso
        have : ns.take most.toNat = [] := by
          cases e : ns.take most.toNat with
          | nil => rfl
          | cons a r => rw [e] at h; cases h
        have := congrArg List.length this
        rw [List.length_take, List.length_nil] at this
        omega
end
end LW

set_option Elab.async false
set_option linter.all false
set_option maxRecDepth 100000
set_option maxHeartbeats 4000000
namespace LW
open PySem PySem.Spec L2 DL
local macro_rules | `(tactic| walk_at "mem") => `(tactic| ((repeat rw [upM_ne (by assumption)]); first | exact upM_same | assumption))
local macro_rules | `(tactic| walk_at "look") => `(tactic| first | rfl | assumption | exact atI_map0 | exact atI_map1 | walk_at "mem" | (with_reducible apply lsOf_m; walk_at "mem") | (with_reducible apply sqOf_m; walk_at "mem") | (with_reducible apply rlOf_m; walk_at "mem") | (with_reducible apply sqOf'_m; walk_at "mem") | (with_reducible apply tru_l; walk_at "mem") | (with_reducible apply tru_d; walk_at "mem") | ((simp (discharger := assumption) only [sqOf, sqOf', rlOf, lsOf, tru, upM_same, upM_ne]) <;> rfl))
local macro_rules | `(tactic| walk_at "set") => `(tactic| (simp only [wipeD, List.set_cons_zero, List.set_cons_succ, List.set_nil]; rfl))
local macro_rules | `(tactic| walk_at "side") => `(tactic| first | omega | (simp only [List.length_map, List.length_cons, List.length_nil]; omega) | assumption | rfl | decide | exact ⟨by omega, by omega⟩ | exact Nat.le_of_ble_eq_true rfl)
local macro_rules | `(tactic| walk_at "head") => `(tactic| with_reducible conv => whnf)
local macro_rules | `(tactic| walk_at "step") => `(tactic| (walk_at "head"; first
  | ((with_reducible apply gN_go); (focus walk_at "set"))
  | ((with_reducible apply e1s); (focus rfl))
  | ((with_reducible apply e1); (focus walk_at "look"))
  | ((with_reducible apply e2); (focus walk_at "look"); (focus walk_at "look"))
  | ((with_reducible apply l1); (focus walk_at "look"))
  | ((with_reducible apply l2); (focus walk_at "look"); (focus walk_at "look"))
  | ((with_reducible apply e3); (focus walk_at "look"); (focus walk_at "look"); (focus walk_at "look"))
  | ((with_reducible apply e0a); (focus walk_at "look"))
  | ((with_reducible apply And.intro); (focus walk_at "side"))
  | ((with_reducible apply d1); (focus walk_at "look"))
  | ((with_reducible apply d2); (focus walk_at "look"); (focus walk_at "look"))
  | ((with_reducible apply d3); (focus walk_at "look"); (focus walk_at "look"); (focus walk_at "look"))
  | ((with_reducible apply d0); (focus walk_at "look"))
  | ((with_reducible apply lk1); (focus walk_at "look"))
  | with_reducible apply gw2_go
  | with_reducible apply gw3_go
  | with_reducible apply gs_go
  | with_reducible apply gt2_go
  | with_reducible apply gt3_go
  | with_reducible apply gt1_go
  | with_reducible apply gt4_go
  | with_reducible apply gt5_go
  | with_reducible apply gt6_go
  | with_reducible apply gt7_go
  | with_reducible apply gt8_go
  | with_reducible apply ift_go
  | with_reducible apply iff_go
  | ((with_reducible apply ifT_go); (focus rfl))
  | ((with_reducible apply ifF_go); (focus rfl))))
local macro_rules | `(tactic| walk_at "run") => `(tactic| (repeat walk_at "step"); walk_at "head")
local macro_rules | `(tactic| walk_at "start") => `(tactic| simp only [startD, List.map_cons, List.map_nil, List.length_cons, List.length_nil, List.replicate, List.cons_append, List.nil_append, Nat.reduceAdd, Nat.reduceSub, bodyK])
/-- the words of this law's data -/
abbrev WD : List Str := ["leaf", "inner", "free", "ghost"]
theorem wds : Wds WD := by unfold Wds; decide +kernel
mutual
def tpD : PyData → PyData
  | .list xs => .tuple (tpDs xs)
  | .tuple xs => .tuple (tpDs xs)
  | d => d
def tpDs : List PyData → List PyData
  | [] => []
  | x :: r => tpD x :: tpDs r
end
mutual
def lsD : PyData → PyData
  | .list xs => .list (lsDs xs)
  | .tuple xs => .list (lsDs xs)
  | d => d
def lsDs : List PyData → List PyData
  | [] => []
  | x :: r => lsD x :: lsDs r
end
theorem tpDs_map : ∀ xs : List PyData, tpDs xs = xs.map tpD
  | [] => rfl
  | x :: r => by rw [tpDs, tpDs_map r]; rfl
theorem lsDs_map : ∀ xs : List PyData, lsDs xs = xs.map lsD
  | [] => rfl
  | x :: r => by rw [lsDs, lsDs_map r]; rfl
theorem szs_len (W : List Str) : ∀ xs : List PyData, xs.length ≤ szs W xs
  | [] => Nat.zero_le _
  | x :: r => by have := szs_len W r; simp only [szs, List.length_cons]; omega
theorem szs_mem {W : List Str} {x : PyData} : ∀ {xs : List PyData}, x ∈ xs → sz W x ≤ szs W xs
  | y :: r, h => by
    simp only [szs]
    rcases List.mem_cons.mp h with rfl | h
    · omega
    · have := szs_mem (W := W) h; omega
theorem depthAll_mem {x : PyData} : ∀ {xs : List PyData}, x ∈ xs → x.depth ≤ PyData.depthAll xs
  | y :: r, h => by
    simp only [PyData.depthAll]
    rcases List.mem_cons.mp h with rfl | h
    · omega
    · have := depthAll_mem h; omega
def cn_deep (g : PyData → PyData) (n : Nat) : Cn := fun rs M R => ∃ d, rs = [.d d] ∧ d.depth ≤ n ∧ sz WD d ≤ 16777216 ∧ R (.d (g d)) M
section
variable {P : Program} {w : World} {K : PySem.W.Frag} {mg : Str → Option Value} {base : Heap}
theorem fn_none {f : Addr} {fd : FuncData} {ps : List Str} : FnD P w K mg base 0 f fd ps fun _ _ _ => False := ⟨fun _ _ _ h => h.elim, fun A outer s H args us vs Q _ _ _ _ _ ⟨_, _, _, _, _, _, h, _⟩ => h.elim⟩
theorem ok_tupled1 (T : Tx K mg) {n : Nat} {cn : Cn} (hc : ∀ d M R, n ≠ 0 → d.depth ≤ n - 1 → sz WD d ≤ 16777216 → R (.d (tpD d)) M → cn [.d d] M R) (H_tupled : Has P w K mg base n "tupled" s_tupled ["thing"] cn) {f : Addr} {fd : FuncData} (Fu : Fun K "tupled" "tupled" s_tupled f fd) : FnD P w K mg base (n + 1) f fd ["thing"] (cn_deep tpD n) := by
  refine fnD_of Fu sc_tupled (fun rs M R h => ?_) fun cdv A outer s H hgd hr => ⟨_, (pdb_one (pds_ret (pd_if (pdt_tru (pd_isi2 (S := "list") (T := "tuple") (by decide) (by decide) (pd_var 0) (by rfl) T.z_isinstance (by rfl) T.z_list (by decide +kernel) (by rfl) T.z_tuple (by decide +kernel))) (pd_callT c_tuple (by rfl) T.z_tuple (by decide +kernel) (pda_cons (pd_lc (own := [("part", 1)]) rfl sc_tupled.nd (pdi_seq (pd_var 0)) (blkOk_by (N := N_tupled) (sc := defScope s_tupled) (by decide +kernel)) (fun _ _ _ _ _ => (pdgw_name 1 sc_tupled.nd)) (fun _ _ _ _ _ => pdts_nil) (fun _ _ _ _ _ => (pd_fn H_tupled hgd (hr.mono (by first | decide | omega)) (by rfl) (pda_cons (pd_var 1) pda_nil)))) pda_nil)) (pd_var 0)))), ?_⟩
  · obtain ⟨b, rfl, _⟩ := h
    rfl
  · rintro rs M R ⟨d, rfl, hd, hz, k⟩
    walk_at "start"
    walk_at "run"
    cases d with
    | list ds =>
      walk_at "run"
      simp only [sz] at hz
      simp only [PyData.depth] at hd
      have hl := szs_len WD ds
      refine lc_mapD tpD trivial (by rw [sizeLine_eq]; omega) (fun e he k1 k0 h => ?_) ?_
      · walk_at "run"
        exact hc e M k1 (by omega) (by have := depthAll_mem he; omega) (by have := szs_mem (W := WD) he; omega) h
      · refine e1 (datOf_map _) ?_
        walk_at "head"
        refine e2 rfl (datOf_map _) ?_
        rw [tpD, tpDs_map] at k
        exact upR.of k
    | tuple ds =>
      walk_at "run"
      simp only [sz] at hz
      simp only [PyData.depth] at hd
      have hl := szs_len WD ds
      refine lc_mapD tpD trivial (by rw [sizeLine_eq]; omega) (fun e he k1 k0 h => ?_) ?_
      · walk_at "run"
        exact hc e M k1 (by omega) (by have := depthAll_mem he; omega) (by have := szs_mem (W := WD) he; omega) h
      · refine e1 (datOf_map _) ?_
        walk_at "head"
        refine e2 rfl (datOf_map _) ?_
        rw [tpD, tpDs_map] at k
        exact upR.of k
    | dict _ => simp only [sz] at hz; omega
    | _ => walk_at "run"; exact upR.of k
theorem ok_lists1 (T : Tx K mg) {n : Nat} {cn : Cn} (hc : ∀ d M R, n ≠ 0 → d.depth ≤ n - 1 → sz WD d ≤ 16777216 → R (.d (lsD d)) M → cn [.d d] M R) (H__law_lists : Has P w K mg base n "_law_lists" s__law_lists ["_law_matter"] cn) {f : Addr} {fd : FuncData} (Fu : Fun K "_law_lists" "_law_lists" s__law_lists f fd) : FnD P w K mg base (n + 1) f fd ["_law_matter"] (cn_deep lsD n) := by
  refine fnD_of Fu sc__law_lists (fun rs M R h => ?_) fun cdv A outer s H hgd hr => ⟨_, (pdb_one (pds_ret (pd_if (pdt_tru (pd_isi2 (S := "list") (T := "tuple") (by decide) (by decide) (pd_var 0) (by rfl) T.z_isinstance (by rfl) T.z_list (by decide +kernel) (by rfl) T.z_tuple (by decide +kernel))) (pd_lc (own := [("_law_part", 1)]) rfl sc__law_lists.nd (pdi_seq (pd_var 0)) (blkOk_by (N := N__law_lists) (sc := defScope s__law_lists) (by decide +kernel)) (fun _ _ _ _ _ => (pdgw_name 1 sc__law_lists.nd)) (fun _ _ _ _ _ => pdts_nil) (fun _ _ _ _ _ => (pd_fn H__law_lists hgd (hr.mono (by first | decide | omega)) (by rfl) (pda_cons (pd_var 1) pda_nil)))) (pd_var 0)))), ?_⟩
  · obtain ⟨b, rfl, _⟩ := h
    rfl
  · rintro rs M R ⟨d, rfl, hd, hz, k⟩
    walk_at "start"
    walk_at "run"
    cases d with
    | list ds =>
      walk_at "run"
      simp only [sz] at hz
      simp only [PyData.depth] at hd
      have hl := szs_len WD ds
      refine lc_mapD lsD trivial (by rw [sizeLine_eq]; omega) (fun e he k1 k0 h => ?_) ?_
      · walk_at "run"
        exact hc e M k1 (by omega) (by have := depthAll_mem he; omega) (by have := szs_mem (W := WD) he; omega) h
      · refine e1 (datOf_map _) ?_
        rw [lsD, lsDs_map] at k
        exact upR.of k
    | tuple ds =>
      walk_at "run"
      simp only [sz] at hz
      simp only [PyData.depth] at hd
      have hl := szs_len WD ds
      refine lc_mapD lsD trivial (by rw [sizeLine_eq]; omega) (fun e he k1 k0 h => ?_) ?_
      · walk_at "run"
        exact hc e M k1 (by omega) (by have := depthAll_mem he; omega) (by have := szs_mem (W := WD) he; omega) h
      · refine e1 (datOf_map _) ?_
        rw [lsD, lsDs_map] at k
        exact upR.of k
    | dict _ => simp only [sz] at hz; omega
    | _ => walk_at "run"; exact upR.of k
theorem ok_tupled (T : Tx K mg) {f : Addr} {fd : FuncData} (hm : mg "tupled" = some (.ref f)) (Fu : Fun K "tupled" "tupled" s_tupled f fd) : ∀ n, FnD P w K mg base (n + 1) f fd ["thing"] (cn_deep tpD n)
  | 0 => ok_tupled1 T (cn := fun _ _ _ => False) (fun _ _ _ h => absurd rfl h) (Has.of hm Fu hb_tupled fn_none) Fu
  | n + 1 => ok_tupled1 T (fun d _ _ _ h1 h2 h3 => ⟨d, rfl, h1, h2, h3⟩) (Has.of hm Fu hb_tupled (ok_tupled T hm Fu n)) Fu
theorem ok_lists (T : Tx K mg) {f : Addr} {fd : FuncData} (hm : mg "_law_lists" = some (.ref f)) (Fu : Fun K "_law_lists" "_law_lists" s__law_lists f fd) : ∀ n, FnD P w K mg base (n + 1) f fd ["_law_matter"] (cn_deep lsD n)
  | 0 => ok_lists1 T (cn := fun _ _ _ => False) (fun _ _ _ h => absurd rfl h) (Has.of hm Fu hb__law_lists fn_none) Fu
  | n + 1 => ok_lists1 T (fun d _ _ _ h1 h2 h3 => ⟨d, rfl, h1, h2, h3⟩) (Has.of hm Fu hb__law_lists (ok_lists T hm Fu n)) Fu
end
end LW

set_option Elab.async false
set_option linter.all false
set_option maxRecDepth 100000
set_option maxHeartbeats 4000000
namespace LW
open PySem PySem.Spec L2 DL
local macro_rules | `(tactic| walk_at "mem") => `(tactic| ((repeat rw [upM_ne (by assumption)]); first | exact upM_same | assumption))
local macro_rules | `(tactic| walk_at "look") => `(tactic| first | rfl | assumption | exact atI_map0 | exact atI_map1 | walk_at "mem" | (with_reducible apply lsOf_m; walk_at "mem") | (with_reducible apply sqOf_m; walk_at "mem") | (with_reducible apply rlOf_m; walk_at "mem") | (with_reducible apply sqOf'_m; walk_at "mem") | (with_reducible apply tru_l; walk_at "mem") | (with_reducible apply tru_d; walk_at "mem") | ((simp (discharger := assumption) only [sqOf, sqOf', rlOf, lsOf, tru, upM_same, upM_ne]) <;> rfl))
local macro_rules | `(tactic| walk_at "set") => `(tactic| (simp only [wipeD, List.set_cons_zero, List.set_cons_succ, List.set_nil]; rfl))
local macro_rules | `(tactic| walk_at "side") => `(tactic| first | omega | (simp only [List.length_map, List.length_cons, List.length_nil]; omega) | assumption | rfl | decide | exact ⟨by omega, by omega⟩ | exact Nat.le_of_ble_eq_true rfl)
local macro_rules | `(tactic| walk_at "head") => `(tactic| with_reducible conv => whnf)
local macro_rules | `(tactic| walk_at "step") => `(tactic| (walk_at "head"; first
  | ((with_reducible apply gN_go); (focus walk_at "set"))
  | ((with_reducible apply e1s); (focus rfl))
  | ((with_reducible apply e1); (focus walk_at "look"))
  | ((with_reducible apply e2); (focus walk_at "look"); (focus walk_at "look"))
  | ((with_reducible apply l1); (focus walk_at "look"))
  | ((with_reducible apply l2); (focus walk_at "look"); (focus walk_at "look"))
  | ((with_reducible apply e3); (focus walk_at "look"); (focus walk_at "look"); (focus walk_at "look"))
  | ((with_reducible apply e0a); (focus walk_at "look"))
  | ((with_reducible apply And.intro); (focus walk_at "side"))
  | ((with_reducible apply d1); (focus walk_at "look"))
  | ((with_reducible apply d2); (focus walk_at "look"); (focus walk_at "look"))
  | ((with_reducible apply d3); (focus walk_at "look"); (focus walk_at "look"); (focus walk_at "look"))
  | ((with_reducible apply d0); (focus walk_at "look"))
  | ((with_reducible apply lk1); (focus walk_at "look"))
  | with_reducible apply gw2_go
  | with_reducible apply gw3_go
  | with_reducible apply gs_go
  | with_reducible apply gt2_go
  | with_reducible apply gt3_go
  | with_reducible apply gt1_go
  | with_reducible apply gt4_go
  | with_reducible apply gt5_go
  | with_reducible apply gt6_go
  | with_reducible apply gt7_go
  | with_reducible apply gt8_go
  | with_reducible apply ift_go
  | with_reducible apply iff_go
  | ((with_reducible apply ifT_go); (focus rfl))
  | ((with_reducible apply ifF_go); (focus rfl))))
local macro_rules | `(tactic| walk_at "run") => `(tactic| (repeat walk_at "step"); walk_at "head")
local macro_rules | `(tactic| walk_at "start") => `(tactic| simp only [startD, List.map_cons, List.map_nil, List.length_cons, List.length_nil, List.replicate, List.cons_append, List.nil_append, Nat.reduceAdd, Nat.reduceSub, bodyK])
/-! ### what a content is -/
def numD : PyData → Bool
  | .int i => decide (0 ≤ i)
  | _ => false
def stateD : PyData → Bool
  | .int i => decide (0 ≤ i)
  | .str s => decide (s = "ghost")
  | _ => false
def pairD : PyData → Bool
  | .tuple [_, _] => true
  | _ => false
def asc : List Int → Bool
  | [] => true
  | [_] => true
  | a :: b :: r => decide (a < b) && asc (b :: r)
theorem asc_zip : ∀ ns : List Int, ((ns.zip (ns.drop 1)).map fun p => decide (p.1 < p.2)).all id = asc ns
  | [] => rfl
  | [_] => rfl
  | a :: b :: r => by
    have ih := asc_zip (b :: r)
    simp only [List.drop_succ_cons, List.drop_zero] at ih ⊢
    rw [List.zip_cons_cons, List.map_cons, List.all_cons, ih, asc]
    rfl
theorem pairD_eq {d : PyData} (h : pairD d = true) : ∃ x y, d = .tuple [x, y] := by
  unfold pairD at h
  split at h
  · exact ⟨_, _, rfl⟩
  · cases h
theorem numD_eq {d : PyData} (h : numD d = true) : ∃ i, d = .int i ∧ 0 ≤ i := by
  unfold numD at h
  split at h
  · exact ⟨_, rfl, of_decide_eq_true h⟩
  · cases h
/-- an entry, a pair with a number as its first -/
abbrev enE (e : Int × PyData) : PyData := .tuple [.int e.1, e.2]
/-- a leaf of these entries -/
abbrev leafE (es : List (Int × PyData)) : PyData := .tuple [.str "leaf", .tuple (es.map enE)]
def entD : PyData → Bool
  | .tuple [x, y] => numD x && stateD y
  | _ => false
theorem entD_eq {d : PyData} (h : entD d = true) : ∃ i y, d = enE (i, y) ∧ 0 ≤ i ∧ stateD y = true := by
  unfold entD at h
  split at h
  · rw [Bool.and_eq_true] at h
    obtain ⟨i, rfl, hi⟩ := numD_eq h.1
    exact ⟨i, _, rfl, hi, h.2⟩
  · cases h
theorem ents_eq : ∀ {xs : List PyData}, xs.all entD = true → ∃ es : List (Int × PyData), xs = es.map enE
  | [], _ => ⟨[], rfl⟩
  | x :: xs, h => by
    rw [List.all_cons, Bool.and_eq_true] at h
    obtain ⟨i, y, rfl, _⟩ := entD_eq h.1
    obtain ⟨es, rfl⟩ := ents_eq h.2
    exact ⟨(i, y) :: es, rfl⟩
def entriesD : PyData → Bool
  | .tuple xs => decide (xs.length ≤ 4) && (xs.all entD && asc (xs.map keyD))
  | _ => false
abbrev enC (c : PyData × Int) : PyData := .tuple [c.1, .int c.2]
def chD : PyData → Bool
  | .tuple [_, y] => numD y
  | _ => false
theorem chD_eq {d : PyData} (h : chD d = true) : ∃ x i, d = enC (x, i) ∧ 0 ≤ i := by
  unfold chD at h
  split at h
  · obtain ⟨i, rfl, hi⟩ := numD_eq h
    exact ⟨_, i, rfl, hi⟩
  · cases h
theorem chs_eq : ∀ {xs : List PyData}, xs.all chD = true → ∃ cs : List (PyData × Int), xs = cs.map enC
  | [], _ => ⟨[], rfl⟩
  | x :: xs, h => by
    rw [List.all_cons, Bool.and_eq_true] at h
    obtain ⟨i, y, rfl, _⟩ := chD_eq h.1
    obtain ⟨es, rfl⟩ := chs_eq h.2
    exact ⟨(i, y) :: es, rfl⟩
def intOf : PyData → Int
  | .int i => i
  | _ => 0
theorem nums_eq : ∀ {xs : List PyData}, xs.all numD = true → ∃ ns : List Int, xs = ns.map PyData.int ∧ xs.map intOf = ns
  | [], _ => ⟨[], rfl, rfl⟩
  | x :: xs, h => by
    rw [List.all_cons, Bool.and_eq_true] at h
    obtain ⟨i, rfl, _⟩ := numD_eq h.1
    obtain ⟨ns, h1, h2⟩ := nums_eq h.2
    exact ⟨i :: ns, by rw [h1]; rfl, by rw [List.map_cons, h2]; rfl⟩
def fstD : PyData → PyData
  | .tuple (x :: _) => x
  | _ => .none
def sndI : PyData → Int
  | .tuple [_, .int i] => i
  | _ => 0
def childrenD : PyData → Bool
  | .tuple [] => false
  | .tuple (x :: xs) => decide (xs.length < 4) && ((x :: xs).all chD && (isN (fstD x) && ((xs.map fstD).all numD && (asc ((xs.map fstD).map intOf) && decide ((srtS ((x :: xs).map sndI)).length = (x :: xs).length)))))
  | _ => false
def contD : PyData → Bool
  | .tuple [.str w] => decide (w = "free")
  | .tuple [.str w, x] => (decide (w = "leaf") && entriesD x) || (decide (w = "inner") && childrenD x)
  | _ => false
def cn_b (g : PyData → Bool) : Cn := fun rs M R => ∃ d, rs = [.d d] ∧ R (.b (g d)) M
def cn_asc : Cn := fun rs M R => ∃ ns : List Int, rs = [.d (intD ns)] ∧ ns.length ≤ 1000 ∧ R (.b (asc ns)) M
section
variable {P : Program} {w : World} {K : PySem.W.Frag} {mg : Str → Option Value} {base : Heap}
end
end LW

set_option Elab.async false
set_option linter.all false
set_option maxRecDepth 100000
set_option maxHeartbeats 4000000
namespace LW
open PySem PySem.Spec L2 DL
local macro_rules | `(tactic| walk_at "mem") => `(tactic| ((repeat rw [upM_ne (by assumption)]); first | exact upM_same | assumption))
local macro_rules | `(tactic| walk_at "look") => `(tactic| first | rfl | assumption | exact atI_map0 | exact atI_map1 | walk_at "mem" | (with_reducible apply lsOf_m; walk_at "mem") | (with_reducible apply sqOf_m; walk_at "mem") | (with_reducible apply rlOf_m; walk_at "mem") | (with_reducible apply sqOf'_m; walk_at "mem") | (with_reducible apply tru_l; walk_at "mem") | (with_reducible apply tru_d; walk_at "mem") | ((simp (discharger := assumption) only [sqOf, sqOf', rlOf, lsOf, tru, upM_same, upM_ne]) <;> rfl))
local macro_rules | `(tactic| walk_at "set") => `(tactic| (simp only [wipeD, List.set_cons_zero, List.set_cons_succ, List.set_nil]; rfl))
local macro_rules | `(tactic| walk_at "side") => `(tactic| first | omega | (simp only [List.length_map, List.length_cons, List.length_nil]; omega) | assumption | rfl | decide | exact ⟨by omega, by omega⟩ | exact Nat.le_of_ble_eq_true rfl)
local macro_rules | `(tactic| walk_at "head") => `(tactic| with_reducible conv => whnf)
local macro_rules | `(tactic| walk_at "step") => `(tactic| (walk_at "head"; first
  | ((with_reducible apply gN_go); (focus walk_at "set"))
  | ((with_reducible apply e1s); (focus rfl))
  | ((with_reducible apply e1); (focus walk_at "look"))
  | ((with_reducible apply e2); (focus walk_at "look"); (focus walk_at "look"))
  | ((with_reducible apply l1); (focus walk_at "look"))
  | ((with_reducible apply l2); (focus walk_at "look"); (focus walk_at "look"))
  | ((with_reducible apply e3); (focus walk_at "look"); (focus walk_at "look"); (focus walk_at "look"))
  | ((with_reducible apply e0a); (focus walk_at "look"))
  | ((with_reducible apply And.intro); (focus walk_at "side"))
  | ((with_reducible apply d1); (focus walk_at "look"))
  | ((with_reducible apply d2); (focus walk_at "look"); (focus walk_at "look"))
  | ((with_reducible apply d3); (focus walk_at "look"); (focus walk_at "look"); (focus walk_at "look"))
  | ((with_reducible apply d0); (focus walk_at "look"))
  | ((with_reducible apply lk1); (focus walk_at "look"))
  | with_reducible apply gw2_go
  | with_reducible apply gw3_go
  | with_reducible apply gs_go
  | with_reducible apply gt2_go
  | with_reducible apply gt3_go
  | with_reducible apply gt1_go
  | with_reducible apply gt4_go
  | with_reducible apply gt5_go
  | with_reducible apply gt6_go
  | with_reducible apply gt7_go
  | with_reducible apply gt8_go
  | with_reducible apply ift_go
  | with_reducible apply iff_go
  | ((with_reducible apply ifT_go); (focus rfl))
  | ((with_reducible apply ifF_go); (focus rfl))))
local macro_rules | `(tactic| walk_at "run") => `(tactic| (repeat walk_at "step"); walk_at "head")
local macro_rules | `(tactic| walk_at "start") => `(tactic| simp only [startD, List.map_cons, List.map_nil, List.length_cons, List.length_nil, List.replicate, List.cons_append, List.nil_append, Nat.reduceAdd, Nat.reduceSub, bodyK])
abbrev intS (ns : List Int) : List Sl := ns.map fun n => Sl.i n
def Small (ns : List Int) : Prop := ∀ n ∈ ns, n.natAbs < 10 ^ 30
theorem szs_ints : ∀ {ns : List Int}, Small ns → szs WD (ns.map PyData.int) = 42 * ns.length
  | [], _ => rfl
  | n :: r, h => by
    rw [List.map_cons, szs, szs_ints (fun m hm => h m (List.mem_cons_of_mem _ hm)), sz, if_pos (Nat.lt_trans (h n List.mem_cons_self) (by decide +kernel)), List.length_cons]; omega
theorem depth_ints : ∀ ns : List Int, PyData.depthAll (ns.map PyData.int) ≤ 1
  | [] => by simp [PyData.depthAll]
  | n :: r => by
    have := depth_ints r
    simp only [List.map_cons, PyData.depthAll, PyData.depth]
    omega
theorem shaped_ints {ns : List Int} (h : Small ns) (hl : ns.length ≤ 1000) : SeqAt.shaped (intD ns) = true := by
  refine shaped_of wds ?_ ?_
  · rw [sz, szs_ints h]; omega
  · have := depth_ints ns
    simp only [PyData.depth]; omega
theorem eqv_nil (ns : List Int) : PyData.eqv (intD ns) (.list []) = ns.isEmpty := by
  cases ns <;> simp [intD, PyData.eqv, PyData.eqvAll]
def cn_strewn : Cn := fun rs M R => ∃ b B ns m, rs = [.v (.ref b), .d (intD ns)] ∧ M b = some B.mo ∧ Bx.Ok B (m + ns.length) ∧ Small ns ∧ ns.length ≤ 1000 ∧ ∀ es B', es.Perm ns → Bx.Ok B' m → R (.d (intD es)) (upM M b B'.mo)
section
variable {P : Program} {w : World} {K : PySem.W.Frag} {mg : Str → Option Value} {base : Heap}
theorem ok_strewn (T : Tx K mg) (H__law_take : Has P w K mg base 1 "_law_take" s__law_take ["_law_box_here", "_law_below"] cn_take) {f : Addr} {fd : FuncData} (Fu : Fun K "_law_strewn" "_law_strewn" s__law_strewn f fd) : FnD P w K mg base 2 f fd ["_law_box_here", "_law_some"] cn_strewn := by
  refine fnD_of Fu sc__law_strewn (fun rs M R h => ?_) fun cdv A outer s H hgd hr => ⟨_, (pdb_cons (pds_par 2 3 rfl sc__law_strewn.nd (by decide) (pda_cons (pd_callT c_listM (by rfl) T.z_list (by decide +kernel) (pda_cons (pd_var 1) pda_nil)) (pda_cons (pd_lstM pda_nil) pda_nil)))
      (pdb_cons (pds_while PassesOwn.never (pdt_cmp (o_ne hr.units) (pd_var 2) (pd_lst pda_nil) (nomark _)) (pdb_one (pds_expr (pd_append (pd_var 3) (pda_cons (pd_popAt (pd_var 2) (pda_cons (pd_fn H__law_take hgd (hr.mono (by first | decide | omega)) (by rfl) (pda_cons (pd_var 0) (pda_cons (pd_callB c_len (by rfl) T.z_len (by decide +kernel) (pda_cons (pd_var 2) pda_nil)) pda_nil))) pda_nil)) pda_nil)))))
      (pdb_one (pds_ret (pd_var 3))))), ?_⟩
  · obtain ⟨b, B, ns, m, rfl, _⟩ := h
    rfl
  · rintro rs M R ⟨b, B, ns, m, rfl, hb, ok, sm, hl, k⟩
    walk_at "start"
    walk_at "run"
    intro p hp
    walk_at "run"
    intro q hq
    have hpq : q ≠ p := fun e => by subst e; rw [upM_same] at hq; cases hq
    rw [upM_ne hpq] at hq
    have hbp : b ≠ p := neM hb hp
    have hbq : b ≠ q := neM hb hq
    simp only [List.set_cons_zero, List.set_cons_succ]
    walk_at "run"
    refine while_ind1 (n := ns.length) (fun n dl M' => ∃ left found B', dl = [some (.v (.ref b)), some (.d (intD ns)), some (.v (.ref p)), some (.v (.ref q))] ∧ M' b = some (Bx.mo B') ∧ Bx.Ok B' (m + n) ∧ M' p = some (.lst (intS left)) ∧ M' q = some (.lst (intS found)) ∧ left.length = n ∧ (found ++ left).Perm ns ∧ Kp [b] M M') ?_ ?_ ⟨ns, [], B, rfl, ?_, ok, ?_, ?_, rfl, List.Perm.refl _, ?_⟩
    · rintro nx dl M' ⟨left, found, B', rfl, h1, h2, h3, h4, h5, h6, h7⟩
      have e := List.length_eq_zero_iff.mp h5
      subst e
      rw [List.append_nil] at h6
      walk_at "run"
      refine ⟨_, _, Vw.frz (ds := found.map PyData.int) (by rw [h4, ← mapI]) (le1 h1 h7) ?_, k found B' h6 h2⟩
      rw [upM_ne (Ne.symm hbq)]; exact hq
    · rintro n nx dl M' hnx ⟨left, found, B', rfl, h1, h2, h3, h4, h5, h6, h7⟩
      have hm : M' = upM (upM (upM M' b B'.mo) p (.lst (intS left))) q (.lst (intS found)) := by rw [upM_self h1, upM_self h3, upM_self h4]
      have hqp := hpq
      have hpq := Ne.symm hqp
      have hpb := Ne.symm hbp
      have hqb := Ne.symm hbq
      have sl : Small left := fun x hx => sm x (h6.mem_iff.mp (List.mem_append_right _ hx))
      have ll : left.length ≤ 1000 := by have := h6.length_eq; rw [List.length_append] at this; omega
      rw [hm]
      walk_at "run"
      refine ⟨_, left.map PyData.int, by walk_at "look", datI left, shaped_ints sl ll, by decide +kernel, ?_⟩
      rw [eqv_nil]
      have hne : left.isEmpty = false := by cases left with | nil => cases h5 | cons _ _ => rfl
      rw [hne]
      walk_at "run"
      simp only [List.length_map]
      refine ⟨b, B', _, m + n, rfl, by walk_at "look", h2, by omega, by omega, fun v B2 v0 v1 ok2 => ?_⟩
      walk_at "run"
      have hv : v.toNat < left.length := by omega
      refine ⟨_, .i left[v.toNat], by walk_at "look", v0, by omega, ?_, ?_⟩
      · rw [List.getElem?_map, List.getElem?_eq_getElem hv]; rfl
      walk_at "run"
      refine ⟨by rw [List.length_map, sizeLine_eq]; have := h6.length_eq; rw [List.length_append] at this; omega, ?_⟩
      walk_at "head"
      refine hnx _ _ ⟨left.eraseIdx v.toNat, found ++ [left[v.toNat]], B2, rfl, by walk_at "look", ok2, ?_, ?_, ?_, ?_, ?_⟩
      · rw [upM_ne hpq, upM_same, map_erase]
      · rw [upM_same]; unfold intS; rw [List.map_append]; rfl
      · rw [List.length_eraseIdx_of_lt hv]; omega
      · refine List.Perm.trans ?_ h6
        rw [List.append_assoc]
        exact (erase_perm (List.getElem?_eq_getElem hv)).append_left found
      · exact (((((h7.up (by simp)).upN hp).upN hq).up (by simp)).upN hp).upN hq
    · rw [upM_ne hbq, upM_ne hbp]; exact hb
    · rw [upM_ne (Ne.symm hpq), upM_same, ← mapI]
    · rw [upM_same]; rfl
    · exact (Kp.new (Kp.refl _ _) hp).new (by rw [upM_ne hpq]; exact hq)
end
end LW

set_option Elab.async false
set_option linter.all false
set_option maxRecDepth 100000
set_option maxHeartbeats 4000000
namespace LW
open PySem PySem.Spec L2 DL
/-! ### draws in a comprehension -/
theorem lc_box {g : WG} {wt : WT} {we : WE} {dl : Env'} {R : List Sl → Mem → Prop} {items : List Sl} {M1 : Mem} {b : Addr} {B : Bx} (m c : Nat) (E : Sl → Prop) (hz : items.length ≤ sizeLine) (ok : Bx.Ok B (m + c * items.length))
    (h : ∀ x ∈ items, ∀ (B' : Bx) (m' : Nat) (nx : Sl → Mem → Prop) (k0 : Mem → Prop), Bx.Ok B' (m' + c) → (∀ y B2, E y → Bx.Ok B2 m' → nx y (upM M1 b B2.mo)) → g x dl (upM M1 b B'.mo) fun dl2 M2 => wt dl2 M2 fun k M3 => if k = true then we dl2 M3 nx else k0 M3)
    (hR : ∀ acc B', acc.length = items.length → (∀ y ∈ acc, E y) → Bx.Ok B' m → R acc (upM M1 b B'.mo)) : lcGo g wt we C0 dl R items [] (upM M1 b B.mo) := by
  refine lc_seq (fun i acc M' => i ≤ items.length ∧ ∃ B', M' = upM M1 b (Bx.mo B') ∧ Bx.Ok B' (m + c * (items.length - i)) ∧ ∀ y ∈ acc, E y) hz ⟨Nat.zero_le _, B, rfl, ok, fun y hy => by cases hy⟩ ?_ ?_
  · rintro i x acc M nx k0 hx ha ⟨hi, B', rfl, ok', hE⟩ hnx
    have hlt := (List.getElem?_eq_some_iff.mp hx).1
    refine ⟨trivial, h x (List.mem_of_getElem? hx) B' (m + c * (items.length - (i + 1))) nx k0 (ok'.mono ?_) fun y B2 hy ok2 => hnx y _ ⟨hlt, B2, rfl, ok2, fun z hz => ?_⟩⟩
    · have e : items.length - i = items.length - (i + 1) + 1 := by omega
      rw [e, Nat.mul_add]; omega
    · rcases List.mem_append.mp hz with q | q
      · exact hE z q
      · simp at q; subst q; exact hy
  · rintro acc M ha ⟨_, B', rfl, ok', hE⟩
    exact ⟨trivial, hR acc B' ha hE (ok'.mono (by omega))⟩
/-! ### what is grown -/
def StOk (s : PyData) : Prop := s = .str "ghost" ∨ ∃ n : Int, 0 ≤ n ∧ n < 10 ∧ s = .int n
structure EsOk (lo hi : Int) (es : List (Int × PyData)) : Prop where
  len : es.length ≤ 4
  asc : (es.map (·.1)).Pairwise (· < ·)
  rng : ∀ e ∈ es, lo ≤ e.1 ∧ e.1 < hi
  st : ∀ e ∈ es, StOk e.2
structure CutsOk (mx : Nat) (lo hi : Int) (cs : List Int) : Prop where
  len : cs.length ≤ mx
  asc : cs.Pairwise (· < ·)
  rng : ∀ c ∈ cs, lo < c ∧ c < hi
def innerE (cs ks : List Int) : PyData := .tuple [.str "inner", .tuple ((PyData.none :: cs.map PyData.int).zip (ks.map PyData.int) |>.map fun p => .tuple [p.1, p.2])]
abbrev GR := Int → Int → List Int → List Int → List (Int × PyData) → Int → Prop
def GrownL (G : GR) : List (Int × Int) → List Int → List Int → List (Int × PyData) → List Int → Prop
  | [], ns, ns', st, ks => ns' = ns ∧ st = [] ∧ ks = []
  | r :: rs, ns, ns', st, ks => ∃ ns1 st1 st2 k ks', G r.1 r.2 ns ns1 st1 k ∧ GrownL G rs ns1 ns' st2 ks' ∧ st = st1 ++ st2 ∧ ks = k :: ks'
def Grown (mx : Nat) : Nat → GR
  | 0 => fun lo hi ns ns' st p => ns = ns' ++ [p] ∧ ∃ es, EsOk lo hi es ∧ st = [(p, leafE es)]
  | d + 1 => fun lo hi ns ns' st p => ∃ ns1 cs st1 ks, ns = ns1 ++ [p] ∧ CutsOk mx lo hi cs ∧ (p = 0 → cs ≠ []) ∧ GrownL (Grown mx d) ((lo :: cs).zip (cs ++ [hi])) ns1 ns' st1 ks ∧ st = st1 ++ [(p, innerE cs ks)]
theorem GrownL.snoc {G : GR} : ∀ {rs : List (Int × Int)} {ns ns1 ns2 : List Int} {st st2 : List (Int × PyData)} {ks : List Int} {r : Int × Int} {k : Int}, GrownL G rs ns ns1 st ks → G r.1 r.2 ns1 ns2 st2 k → GrownL G (rs ++ [r]) ns ns2 (st ++ st2) (ks ++ [k])
  | [], ns, ns1, ns2, st, st2, ks, r, k, h, g => by
    obtain ⟨rfl, rfl, rfl⟩ := h
    exact ⟨ns2, st2, [], k, [], g, ⟨rfl, rfl, rfl⟩, by simp, rfl⟩
  | q :: rs, ns, ns1, ns2, st, st2, ks, r, k, h, g => by
    obtain ⟨n3, s1, s2, k1, ks1, a, b, rfl, rfl⟩ := h
    exact ⟨n3, s1, s2 ++ st2, k1, ks1 ++ [k], a, b.snoc g, by simp, rfl⟩
theorem GrownL.len {G : GR} : ∀ {rs : List (Int × Int)} {ns ns1 : List Int} {st : List (Int × PyData)} {ks : List Int}, GrownL G rs ns ns1 st ks → ks.length = rs.length
  | [], _, _, _, _, h => by obtain ⟨_, _, rfl⟩ := h; rfl
  | _ :: rs, _, _, _, _, h => by obtain ⟨_, _, _, _, _, _, b, _, rfl⟩ := h; simp [b.len]
def szT (mx : Nat) : Nat → Nat
  | 0 => 1
  | d + 1 => 1 + (mx + 1) * szT mx d
def costT : Nat → Nat
  | 0 => 17
  | d + 1 => 4 + 4 * costT d
/-- the pages that were taken -/
def Tk (n : Nat) (ns ns' : List Int) (st : List (Int × PyData)) : Prop := ∃ t, ns = ns' ++ t ∧ t.Perm (st.map (·.1)) ∧ t.length ≤ n
theorem GrownL.tk {G : GR} {n : Nat} (hG : ∀ lo hi ns ns' st p, G lo hi ns ns' st p → Tk n ns ns' st) : ∀ {rs : List (Int × Int)} {ns ns1 : List Int} {st : List (Int × PyData)} {ks : List Int}, GrownL G rs ns ns1 st ks → Tk (rs.length * n) ns ns1 st
  | [], _, _, _, _, h => by obtain ⟨rfl, rfl, rfl⟩ := h; exact ⟨[], by simp, by simp, by simp⟩
  | _ :: rs, _, _, _, _, h => by
    obtain ⟨n3, s1, s2, k1, ks1, a, b, rfl, rfl⟩ := h
    obtain ⟨t1, rfl, p1, l1⟩ := hG _ _ _ _ _ _ a
    obtain ⟨t2, rfl, p2, l2⟩ := b.tk hG
    refine ⟨t2 ++ t1, by simp, ?_, ?_⟩
    · rw [List.map_append]
      exact List.perm_append_comm.trans (p1.append p2)
    · rw [List.length_append, List.length_cons, Nat.add_mul]; omega
theorem Grown.tk {mx : Nat} : ∀ (d : Nat) (lo hi : Int) (ns ns' : List Int) (st : List (Int × PyData)) (p : Int), Grown mx d lo hi ns ns' st p → Tk (szT mx d) ns ns' st
  | 0, _, _, _, _, _, _, h => by
    obtain ⟨rfl, es, _, rfl⟩ := h
    exact ⟨_, rfl, List.Perm.refl _, Nat.le_refl _⟩
  | d + 1, lo, hi, ns, ns', st, p, h => by
    obtain ⟨ns1, cs, st1, ks, rfl, hc, _, hl, rfl⟩ := h
    obtain ⟨t, rfl, p1, l1⟩ := hl.tk (Grown.tk d)
    refine ⟨t ++ [p], by simp, ?_, ?_⟩
    · rw [List.map_append]; exact p1.append_right _
    · have := hc.len
      rw [List.length_zip, List.length_append, List.length_cons, List.length_singleton, Nat.min_self] at l1
      have : (cs.length + 1) * szT mx d ≤ (mx + 1) * szT mx d := Nat.mul_le_mul_right _ (by omega)
      rw [List.length_append, List.length_singleton, szT]; omega
/-! ### the world that grows -/
abbrev stS (st : List (Int × PyData)) : KS := st.map fun e => (Sum.inl e.1, Sl.d e.2)
abbrev wdS (nA sA : Addr) (cu : List Int) : KS := [(Sum.inr "numbers", .v (.ref nA)), (Sum.inr "stuffs", .v (.ref sA)), (Sum.inr "cuts", .d (intD cu))]
theorem wd_num {nA sA : Addr} {cu : List Int} : valS (wdS nA sA cu) (.inr "numbers") = some (.v (.ref nA)) := by rw [valS_cons, if_pos rfl]
theorem wd_stu {nA sA : Addr} {cu : List Int} : valS (wdS nA sA cu) (.inr "stuffs") = some (.v (.ref sA)) := by
  rw [valS_cons, if_neg (by decide), valS_cons, if_pos rfl]
theorem wd_cut {nA sA : Addr} {cu : List Int} : valS (wdS nA sA cu) (.inr "cuts") = some (.d (intD cu)) := by
  rw [valS_cons, if_neg (by decide), valS_cons, if_neg (by decide), valS_cons, if_pos rfl]
/-- all that is asked of numbers, of the table and of the range -/
structure GIn (mx d : Nat) (lo hi : Int) (ns : List Int) (st : List (Int × PyData)) : Prop where
  mx1 : 1 ≤ mx
  mx3 : mx ≤ 3
  lo0 : 0 ≤ lo
  lt : lo < hi
  hi1 : hi ≤ 1000000
  size : szT mx d ≤ ns.length
  nd : ns.Nodup
  new : ∀ n ∈ ns, n ∉ st.map (·.1)
  small : Small ns
  zero : 0 ∈ ns → ns.getLast? = some 0 ∧ lo + 2 ≤ hi
  few : st.length + ns.length ≤ 1000
structure CuOk (mx : Nat) (cu : List Int) : Prop where
  ne : cu ≠ []
  len : cu.length ≤ 10
  rng : ∀ c ∈ cu, 0 ≤ c ∧ c ≤ (mx : Int)
def cn_grown (d : Nat) : Cn := fun rs M R => ∃ mx b w nA sA B ns st cu lo hi m, rs = [.v (.ref b), .v (.ref w), .i lo, .i hi, .i (d : Int)] ∧ M b = some (Bx.mo B) ∧ M w = some (.dic (wdS nA sA cu)) ∧ M nA = some (.lst (intS ns)) ∧ M sA = some (.dic (stS st)) ∧ b ≠ nA ∧ w ≠ sA ∧
  Bx.Ok B (m + costT d) ∧ CuOk mx cu ∧ GIn mx d lo hi ns st ∧ ∀ B' ns' st' p, Grown mx d lo hi ns ns' st' p → Bx.Ok B' m → R (.i p) (upM (upM (upM M b B'.mo) nA (.lst (intS ns'))) sA (.dic (stS (st ++ st'))))
end LW

set_option Elab.async false
set_option linter.all false
set_option maxRecDepth 100000
set_option maxHeartbeats 4000000
namespace LW
open PySem PySem.Spec L2 DL
local macro_rules | `(tactic| walk_at "mem") => `(tactic| ((repeat rw [upM_ne (by assumption)]); first | exact upM_same | assumption))
local macro_rules | `(tactic| walk_at "look") => `(tactic| first | rfl | assumption | exact atI_map0 | exact atI_map1 | walk_at "mem" | (with_reducible apply lsOf_m; walk_at "mem") | (with_reducible apply sqOf_m; walk_at "mem") | (with_reducible apply rlOf_m; walk_at "mem") | (with_reducible apply sqOf'_m; walk_at "mem") | (with_reducible apply tru_l; walk_at "mem") | (with_reducible apply tru_d; walk_at "mem") | ((simp (discharger := assumption) only [sqOf, sqOf', rlOf, lsOf, tru, upM_same, upM_ne]) <;> rfl))
local macro_rules | `(tactic| walk_at "set") => `(tactic| (simp only [wipeD, List.set_cons_zero, List.set_cons_succ, List.set_nil]; rfl))
local macro_rules | `(tactic| walk_at "side") => `(tactic| first | omega | (simp only [List.length_map, List.length_cons, List.length_nil]; omega) | assumption | rfl | decide | exact ⟨by omega, by omega⟩ | exact Nat.le_of_ble_eq_true rfl)
local macro_rules | `(tactic| walk_at "head") => `(tactic| with_reducible conv => whnf)
local macro_rules | `(tactic| walk_at "step") => `(tactic| (walk_at "head"; first
  | ((with_reducible apply gN_go); (focus walk_at "set"))
  | ((with_reducible apply e1s); (focus rfl))
  | ((with_reducible apply e1); (focus walk_at "look"))
  | ((with_reducible apply e2); (focus walk_at "look"); (focus walk_at "look"))
  | ((with_reducible apply l1); (focus walk_at "look"))
  | ((with_reducible apply l2); (focus walk_at "look"); (focus walk_at "look"))
  | ((with_reducible apply e3); (focus walk_at "look"); (focus walk_at "look"); (focus walk_at "look"))
  | ((with_reducible apply e0a); (focus walk_at "look"))
  | ((with_reducible apply And.intro); (focus walk_at "side"))
  | ((with_reducible apply d1); (focus walk_at "look"))
  | ((with_reducible apply d2); (focus walk_at "look"); (focus walk_at "look"))
  | ((with_reducible apply d3); (focus walk_at "look"); (focus walk_at "look"); (focus walk_at "look"))
  | ((with_reducible apply d0); (focus walk_at "look"))
  | ((with_reducible apply lk1); (focus walk_at "look"))
  | with_reducible apply gw2_go
  | with_reducible apply gw3_go
  | with_reducible apply gs_go
  | with_reducible apply gt2_go
  | with_reducible apply gt3_go
  | with_reducible apply gt1_go
  | with_reducible apply gt4_go
  | with_reducible apply gt5_go
  | with_reducible apply gt6_go
  | with_reducible apply gt7_go
  | with_reducible apply gt8_go
  | with_reducible apply ift_go
  | with_reducible apply iff_go
  | ((with_reducible apply ifT_go); (focus rfl))
  | ((with_reducible apply ifF_go); (focus rfl))))
local macro_rules | `(tactic| walk_at "run") => `(tactic| (repeat walk_at "step"); walk_at "head")
local macro_rules | `(tactic| walk_at "start") => `(tactic| simp only [startD, List.map_cons, List.map_nil, List.length_cons, List.length_nil, List.replicate, List.cons_append, List.nil_append, Nat.reduceAdd, Nat.reduceSub, bodyK])
local macro_rules | `(tactic| walk_at "look") => `(tactic| first | exact wd_num | exact wd_stu | exact wd_cut)
theorem ints_of_all {E : Int → Prop} : ∀ {acc : List Sl}, (∀ y ∈ acc, ∃ n, y = Sl.i n ∧ E n) → ∃ ns : List Int, acc = intS ns ∧ ∀ n ∈ ns, E n
  | [], _ => ⟨[], rfl, fun _ h => by cases h⟩
  | y :: r, h => by
    obtain ⟨n, rfl, hn⟩ := h y List.mem_cons_self
    obtain ⟨ns, rfl, hr⟩ := ints_of_all (fun z hz => h z (List.mem_cons_of_mem _ hz))
    exact ⟨n :: ns, rfl, fun m hm => by rcases List.mem_cons.mp hm with rfl | hm; exact hn; exact hr m hm⟩
theorem data_of_all {E : PyData → Prop} : ∀ {acc : List Sl}, (∀ y ∈ acc, ∃ d, y = Sl.d d ∧ E d) → ∃ ds : List PyData, acc = ds.map Sl.d ∧ ∀ d ∈ ds, E d
  | [], _ => ⟨[], rfl, fun _ h => by cases h⟩
  | y :: r, h => by
    obtain ⟨n, rfl, hn⟩ := h y List.mem_cons_self
    obtain ⟨ns, rfl, hr⟩ := data_of_all (fun z hz => h z (List.mem_cons_of_mem _ hz))
    exact ⟨n :: ns, rfl, fun m hm => by rcases List.mem_cons.mp hm with rfl | hm; exact hn; exact hr m hm⟩
theorem zipD_en (l : List Int) (ds : List PyData) : zipD (l.map PyData.int) ds = (l.zip ds).map enE := by
  unfold zipD
  rw [List.zip_map_left, List.map_map]
  rfl
theorem cuts_rng {mx : Nat} {lo hi a c : Int} {cs : List Int} (co : CutsOk mx lo hi cs) (hl : lo < hi) (h : (a, c) ∈ (lo :: cs).zip (cs ++ [hi])) : lo ≤ a ∧ a < c ∧ c ≤ hi := by
  have h1 := co.asc
  have h2 := co.rng
  clear co
  induction cs generalizing lo with
  | nil => simp at h; omega
  | cons x r ih =>
    rw [List.cons_append, List.zip_cons_cons] at h
    have hx := h2 x List.mem_cons_self
    have hp := List.pairwise_cons.mp h1
    rcases List.mem_cons.mp h with e | h
    · cases e; omega
    · have := ih hx.2 h hp.2 fun c hc => ⟨hp.1 c hc, (h2 c (List.mem_cons_of_mem _ hc)).2⟩
      omega
theorem snoc_of {ns : List Int} (h : 0 < ns.length) : ∃ ns1 p, ns = ns1 ++ [p] := ⟨ns.dropLast, ns.getLast (List.length_pos_iff.mp h), (List.dropLast_concat_getLast _).symm⟩
section
variable {P : Program} {w : World} {K : PySem.W.Frag} {mg : Str → Option Value} {base : Heap}
theorem ok_grown1 (T : Tx K mg) {d : Nat} {cn : Cn} (hc : ∀ rs M R, d ≠ 0 → cn_grown (d - 1) rs M R → cn rs M R) (H__law_take : Has P w K mg base 1 "_law_take" s__law_take ["_law_box_here", "_law_below"] cn_take) (H__law_of : Has P w K mg base 2 "_law_of" s__law_of ["_law_box_here", "_law_some"] cn_of)
    (H__law_grown : Has P w K mg base (d + 2) "_law_grown" s__law_grown ["_law_box_here", "_law_world", "_law_low", "_law_high", "_law_depth"] cn) {f : Addr} {fd : FuncData} (Fu : Fun K "_law_grown" "_law_grown" s__law_grown f fd) : FnD P w K mg base (d + 3) f fd ["_law_box_here", "_law_world", "_law_low", "_law_high", "_law_depth"] (cn_grown d) := by
  refine fnD_of Fu sc__law_grown (fun rs M R h => ?_) fun cdv A outer s H hgd hr => ⟨_, (pdb_cons (pds_set 5 sc__law_grown.nd (pd_pop (pd_dget (hu_of hr) (pd_var 1) pd_str)))
      (pdb_cons (pds_if (pdt_cmp (o_eq hr.units) (pd_var 4) pd_int (nomark _)) (pdb_cons (pds_set 6 sc__law_grown.nd (pd_fn H__law_of hgd (hr.mono (by first | decide | omega)) (by rfl) (pda_cons (pd_var 0) (pda_cons (pd_lst (pda_cons pd_int (pda_cons pd_int (pda_cons pd_int (pda_cons pd_int (pda_cons pd_int (pda_cons pd_int (pda_cons pd_int pda_nil)))))))) pda_nil))))
      (pdb_cons (pds_set 9 sc__law_grown.nd (pd_sortedSet rfl (by rfl) T.z_sorted (by rfl) T.z_set (pd_lc (own := [("_law_turn", 14)]) rfl sc__law_grown.nd (pdi_range1 (by rfl) T.z_range (pda_cons (pd_var 6) pda_nil)) (blkOk_by (N := N__law_grown) (sc := defScope s__law_grown) (by decide +kernel)) (fun _ _ _ _ _ => (pdgw_name 14 sc__law_grown.nd)) (fun _ _ _ _ _ => pdts_nil) (fun _ _ _ _ _ => (pd_op o_plus (pd_var 2) (pd_fn H__law_take hgd (hr.mono (by first | decide | omega)) (by rfl) (pda_cons (pd_var 0) (pda_cons (pd_op o_sub (pd_var 3) (pd_var 2)) pda_nil))))))))
      (pdb_cons (pds_setLc 10 (own := [("_law_spot", 11)]) rfl sc__law_grown.nd rfl rfl (sw_true rfl rfl rfl (by decide +kernel)) (pdi_seq (pd_var 9)) (blkOk_by (N := N__law_grown) (sc := defScope s__law_grown) (by decide +kernel)) (fun _ _ _ _ _ => (pdgw_name 11 sc__law_grown.nd)) (fun _ _ _ _ _ => pdts_nil) (fun _ _ _ _ _ => (pd_fn H__law_of hgd (hr.mono (by first | decide | omega)) (by rfl) (pda_cons (pd_var 0) (pda_cons (pd_lst (pda_cons (pd_fn H__law_take hgd (hr.mono (by first | decide | omega)) (by rfl) (pda_cons (pd_var 0) (pda_cons pd_int pda_nil))) (pda_cons (pd_fn H__law_take hgd (hr.mono (by first | decide | omega)) (by rfl) (pda_cons (pd_var 0) (pda_cons pd_int pda_nil))) (pda_cons pd_str pda_nil)))) pda_nil)))))
      (pdb_cons (pds_dput (hu_of hr) (pd_dget (hu_of hr) (pd_var 1) pd_str) (pd_var 5) (pd_tup (pda_cons pd_str (pda_cons (pd_callT c_tuple (by rfl) T.z_tuple (by decide +kernel) (pda_cons (pd_lc (own := [("_law_pair", 15)]) rfl sc__law_grown.nd (pdi_zipN (by rfl) T.z_zip (pda_cons (pd_var 9) (pda_cons (pd_var 10) pda_nil))) (blkOk_by (N := N__law_grown) (sc := defScope s__law_grown) (by decide +kernel)) (fun _ _ _ _ _ => (pdgw_name 15 sc__law_grown.nd)) (fun _ _ _ _ _ => pdts_nil) (fun _ _ _ _ _ => (pd_var 15))) pda_nil)) pda_nil))))
      (pdb_one (pds_ret (pd_var 5))))))) pdb_nil)
      (pdb_cons (pds_set 6 sc__law_grown.nd (pd_if (pdt_cmp o_gt (pd_op o_sub (pd_var 3) (pd_var 2)) pd_int (nomark _)) (pd_fn H__law_of hgd (hr.mono (by first | decide | omega)) (by rfl) (pda_cons (pd_var 0) (pda_cons (pd_dget (hu_of hr) (pd_var 1) pd_str) pda_nil))) pd_int))
      (pdb_cons (pds_set 7 sc__law_grown.nd (pd_sortedSet rfl (by rfl) T.z_sorted (by rfl) T.z_set (pd_lc (own := [("_law_turn", 14)]) rfl sc__law_grown.nd (pdi_range1 (by rfl) T.z_range (pda_cons (pd_var 6) pda_nil)) (blkOk_by (N := N__law_grown) (sc := defScope s__law_grown) (by decide +kernel)) (fun _ _ _ _ _ => (pdgw_name 14 sc__law_grown.nd)) (fun _ _ _ _ _ => pdts_nil) (fun _ _ _ _ _ => (pd_op o_plus (pd_op o_plus (pd_var 2) pd_int) (pd_fn H__law_take hgd (hr.mono (by first | decide | omega)) (by rfl) (pda_cons (pd_var 0) (pda_cons (pd_op o_sub (pd_op o_sub (pd_var 3) (pd_var 2)) pd_int) pda_nil))))))))
      (pdb_cons (pds_set 7 sc__law_grown.nd (pd_if (PDW.t (pdw_and (pdt_cmp (o_eq hr.units) (pd_var 7) (pd_lst pda_nil) (nomark _)) (pdw_and1 (pdt_cmp (o_eq hr.units) (pd_var 5) pd_int (nomark _))))) (pd_lst (pda_cons (pd_op o_div (pd_op o_plus (pd_var 2) (pd_var 3)) pd_int) pda_nil)) (pd_var 7)))
      (pdb_cons (pds_setLc 8 (own := [("_law_one", 12), ("_law_two", 13)]) rfl sc__law_grown.nd rfl rfl (sw_true rfl rfl rfl (by decide +kernel)) (pdi_zip (by rfl) T.z_zip (pda_cons (pd_op o_plus (pd_lst (pda_cons (pd_var 2) pda_nil)) (pd_var 7)) (pda_cons (pd_op o_plus (pd_var 7) (pd_lst (pda_cons (pd_var 3) pda_nil))) pda_nil))) (blkOk_by (N := N__law_grown) (sc := defScope s__law_grown) (by decide +kernel)) (fun _ _ _ _ _ => (pdgw_tup (n := 2) rfl (pdgsw_cons (pdgw_name 12 sc__law_grown.nd) (pdgsw_cons (pdgw_name 13 sc__law_grown.nd) pdgsw_nil)))) (fun _ _ _ _ _ => pdts_nil) (fun _ _ _ _ _ => (pd_fn H__law_grown hgd (hr.mono (by first | decide | omega)) (by rfl) (pda_cons (pd_var 0) (pda_cons (pd_var 1) (pda_cons (pd_var 12) (pda_cons (pd_var 13) (pda_cons (pd_op o_sub (pd_var 4) pd_int) pda_nil))))))))
      (pdb_cons (pds_dput (hu_of hr) (pd_dget (hu_of hr) (pd_var 1) pd_str) (pd_var 5) (pd_tup (pda_cons pd_str (pda_cons (pd_callT c_tuple (by rfl) T.z_tuple (by decide +kernel) (pda_cons (pd_lc (own := [("_law_pair", 15)]) rfl sc__law_grown.nd (pdi_zipN (by rfl) T.z_zip (pda_cons (pd_op o_plus (pd_lst (pda_cons pd_non pda_nil)) (pd_var 7)) (pda_cons (pd_var 8) pda_nil))) (blkOk_by (N := N__law_grown) (sc := defScope s__law_grown) (by decide +kernel)) (fun _ _ _ _ _ => (pdgw_name 15 sc__law_grown.nd)) (fun _ _ _ _ _ => pdts_nil) (fun _ _ _ _ _ => (pd_var 15))) pda_nil)) pda_nil))))
      (pdb_one (pds_ret (pd_var 5)))))))))), ?_⟩
  · obtain ⟨mx, b, w, nA, sA, B, ns, st, cu, lo, hi, m, rfl, _⟩ := h
    rfl
  · rintro rs M R ⟨mx, b, w, nA, sA, B, ns, st, cu, lo, hi, m, rfl, hb, hw, hn, hs, hbn, hws, ok, cuo, gi, k⟩
    have hwb : w ≠ b := fun e => by subst e; rw [hw] at hb; cases hb
    have hwn : w ≠ nA := fun e => by subst e; rw [hw] at hn; cases hn
    have hsb : sA ≠ b := fun e => by subst e; rw [hs] at hb; cases hb
    have hsn : sA ≠ nA := fun e => by subst e; rw [hs] at hn; cases hn
    have hnb := Ne.symm hbn
    have hsw := Ne.symm hws
    have hbw := Ne.symm hwb
    have hnw := Ne.symm hwn
    have hbs := Ne.symm hsb
    have hns := Ne.symm hsn
    obtain ⟨ns1, p, rfl⟩ := snoc_of (show 0 < ns.length from Nat.lt_of_lt_of_le (by cases d <;> simp [szT]; omega) gi.size)
    walk_at "start"
    walk_at "run"
    refine ⟨_, .i p, by walk_at "look", by simp [intS], ?_⟩
    rw [show (intS (ns1 ++ [p])).dropLast = intS ns1 by simp [intS]]
    walk_at "run"
    apply ifd_go
    · intro hd
      have d0 : d = 0 := by omega
      subst d0
      simp only [costT] at ok
      have hb1 : upM M nA (.lst (intS ns1)) b = some B.mo := by rw [upM_ne hbn]; exact hb
      have hw1 : upM M nA (.lst (intS ns1)) w = some (.dic (wdS nA sA cu)) := by rw [upM_ne hwn]; exact hw
      have hs1 : upM M nA (.lst (intS ns1)) sA = some (.dic (stS st)) := by rw [upM_ne hsn]; exact hs
      have hn1 : upM M nA (.lst (intS ns1)) nA = some (.lst (intS ns1)) := upM_same
      have kp1 : Kp [b, nA, sA] M (upM M nA (.lst (intS ns1))) := (Kp.refl _ _).up (by simp)
      generalize upM M nA (.lst (intS ns1)) = M1 at *
      walk_at "run"
      refine ⟨b, B, _, m + 16, rfl, hb1, ok, by decide, by decide, fun x B1 hx ok1 => ?_⟩
      obtain ⟨many, rfl, hmany⟩ : ∃ many : Nat, x = .int (many : Int) ∧ many ≤ 4 := by
        simp only [List.mem_cons, List.not_mem_nil, or_false] at hx
        rcases hx with rfl | rfl | rfl | rfl | rfl | rfl | rfl
        · exact ⟨0, rfl, by decide⟩
        · exact ⟨1, rfl, by decide⟩
        · exact ⟨2, rfl, by decide⟩
        · exact ⟨3, rfl, by decide⟩
        · exact ⟨4, rfl, by decide⟩
        · exact ⟨4, rfl, by decide⟩
        · exact ⟨4, rfl, by decide⟩
      walk_at "run"
      refine lc_box (m + 12) 1 (fun y => ∃ n, y = .i n ∧ (lo ≤ n ∧ n < hi)) (by simp [rngS, sizeLine_eq]; omega) (ok1.mono (by simp [rngS]; omega)) (fun x hx B' m' nx k0 okx hnx => ?_) fun acc B2 hl hE ok2 => ?_
      · walk_at "run"
        have := gi.lt
        have := gi.hi1
        have := gi.lo0
        refine ⟨b, B', _, m', rfl, upM_same, okx, by omega, by omega, fun v B3 v0 v1 ok3 => ?_⟩
        walk_at "run"
        rw [upM_upM]
        exact hnx _ B3 ⟨_, rfl, by omega, by omega⟩ ok3
      obtain ⟨vs, rfl, hvs⟩ := ints_of_all hE
      have lv : vs.length ≤ 4 := by simp [rngS] at hl; omega
      have ls := srtS_len vs
      refine e1 (datI vs) ?_
      walk_at "head"
      refine e2 rfl (intsOf_mapD vs) ?_
      refine ⟨by omega, ?_⟩
      walk_at "run"
      refine lc_box m 3 (fun y => ∃ s, y = .d s ∧ StOk s) (by simp [sizeLine_eq]; omega) (ok2.mono (by simp; omega)) (fun x hx B' m' nx k0 okx hnx => ?_) fun acc B3 hl3 hE3 ok3 => ?_
      · walk_at "run"
        refine ⟨b, B', _, m' + 2, rfl, upM_same, okx, by omega, by omega, fun v B4 v0 v1 ok4 => ?_⟩
        walk_at "run"
        refine ⟨b, B4, _, m' + 1, rfl, upM_same, ok4, by omega, by omega, fun u B5 u0 u1 ok5 => ?_⟩
        walk_at "run"
        refine ⟨b, B5, _, m', rfl, upM_same, ok5, by show 0 < 3; decide, by show 3 < 2 ^ 30; decide, fun d B6 hd ok6 => ?_⟩
        rw [upM_upM, upM_upM, upM_upM]
        refine hnx _ B6 ⟨d, rfl, ?_⟩ ok6
        simp only [List.mem_cons, List.not_mem_nil, or_false] at hd
        rcases hd with rfl | rfl | rfl
        · exact .inr ⟨v, v0, v1, rfl⟩
        · exact .inr ⟨u, u0, u1, rfl⟩
        · exact .inl rfl
      obtain ⟨ds, rfl, hds⟩ := data_of_all hE3
      have ld : ds.length = (srtS vs).length := by simpa using hl3
      refine e1 (datOf_map ds) ?_
      walk_at "run"
      rw [zipD_en, ← mapD_d]
      refine lc_m ((srtS vs).zip ds) _ (fun e => .d (enE e)) trivial (by rw [List.length_zip, sizeLine_eq]; omega) (fun e he k1 k0 h => ?_) ?_
      · walk_at "run"
        exact h
      rw [mapD_d]
      refine e1 (datOf_map _) ?_
      walk_at "head"
      refine e2 rfl (datOf_map _) ?_
      walk_at "run"
      have pn : Sum.inl p ∉ (stS st).map (·.1) := fun z => by
        rw [List.map_map] at z
        obtain ⟨e, he, ee⟩ := List.mem_map.mp z
        exact gi.new p (by simp) (List.mem_map.mpr ⟨e, he, Sum.inl.inj ee⟩)
      refine ⟨by rw [List.length_map, sizeLine_eq]; have := gi.few; omega, ?_⟩
      walk_at "run"
      rw [putS_new pn]
      refine upR.le (k B3 ns1 [(p, leafE ((srtS vs).zip ds))] p ⟨rfl, (srtS vs).zip ds, ⟨?_, ?_, ?_, ?_⟩, rfl⟩ ok3) (le3 ?_ ?_ ?_ ?_)
      · rw [List.length_zip]; omega
      · rw [List.map_fst_zip (by omega)]; exact srtS_lt vs
      · exact fun e he => hvs _ ((srtS_mem _ vs).mp (List.of_mem_zip he).1)
      · exact fun e he => hds _ (List.of_mem_zip he).2
      · rw [upM_ne hbs, upM_same]
      · rw [upM_ne hns, upM_ne hnb]; exact hn1
      · rw [upM_same]; unfold stS; rw [List.map_append]; rfl
      · exact (kp1.up (by simp)).up (by simp)
    · intro hd
      obtain ⟨d, rfl⟩ : ∃ e, d = e + 1 := ⟨d - 1, by omega⟩
      simp only [costT] at ok
      have hb1 : upM M nA (.lst (intS ns1)) b = some B.mo := by rw [upM_ne hbn]; exact hb
      have hw1 : upM M nA (.lst (intS ns1)) w = some (.dic (wdS nA sA cu)) := by rw [upM_ne hwn]; exact hw
      have hs1 : upM M nA (.lst (intS ns1)) sA = some (.dic (stS st)) := by rw [upM_ne hsn]; exact hs
      have hn1 : upM M nA (.lst (intS ns1)) nA = some (.lst (intS ns1)) := upM_same
      have kp1 : Kp [b, nA, sA] M (upM M nA (.lst (intS ns1))) := (Kp.refl _ _).up (by simp)
      generalize upM M nA (.lst (intS ns1)) = M1 at *
      refine nx_go ?_
      dsimp only
      refine seq_cut (fun dl M' => ∃ (many : Nat) (B1 : Bx), M' = upM M1 b B1.mo ∧ Bx.Ok B1 (m + (3 + 4 * costT d)) ∧ many ≤ mx ∧ (many ≠ 0 → lo + 1 < hi) ∧ dl = [some (Sl.v (V.ref b)), some (Sl.v (V.ref w)), some (Sl.i lo), some (Sl.i hi), some (Sl.i ((d + 1 : Nat) : Int)), some (Sl.i p), some (.i (many : Int)), none, none, none, none, none, none, none, none, none]) ?_ fun nx hnx => ?_
      · rintro _ _ ⟨many, B1, rfl, ok1, hmany, hgt, rfl⟩
        have := gi.mx3
        have := gi.mx1
        have := gi.lt
        have := gi.hi1
        have := gi.lo0
        refine seq_cut (fun dl M' => ∃ (cs : List Int) (B2 : Bx), M' = upM M1 b B2.mo ∧ Bx.Ok B2 (m + 4 * costT d) ∧ CutsOk mx lo hi cs ∧ dl = [some (Sl.v (V.ref b)), some (Sl.v (V.ref w)), some (Sl.i lo), some (Sl.i hi), some (Sl.i ((d + 1 : Nat) : Int)), some (Sl.i p), some (.i (many : Int)), some (.d (intD cs)), none, none, none, none, none, none, none, none]) ?_ fun nx hnx => ?_
        · rintro _ _ ⟨cs, B2, rfl, ok2, co, rfl⟩
          have lc := co.len
          refine seq_cut (fun dl M' => ∃ (cs : List Int), M' = upM M1 b B2.mo ∧ CutsOk mx lo hi cs ∧ (p = 0 → cs ≠ []) ∧ dl = [some (Sl.v (V.ref b)), some (Sl.v (V.ref w)), some (Sl.i lo), some (Sl.i hi), some (Sl.i ((d + 1 : Nat) : Int)), some (Sl.i p), some (.i (many : Int)), some (.d (intD cs)), none, none, none, none, none, none, none, none]) ?_ fun nx hnx => ?_
          · rintro _ _ ⟨cs, rfl, co, p0, rfl⟩
            have lc := co.len
            walk_at "run"
            refine ⟨_, _, (lo :: cs).map PyData.int, rfl, rfl, datOf_map ((lo :: cs).map PyData.int), by simp [sizeLine_eq]; omega, ?_⟩
            walk_at "run"
            refine ⟨_, _, (cs ++ [hi]).map PyData.int, rfl, rfl, by rw [List.map_append]; exact (congrArg datOf (List.map_append (f := Sl.d)).symm).trans (datOf_map _), by simp [sizeLine_eq]; omega, ?_⟩
            walk_at "run"
            rw [zipS_map]
            have lz : ((lo :: cs).zip (cs ++ [hi])).length = cs.length + 1 := by simp
            have hsz := gi.size
            rw [List.length_append, List.length_singleton, szT] at hsz
            have nd := List.nodup_append.mp gi.nd
            have z1 : 0 ∉ ns1 := fun z => by
              have h1 := (gi.zero (List.mem_append_left _ z)).1
              rw [List.getLast?_append, List.getLast?_singleton] at h1
              have h2 : p = 0 := by simpa using h1
              exact nd.2.2 0 z p (by simp) h2.symm
            refine lc_seq (fun i acc M' => i ≤ cs.length + 1 ∧ ∃ (B' : Bx) (ni : List Int) (si : List (Int × PyData)) (ks : List Int), acc = intS ks ∧ GrownL (Grown mx d) (((lo :: cs).zip (cs ++ [hi])).take i) ns1 ni si ks ∧ M' b = some B'.mo ∧ Bx.Ok B' (m + (cs.length + 1 - i) * costT d) ∧ M' w = some (.dic (wdS nA sA cu)) ∧ M' nA = some (.lst (intS ni)) ∧ M' sA = some (.dic (stS (st ++ si))) ∧ Kp [b, nA, sA] M M') (by simp [sizeLine_eq]; omega) ⟨Nat.zero_le _, B2, ns1, [], [], rfl, ⟨rfl, rfl, rfl⟩, upM_same, ?_, ?_, ?_, ?_, ?_⟩ ?_ ?_
            · refine ok2.mono ?_
              have : (cs.length + 1 - 0) * costT d ≤ 4 * costT d := Nat.mul_le_mul_right _ (by omega)
              omega
            · rw [upM_ne hwb]; exact hw1
            · rw [upM_ne hnb]; exact hn1
            · rw [upM_ne hsb, List.append_nil]; exact hs1
            · exact kp1.up (by simp)
            · rintro i x acc M' nx k0 hx ha ⟨hi1, B', ni, si, ks, rfl, gl, mb, okb, mw, mn, ms, kp⟩ hnx
              refine ⟨trivial, ?_⟩
              rw [List.getElem?_map] at hx
              obtain ⟨⟨a, c⟩, hac, rfl⟩ := Option.map_eq_some_iff.mp hx
              have hlt := (List.getElem?_eq_some_iff.mp hac).1
              rw [lz] at hlt
              obtain ⟨r1, r2, r3⟩ := cuts_rng co gi.lt (List.mem_of_getElem? hac)
              obtain ⟨t, et, tp, tl⟩ := gl.tk (Grown.tk d)
              rw [List.length_take, lz, Nat.min_eq_left (by omega)] at tl
              walk_at "run"
              refine hc _ _ _ (by omega) ⟨mx, b, w, nA, sA, B', ni, st ++ si, cu, a, c, m + (cs.length + 1 - (i + 1)) * costT d, ?_, mb, mw, mn, ms, hbn, hws, okb.mono ?_, cuo, ⟨gi.mx1, gi.mx3, by omega, r2, by omega, ?_, ?_, ?_, ?_, ?_, ?_⟩, fun B3 n3 s3 k3 g3 ok3 => ?_⟩
              · simp only [Nat.add_sub_cancel]
                have : ((d + 1 : Nat) : Int) - 1 = (d : Int) := by omega
                rw [this]
              · simp only [Nat.add_sub_cancel]
                have e : cs.length + 1 - i = cs.length + 1 - (i + 1) + 1 := by omega
                rw [e, Nat.add_mul]; omega
              · simp only [Nat.add_sub_cancel]
                have e1 : ns1.length = ni.length + t.length := by rw [et, List.length_append]
                have e2 : (i + 1) * szT mx d ≤ (mx + 1) * szT mx d := Nat.mul_le_mul_right _ (by omega)
                rw [Nat.add_mul] at e2
                omega
              · rw [et] at nd; exact (List.nodup_append.mp nd.1).1
              · intro n hn z
                have hn1 : n ∈ ns1 := by rw [et]; exact List.mem_append_left _ hn
                rw [List.map_append] at z
                rcases List.mem_append.mp z with z | z
                · exact gi.new n (List.mem_append_left _ hn1) z
                · have z2 := tp.mem_iff.mpr z
                  have nd1 := nd.1
                  rw [et] at nd1
                  exact (List.nodup_append.mp nd1).2.2 n hn n z2 rfl
              · exact fun n hn => gi.small n (List.mem_append_left _ (by rw [et]; exact List.mem_append_left _ hn))
              · exact fun z => absurd (by rw [et]; exact List.mem_append_left _ z) z1
              · have := gi.few
                have e1 : ns1.length = ni.length + t.length := by rw [et, List.length_append]
                have e2 := tp.length_eq
                rw [List.length_map] at e2
                rw [List.length_append, List.length_singleton] at this
                rw [List.length_append]; omega
              · refine hnx _ _ ⟨by omega, B3, n3, si ++ s3, ks ++ [k3], by simp [intS], ?_, ?_, ok3, ?_, ?_, ?_, ?_⟩
                · have e : ((lo :: cs).zip (cs ++ [hi])).take (i + 1) = ((lo :: cs).zip (cs ++ [hi])).take i ++ [(a, c)] := by rw [List.take_add_one, hac]; rfl
                  rw [e]
                  exact gl.snoc g3
                · rw [upM_ne hbs, upM_ne hbn, upM_same]
                · rw [upM_ne hws, upM_ne hwn, upM_ne hwb]; exact mw
                · rw [upM_ne hns, upM_same]
                · rw [upM_same, List.append_assoc]
                · exact ((kp.up (by simp)).up (by simp)).up (by simp)
            · rintro acc M' ha ⟨_, B', ni, si, ks, rfl, gl, mb, okb, mw, mn, ms, kp⟩
              refine ⟨trivial, ?_⟩
              rw [List.length_map, lz] at gl okb
              rw [List.take_of_length_le (by rw [lz]; exact Nat.le_refl _)] at gl
              have lk := gl.len
              rw [lz] at lk
              refine e1 (datI ks) ?_
              walk_at "run"
              refine ⟨_, _, PyData.none :: cs.map PyData.int, rfl, rfl, datOf_map (PyData.none :: cs.map PyData.int), by simp [sizeLine_eq]; omega, ?_⟩
              walk_at "run"
              unfold zipD
              rw [← mapD_d]
              refine lc_m ((PyData.none :: cs.map PyData.int).zip (ks.map PyData.int)) _ (fun e => .d (.tuple [e.1, e.2])) trivial (by simp [sizeLine_eq]; omega) (fun e he k1 k0 h => ?_) ?_
              · walk_at "run"
                exact h
              rw [mapD_d]
              refine e1 (datOf_map _) ?_
              walk_at "head"
              refine e2 rfl (datOf_map _) ?_
              walk_at "run"
              obtain ⟨t, et, tp, tl⟩ := gl.tk (Grown.tk d)
              have pn : Sum.inl p ∉ (stS (st ++ si)).map (·.1) := fun z => by
                rw [List.map_map] at z
                obtain ⟨e, he, ee⟩ := List.mem_map.mp z
                rcases List.mem_append.mp he with he | he
                · exact gi.new p (by simp) (List.mem_map.mpr ⟨e, he, Sum.inl.inj ee⟩)
                · have z2 := tp.mem_iff.mpr (List.mem_map.mpr ⟨e, he, Sum.inl.inj ee⟩)
                  exact nd.2.2 p (by rw [et]; exact List.mem_append_right _ z2) p (by simp) rfl
              refine ⟨?_, ?_⟩
              · have := gi.few
                have e1 : ns1.length = ni.length + t.length := by rw [et, List.length_append]
                have e2 := tp.length_eq
                rw [List.length_map] at e2
                rw [List.length_append, List.length_singleton] at this
                rw [List.length_map, List.length_append, sizeLine_eq]; omega
              walk_at "run"
              rw [putS_new pn]
              refine upR.le (k B' ni (si ++ [(p, innerE cs ks)]) p ⟨ns1, cs, si, ks, rfl, co, p0, gl, rfl⟩ (okb.mono (by omega))) (le3 ?_ ?_ ?_ ?_)
              · rw [upM_ne hbs]; exact mb
              · rw [upM_ne hns]; exact mn
              · rw [upM_same, ← List.append_assoc]; unfold stS; rw [List.map_append (l₂ := [(p, innerE cs ks)])]; rfl
              · exact kp.up (by simp)
          · have sm : Small cs := fun c hc => by have := co.rng c hc; omega
            walk_at "run"
            refine ⟨shaped_ints sm (by omega), by decide +kernel, ?_⟩
            rw [eqv_nil]
            apply if_go
            · intro he
              walk_at "run"
              apply ifd_go
              · intro hp
                subst hp
                have hz := gi.zero (by simp)
                walk_at "run"
                refine hnx _ _ ⟨[(lo + hi) / 2], rfl, ⟨by simp; omega, List.pairwise_singleton _ _, fun c hc => ?_⟩, fun _ => by simp, rfl⟩
                simp at hc
                omega
              · intro hp
                walk_at "run"
                exact hnx _ _ ⟨cs, rfl, co, fun z => absurd z hp, rfl⟩
            · intro he
              walk_at "run"
              exact hnx _ _ ⟨cs, rfl, co, (fun _ z => by rw [z] at he; cases he), rfl⟩
        · walk_at "run"
          refine lc_box (m + 4 * costT d) 1 (fun y => ∃ n, y = .i n ∧ (lo < n ∧ n < hi)) (by simp [rngS, sizeLine_eq]; omega) (ok1.mono (by simp [rngS]; omega)) (fun x hx B' m' nx k0 okx hnx => ?_) fun acc B2 hl hE ok2 => ?_
          · have hg := hgt (fun z => by subst z; simp [rngS] at hx)
            walk_at "run"
            refine ⟨b, B', _, m', rfl, upM_same, okx, by omega, by omega, fun v B3 v0 v1 ok3 => ?_⟩
            walk_at "run"
            rw [upM_upM]
            exact hnx _ B3 ⟨_, rfl, by omega, by omega⟩ ok3
          obtain ⟨vs, rfl, hvs⟩ := ints_of_all hE
          have lv : vs.length ≤ mx := by simp [rngS] at hl; omega
          have ls := srtS_len vs
          refine e1 (datI vs) ?_
          walk_at "head"
          refine e2 rfl (intsOf_mapD vs) ?_
          refine ⟨by omega, ?_⟩
          walk_at "run"
          exact hnx _ _ ⟨srtS vs, B2, rfl, ok2, ⟨by omega, srtS_lt vs, fun c hc => hvs c ((srtS_mem c vs).mp hc)⟩, rfl⟩
      · walk_at "run"
        apply ifd_go
        · intro hgt
          walk_at "run"
          refine ⟨b, B, _, m + (3 + 4 * costT d), rfl, hb1, ok.mono (by omega), ?_, ?_, fun x B1 hx ok1 => ?_⟩
          · rw [List.length_map]; exact List.length_pos_iff.mpr cuo.ne
          · rw [List.length_map]; have := cuo.len; omega
          obtain ⟨c, hc2, rfl⟩ := List.mem_map.mp hx
          obtain ⟨c0, c1⟩ := cuo.rng c hc2
          walk_at "run"
          refine hnx _ _ ⟨c.toNat, B1, rfl, ok1, by omega, fun _ => by omega, ?_⟩
          rw [Int.toNat_of_nonneg c0]
        · intro hgt
          walk_at "run"
          refine hnx _ _ ⟨0, B, by rw [upM_self hb1], ok.mono (by omega), by omega, fun z => absurd rfl z, rfl⟩
end
end LW

set_option Elab.async false
set_option linter.all false
set_option maxRecDepth 100000
set_option maxHeartbeats 4000000
namespace LW
open PySem PySem.Spec L2 DL
local macro_rules | `(tactic| walk_at "mem") => `(tactic| ((repeat rw [upM_ne (by assumption)]); first | exact upM_same | assumption))
local macro_rules | `(tactic| walk_at "look") => `(tactic| first | rfl | assumption | exact atI_map0 | exact atI_map1 | walk_at "mem" | (with_reducible apply lsOf_m; walk_at "mem") | (with_reducible apply sqOf_m; walk_at "mem") | (with_reducible apply rlOf_m; walk_at "mem") | (with_reducible apply sqOf'_m; walk_at "mem") | (with_reducible apply tru_l; walk_at "mem") | (with_reducible apply tru_d; walk_at "mem") | ((simp (discharger := assumption) only [sqOf, sqOf', rlOf, lsOf, tru, upM_same, upM_ne]) <;> rfl))
local macro_rules | `(tactic| walk_at "set") => `(tactic| (simp only [wipeD, List.set_cons_zero, List.set_cons_succ, List.set_nil]; rfl))
local macro_rules | `(tactic| walk_at "side") => `(tactic| first | omega | (simp only [List.length_map, List.length_cons, List.length_nil]; omega) | assumption | rfl | decide | exact ⟨by omega, by omega⟩ | exact Nat.le_of_ble_eq_true rfl)
local macro_rules | `(tactic| walk_at "head") => `(tactic| with_reducible conv => whnf)
local macro_rules | `(tactic| walk_at "step") => `(tactic| (walk_at "head"; first
  | ((with_reducible apply gN_go); (focus walk_at "set"))
  | ((with_reducible apply e1s); (focus rfl))
  | ((with_reducible apply e1); (focus walk_at "look"))
  | ((with_reducible apply e2); (focus walk_at "look"); (focus walk_at "look"))
  | ((with_reducible apply l1); (focus walk_at "look"))
  | ((with_reducible apply l2); (focus walk_at "look"); (focus walk_at "look"))
  | ((with_reducible apply e3); (focus walk_at "look"); (focus walk_at "look"); (focus walk_at "look"))
  | ((with_reducible apply e0a); (focus walk_at "look"))
  | ((with_reducible apply And.intro); (focus walk_at "side"))
  | ((with_reducible apply d1); (focus walk_at "look"))
  | ((with_reducible apply d2); (focus walk_at "look"); (focus walk_at "look"))
  | ((with_reducible apply d3); (focus walk_at "look"); (focus walk_at "look"); (focus walk_at "look"))
  | ((with_reducible apply d0); (focus walk_at "look"))
  | ((with_reducible apply lk1); (focus walk_at "look"))
  | with_reducible apply gw2_go
  | with_reducible apply gw3_go
  | with_reducible apply gs_go
  | with_reducible apply gt2_go
  | with_reducible apply gt3_go
  | with_reducible apply gt1_go
  | with_reducible apply gt4_go
  | with_reducible apply gt5_go
  | with_reducible apply gt6_go
  | with_reducible apply gt7_go
  | with_reducible apply gt8_go
  | with_reducible apply ift_go
  | with_reducible apply iff_go
  | ((with_reducible apply ifT_go); (focus rfl))
  | ((with_reducible apply ifF_go); (focus rfl))))
local macro_rules | `(tactic| walk_at "run") => `(tactic| (repeat walk_at "step"); walk_at "head")
local macro_rules | `(tactic| walk_at "start") => `(tactic| simp only [startD, List.map_cons, List.map_nil, List.length_cons, List.length_nil, List.replicate, List.cons_append, List.nil_append, Nat.reduceAdd, Nat.reduceSub, bodyK])
local macro_rules | `(tactic| walk_at "look") => `(tactic| first | exact wd_num | exact wd_stu | exact wd_cut)
/-- the table of a tree that was drawn -/
def Tree (st : List (Int × PyData)) : Prop := ∃ mx d hi ns ns', 1 ≤ mx ∧ mx ≤ 3 ∧ d ≤ 3 ∧ 12 ≤ hi ∧ hi ≤ 1000 ∧ (ns ++ [0]).Nodup ∧ (∀ n ∈ ns, 0 < n ∧ n < 30) ∧ ns.length < 30 ∧ Grown mx d 0 hi (ns ++ [0]) ns' st 0
def cn_tree : Cn := fun rs M R => ∃ b B m, rs = [.v (.ref b)] ∧ M b = some (Bx.mo B) ∧ Bx.Ok B (m + 1300) ∧ ∀ s B' st, Tree st → M s = none → Bx.Ok B' m → R (.v (.ref s)) (upM (upM M b B'.mo) s (.dic (stS st)))
theorem wd_merge {nA sA : Addr} {cu : List Int} : mergeS [] (wdS nA sA cu) = wdS nA sA cu := by
  simp only [mergeS, wdS, List.foldl_cons, List.foldl_nil]
  have n1 : (Sum.inr (Str.ofString "stuffs") : Key) ≠ Sum.inr (Str.ofString "numbers") := by decide
  have n2 : (Sum.inr (Str.ofString "cuts") : Key) ≠ Sum.inr (Str.ofString "numbers") := by decide
  have n3 : (Sum.inr (Str.ofString "cuts") : Key) ≠ Sum.inr (Str.ofString "stuffs") := by decide
  have e1 : putS [] (.inr (Str.ofString "numbers")) (.v (.ref nA)) = [(.inr (Str.ofString "numbers"), .v (.ref nA))] := putS_new (ks := []) (by simp)
  have e2 : putS [(.inr (Str.ofString "numbers"), .v (.ref nA))] (.inr (Str.ofString "stuffs")) (.v (.ref sA)) = [(.inr (Str.ofString "numbers"), .v (.ref nA)), (.inr (Str.ofString "stuffs"), .v (.ref sA))] := putS_new (by intro z; rw [List.map_cons, List.map_nil, List.mem_singleton] at z; exact n1 z)
  rw [e1, e2, putS_new (by intro z; simp only [List.map_cons, List.map_nil, List.mem_cons, List.not_mem_nil, or_false] at z; exact z.elim n2 n3)]
  rfl
theorem costT3 : ∀ d, d ≤ 3 → costT d ≤ 1172
  | 0, _ => by decide
  | 1, _ => by decide
  | 2, _ => by decide
  | 3, _ => by decide
section
variable {P : Program} {w : World} {K : PySem.W.Frag} {mg : Str → Option Value} {base : Heap}
theorem ok_grown (T : Tx K mg) (H__law_take : Has P w K mg base 1 "_law_take" s__law_take ["_law_box_here", "_law_below"] cn_take) (H__law_of : Has P w K mg base 2 "_law_of" s__law_of ["_law_box_here", "_law_some"] cn_of) {f : Addr} {fd : FuncData} (hm : mg "_law_grown" = some (.ref f)) (Fu : Fun K "_law_grown" "_law_grown" s__law_grown f fd) :
    ∀ d, FnD P w K mg base (d + 3) f fd ["_law_box_here", "_law_world", "_law_low", "_law_high", "_law_depth"] (cn_grown d)
  | 0 => ok_grown1 T (cn := fun _ _ _ => False) (fun _ _ _ h => absurd rfl h) H__law_take H__law_of (Has.of hm Fu hb__law_grown (fn_none.mono (Nat.zero_le 2))) Fu
  | d + 1 => ok_grown1 T (fun _ _ _ _ h => h) H__law_take H__law_of (Has.of hm Fu hb__law_grown (ok_grown T H__law_take H__law_of hm Fu d)) Fu
theorem ok_tree (T : Tx K mg) (H__law_of : Has P w K mg base 2 "_law_of" s__law_of ["_law_box_here", "_law_some"] cn_of) (H__law_strewn : Has P w K mg base 2 "_law_strewn" s__law_strewn ["_law_box_here", "_law_some"] cn_strewn)
    (H__law_grown : Has P w K mg base 6 "_law_grown" s__law_grown ["_law_box_here", "_law_world", "_law_low", "_law_high", "_law_depth"] fun rs M R => ∃ d, d ≤ 3 ∧ cn_grown d rs M R) {f : Addr} {fd : FuncData} (Fu : Fun K "_law_tree" "_law_tree" s__law_tree f fd) : FnD P w K mg base 7 f fd ["_law_box_here"] cn_tree := by
  refine fnD_of Fu sc__law_tree (fun rs M R h => ?_) fun cdv A outer s H hgd hr => ⟨_, (pdb_cons (pds_set 1 sc__law_tree.nd (pd_fn H__law_of hgd (hr.mono (by first | decide | omega)) (by rfl) (pda_cons (pd_var 0) (pda_cons (pd_lst (pda_cons pd_int (pda_cons pd_int (pda_cons pd_int (pda_cons pd_int (pda_cons pd_int (pda_cons pd_int pda_nil))))))) pda_nil))))
      (pdb_cons (pds_set 2 sc__law_tree.nd (pd_if (pdt_cmp (o_eq hr.units) (pd_var 1) pd_int (nomark _)) (pd_lst (pda_cons pd_int (pda_cons pd_int pda_nil))) (pd_lst (pda_cons pd_int (pda_cons pd_int (pda_cons pd_int (pda_cons pd_int (pda_cons pd_int (pda_cons pd_int pda_nil)))))))))
      (pdb_cons (pds_set 3 sc__law_tree.nd (pd_ix (pd_lst (pda_cons pd_int (pda_cons pd_int (pda_cons pd_int (pda_cons pd_int pda_nil))))) (pd_var 1)))
      (pdb_cons (pds_set 4 sc__law_tree.nd (pd_op o_catM (pd_fn H__law_strewn hgd (hr.mono (by first | decide | omega)) (by rfl) (pda_cons (pd_var 0) (pda_cons (pd_listRg2 rfl (by rfl) T.z_list (by rfl) T.z_range pd_int (pd_var 3)) pda_nil))) (pd_lst (pda_cons pd_int pda_nil))))
      (pdb_cons (pds_set 5 sc__law_tree.nd (pd_disp (pdp_cons pd_str (pd_var 4) (pdp_cons pd_str pd_dict0 (pdp_cons pd_str (pd_var 2) pdp_nil)))))
      (pdb_cons (pds_expr (pd_fn H__law_grown hgd (hr.mono (by first | decide | omega)) (by rfl) (pda_cons (pd_var 0) (pda_cons (pd_var 5) (pda_cons pd_int (pda_cons (pd_fn H__law_of hgd (hr.mono (by first | decide | omega)) (by rfl) (pda_cons (pd_var 0) (pda_cons (pd_lst (pda_cons pd_int (pda_cons pd_int (pda_cons pd_int pda_nil)))) pda_nil))) (pda_cons (pd_var 1) pda_nil)))))))
      (pdb_one (pds_ret (pd_dget (hu_of hr) (pd_var 5) pd_str))))))))), ?_⟩
  · obtain ⟨b, B, m, rfl, _⟩ := h
    rfl
  · rintro rs M R ⟨b, B, m, rfl, hb, ok, k⟩
    walk_at "start"
    walk_at "run"
    refine ⟨b, B, _, m + 1299, rfl, hb, ok, by decide, by decide, fun x B1 hx ok1 => ?_⟩
    obtain ⟨d, rfl, hd⟩ : ∃ d : Nat, x = .int (d : Int) ∧ d ≤ 3 := by
      simp only [List.mem_cons, List.not_mem_nil, or_false] at hx
      rcases hx with rfl | rfl | rfl | rfl | rfl | rfl
      · exact ⟨0, rfl, by decide⟩
      · exact ⟨1, rfl, by decide⟩
      · exact ⟨1, rfl, by decide⟩
      · exact ⟨2, rfl, by decide⟩
      · exact ⟨2, rfl, by decide⟩
      · exact ⟨3, rfl, by decide⟩
    clear hx
    refine gN_go rfl ?_
    simp only [List.set_cons_zero, List.set_cons_succ]
    try dsimp only
    refine seq_cut (fun dl M' => ∃ (mx : Nat) (cu : List Int), M' = upM M b B1.mo ∧ CuOk mx cu ∧ 1 ≤ mx ∧ mx ≤ 3 ∧ (mx = 3 → d ≤ 2) ∧ (mx = 1 ∨ mx = 3) ∧ dl = [some (.v (.ref b)), some (.i (d : Int)), some (.d (intD cu)), none, none, none]) ?_ fun nx hnx => ?_
    · rintro _ _ ⟨mx, cu, rfl, cuo, m1, m3, h3, h13, rfl⟩
      refine seq_cut (fun dl M' => ∃ (most : Nat), M' = upM M b B1.mo ∧ szT mx d ≤ most ∧ 2 ≤ most ∧ most ≤ 30 ∧ dl = [some (.v (.ref b)), some (.i (d : Int)), some (.d (intD cu)), some (.i (most : Int)), none, none]) ?_ fun nx hnx => ?_
      · rintro _ _ ⟨most, rfl, z1, z2, z3, rfl⟩
        walk_at "run"
        have er : (List.range ((most : Int) - 1).toNat).map (fun (i : Nat) => PyData.int (1 + (i : Int))) = ((List.range (most - 1)).map fun (i : Nat) => 1 + (i : Int)).map PyData.int := by
          rw [List.map_map, show ((most : Int) - 1).toNat = most - 1 by omega]; rfl
        rw [er]
        generalize hns : ((List.range (most - 1)).map fun (i : Nat) => 1 + (i : Int)) = ns
        have ln : ns.length = most - 1 := by rw [← hns, List.length_map, List.length_range]
        have rn : ∀ n ∈ ns, 0 < n ∧ n < 30 := fun n hn => by
          rw [← hns] at hn
          obtain ⟨i, hi, rfl⟩ := List.mem_map.mp hn
          have := List.mem_range.mp hi
          omega
        have ndn : ns.Nodup := by
          rw [← hns]
          refine List.pairwise_map.mpr (List.nodup_range.imp fun h e => h (by omega))
        clear hns er
        refine ⟨b, B1, ns, m + 1270, rfl, upM_same, ok1.mono (by omega), fun n hn => by have := rn n hn; omega, by omega, fun es B2 pe ok2 => ?_⟩
        rw [upM_upM]
        walk_at "run"
        have le := pe.length_eq
        refine ⟨by simp [sizeLine_eq]; omega, fun nA hnA => ?_⟩
        rw [show List.map Sl.d (List.map PyData.int es) ++ List.map Sl.d [PyData.int 0] = intS (es ++ [0]) by simp [intS]]
        have hnb : nA ≠ b := fun e => by subst e; rw [upM_same] at hnA; cases hnA
        rw [upM_ne hnb] at hnA
        walk_at "run"
        intro w hw
        have hwn : w ≠ nA := fun e => by subst e; rw [upM_same] at hw; cases hw
        rw [upM_ne hwn] at hw
        have hwb : w ≠ b := fun e => by subst e; rw [upM_same] at hw; cases hw
        rw [upM_ne hwb] at hw
        walk_at "run"
        intro sA hsA
        have hsw : sA ≠ w := fun e => by subst e; rw [upM_same] at hsA; cases hsA
        rw [upM_ne hsw] at hsA
        have hsn : sA ≠ nA := fun e => by subst e; rw [upM_same] at hsA; cases hsA
        rw [upM_ne hsn] at hsA
        have hsb : sA ≠ b := fun e => by subst e; rw [upM_same] at hsA; cases hsA
        rw [upM_ne hsb] at hsA
        have hbn := Ne.symm hnb
        have hws := Ne.symm hsw
        have hbw := Ne.symm hwb
        have hnw := Ne.symm hwn
        have hbs := Ne.symm hsb
        have hns := Ne.symm hsn
        walk_at "run"
        refine ⟨by walk_at "mem", by show 3 ≤ 15; decide, ?_⟩
        rw [show mergeS [] [(Sum.inr (Str.ofString "numbers"), Sl.v (V.ref nA)), (Sum.inr (Str.ofString "stuffs"), Sl.v (V.ref sA)), (Sum.inr (Str.ofString "cuts"), Sl.d (intD cu))] = wdS nA sA cu from wd_merge]
        walk_at "run"
        refine ⟨b, B2, _, m + 1269, rfl, by walk_at "mem", ok2, by show 0 < 3; decide, by show 3 < 2 ^ 30; decide, fun x B3 hx ok3 => ?_⟩
        obtain ⟨hi, rfl, hi1, hi2⟩ : ∃ hi : Int, x = .int hi ∧ 12 ≤ hi ∧ hi ≤ 1000 := by
          simp only [List.mem_cons, List.not_mem_nil, or_false] at hx
          rcases hx with rfl | rfl | rfl
          · exact ⟨12, rfl, by decide, by decide⟩
          · exact ⟨60, rfl, by decide, by decide⟩
          · exact ⟨1000, rfl, by decide, by decide⟩
        walk_at "run"
        have cd := costT3 d hd
        have nd0 : (es ++ [0]).Nodup := List.nodup_append.mpr ⟨pe.nodup_iff.mpr ndn, by simp, fun a ha c hc => by simp at hc; have := rn a (pe.mem_iff.mp ha); omega⟩
        refine ⟨d, hd, mx, b, w, nA, sA, B3, es ++ [0], [], cu, 0, hi, m, rfl, by walk_at "mem", by walk_at "mem", by walk_at "mem", by walk_at "mem", hbn, hws, ok3.mono (by omega), cuo, ⟨m1, m3, by omega, by omega, by omega, by simp; omega, nd0, by simp, ?_, fun _ => ⟨by simp, by omega⟩, by simp; omega⟩, fun B4 ns' st' p g ok4 => ?_⟩
        · intro n hn
          rcases List.mem_append.mp hn with hn | hn
          · have := rn n (pe.mem_iff.mp hn); omega
          · simp at hn; subst hn; decide
        · have p0 : p = 0 := by
            cases d with
            | zero => obtain ⟨e, _⟩ := g; exact ((List.append_inj' e rfl).2 |> List.singleton_inj.mp).symm
            | succ d => obtain ⟨_, _, _, _, e, _⟩ := g; exact ((List.append_inj' e rfl).2 |> List.singleton_inj.mp).symm
          subst p0
          walk_at "run"
          refine upR.le (k sA B4 st' ⟨mx, d, hi, es, ns', m1, m3, hd, hi1, hi2, nd0, fun n hn => rn n (pe.mem_iff.mp hn), by omega, g⟩ hsA ok4) (le2 (by walk_at "mem") (by walk_at "mem") ?_)
          intro a o ha hM
          simp only [List.mem_cons, List.not_mem_nil, or_false, not_or] at ha
          rw [upM_ne ha.2, upM_ne (neM hM hnA), upM_ne ha.1, upM_ne ha.1, upM_ne (neM hM hw), upM_ne ha.2, upM_ne (neM hM hw), upM_ne (neM hM hnA), upM_ne ha.1]
          exact hM
      · have h4 : d = 0 ∨ d = 1 ∨ d = 2 ∨ d = 3 := by omega
        rcases h4 with rfl | rfl | rfl | rfl
        · walk_at "run"
          exact hnx _ _ ⟨2, rfl, by rcases h13 with rfl | rfl <;> decide, by decide, by decide, rfl⟩
        · walk_at "run"
          exact hnx _ _ ⟨8, rfl, by rcases h13 with rfl | rfl <;> decide, by decide, by decide, rfl⟩
        · walk_at "run"
          exact hnx _ _ ⟨30, rfl, by rcases h13 with rfl | rfl <;> decide, by decide, by decide, rfl⟩
        · walk_at "run"
          exact hnx _ _ ⟨22, rfl, by rcases h13 with rfl | rfl; decide; exact absurd (h3 rfl) (by decide), by decide, by decide, rfl⟩
    · walk_at "run"
      apply ifd_go
      · intro h
        walk_at "run"
        exact hnx _ _ ⟨1, [0, 1], rfl, ⟨by simp, by decide, by simp⟩, by decide, by decide, (fun z => by cases z), .inl rfl, rfl⟩
      · intro h
        walk_at "run"
        exact hnx _ _ ⟨3, [0, 1, 2, 3, 3, 3], rfl, ⟨by simp, by decide, by simp⟩, by decide, by decide, fun _ => by omega, .inr rfl, rfl⟩
end
end LW

set_option Elab.async false
set_option linter.all false
set_option maxRecDepth 100000
set_option maxHeartbeats 4000000
namespace LW
open PySem PySem.Spec L2 DL
def lkE (es : List (Int × PyData)) (n : Int) : Option PyData := (es.find? fun e => decide (e.1 = n)).map (·.2)
theorem valS_st (n : Int) : ∀ es : List (Int × PyData), valS (stS es) (.inl n) = (lkE es n).map Sl.d
  | [] => rfl
  | e :: r => by
    show valS ((Sum.inl e.1, Sl.d e.2) :: stS r) (.inl n) = _
    rw [valS_cons, valS_st n r]
    unfold lkE
    rw [List.find?_cons]
    by_cases h : e.1 = n
    · simp [h]
    · rw [if_neg (fun z => h (Sum.inl.inj z))]; simp [h]
theorem keysI_st : ∀ es : List (Int × PyData), keysI (stS es) = some (es.map (·.1))
  | [] => rfl
  | e :: r => by show (keysI (stS r)).map (e.1 :: ·) = _; rw [keysI_st r]; rfl
theorem lkE_mem {es : List (Int × PyData)} (nd : (es.map (·.1)).Nodup) {n : Int} {v : PyData} : lkE es n = some v ↔ (n, v) ∈ es := by
  induction es with
  | nil => simp [lkE]
  | cons e r ih =>
    rw [List.map_cons] at nd
    have n1 := List.nodup_cons.mp nd
    unfold lkE
    rw [List.find?_cons]
    by_cases h : e.1 = n
    · simp only [h, decide_true, Option.map_some, Option.some.injEq]
      constructor
      · rintro rfl; rw [← h]; exact List.mem_cons_self
      · intro hm
        rcases List.mem_cons.mp hm with hm | hm
        · rw [← hm]
        · exact absurd (List.mem_map.mpr ⟨_, hm, rfl⟩) (by rw [← h] at *; exact n1.1)
    · simp only [h, decide_false]
      have := ih n1.2
      unfold lkE at this
      rw [this]
      constructor
      · exact List.mem_cons_of_mem _
      · intro hm
        rcases List.mem_cons.mp hm with hm | hm
        · exact absurd (by rw [← hm]) h
        · exact hm
end LW

set_option Elab.async false
set_option linter.all false
set_option maxRecDepth 100000
set_option maxHeartbeats 4000000
namespace LW
open PySem PySem.Spec L2 DL
/-! ### contents -/
def StW (s : PyData) : Prop := s = .str "ghost" ∨ ∃ n : Int, 0 ≤ n ∧ n < 10000000 ∧ s = .int n
structure EsW (es : List (Int × PyData)) : Prop where
  len : es.length ≤ 4
  asc : (es.map (·.1)).Pairwise (· < ·)
  rng : ∀ e ∈ es, 0 ≤ e.1 ∧ e.1 < 10000000
  st : ∀ e ∈ es, StW e.2
theorem StOk.w {s : PyData} (h : StOk s) : StW s := h.imp id fun ⟨n, a, b, c⟩ => ⟨n, a, by omega, c⟩
theorem EsOk.w {lo hi : Int} {es : List (Int × PyData)} (h : EsOk lo hi es) (h0 : 0 ≤ lo) (h1 : hi ≤ 1000) : EsW es := ⟨h.len, h.asc, fun e he => by have := h.rng e he; omega, fun e he => (h.st e he).w⟩
theorem EsW.nd {es : List (Int × PyData)} (h : EsW es) : (es.map (·.1)).Nodup := h.asc.imp fun h => by omega
structure InW (cs ks : List Int) : Prop where
  len : cs.length ≤ 3
  len2 : ks.length = cs.length + 1
  asc : cs.Pairwise (· < ·)
  rng : ∀ c ∈ cs, 0 < c ∧ c < 1000
  nd : ks.Nodup
  rng2 : ∀ k ∈ ks, 0 ≤ k ∧ k < 30
inductive CtOk : PyData → Prop
  | leaf {es : List (Int × PyData)} : EsW es → CtOk (leafE es)
  | inner {cs ks : List Int} : InW cs ks → CtOk (innerE cs ks)
/-! ### of what is grown -/
theorem grownL_ct {G : GR} {n : Nat} (hT : ∀ lo hi ns ns' st p, G lo hi ns ns' st p → Tk n ns ns' st)
    (hG : ∀ lo hi ns ns' st p, G lo hi ns ns' st p → 0 ≤ lo → lo < hi → hi ≤ 1000 → ns.Nodup → (∀ n ∈ ns, 0 ≤ n ∧ n < 30) → (∀ e ∈ st, CtOk e.2) ∧ p ∈ st.map (·.1)) :
    ∀ {rs : List (Int × Int)} {ns ns' : List Int} {st : List (Int × PyData)} {ks : List Int}, GrownL G rs ns ns' st ks → (∀ r ∈ rs, 0 ≤ r.1 ∧ r.1 < r.2 ∧ r.2 ≤ 1000) → ns.Nodup → (∀ n ∈ ns, 0 ≤ n ∧ n < 30) → (∀ e ∈ st, CtOk e.2) ∧ (∀ k ∈ ks, k ∈ st.map (·.1)) ∧ ks.Nodup
  | [], _, _, _, _, h, _, _, _ => by obtain ⟨rfl, rfl, rfl⟩ := h; exact ⟨by simp, by simp, by simp⟩
  | r :: rs, _, _, _, _, h, hr, nd, hn => by
    obtain ⟨n3, s1, s2, k1, ks1, a, b, rfl, rfl⟩ := h
    obtain ⟨t1, rfl, p1, _⟩ := hT _ _ _ _ _ _ a
    obtain ⟨t2, rfl, p2, _⟩ := b.tk hT
    have q := hr r List.mem_cons_self
    obtain ⟨c1, c2⟩ := hG _ _ _ _ _ _ a q.1 q.2.1 q.2.2 nd hn
    have n1 := List.nodup_append.mp nd
    obtain ⟨d1, d2, d3⟩ := grownL_ct hT hG b (fun r hr2 => hr r (List.mem_cons_of_mem _ hr2)) n1.1 fun n hm => hn n (List.mem_append_left _ hm)
    refine ⟨fun e he => ?_, fun k hk => ?_, ?_⟩
    · rcases List.mem_append.mp he with he | he
      · exact c1 e he
      · exact d1 e he
    · rw [List.map_append]
      rcases List.mem_cons.mp hk with rfl | hk
      · exact List.mem_append_left _ c2
      · exact List.mem_append_right _ (d2 k hk)
    · refine List.nodup_cons.mpr ⟨fun z => ?_, d3⟩
      have z1 := p2.mem_iff.mpr (d2 _ z)
      have z2 := p1.mem_iff.mpr c2
      exact n1.2.2 _ (List.mem_append_right _ z1) _ z2 rfl
theorem grown_ct {mx : Nat} (hm : mx ≤ 3) : ∀ (d : Nat) (lo hi : Int) (ns ns' : List Int) (st : List (Int × PyData)) (p : Int), Grown mx d lo hi ns ns' st p → 0 ≤ lo → lo < hi → hi ≤ 1000 → ns.Nodup → (∀ n ∈ ns, 0 ≤ n ∧ n < 30) → (∀ e ∈ st, CtOk e.2) ∧ p ∈ st.map (·.1)
  | 0, lo, hi, ns, ns', st, p, h, h0, hlt, h1, nd, hn => by
    obtain ⟨rfl, es, he, rfl⟩ := h
    refine ⟨fun e hm => ?_, by simp⟩
    rw [List.mem_singleton] at hm
    subst hm
    exact .leaf (he.w h0 h1)
  | d + 1, lo, hi, ns, ns', st, p, h, h0, hlt, h1, nd, hn => by
    obtain ⟨ns1, cs, st1, ks, rfl, hc, hp, hl, rfl⟩ := h
    · have n1 := List.nodup_append.mp nd
      have rg : ∀ r ∈ (lo :: cs).zip (cs ++ [hi]), 0 ≤ r.1 ∧ r.1 < r.2 ∧ r.2 ≤ 1000 := fun r hr => by
        have := cuts_rng (a := r.1) (c := r.2) hc hlt hr
        omega
      obtain ⟨t, et, tp, _⟩ := hl.tk (Grown.tk d)
      obtain ⟨d1, d2, d3⟩ := grownL_ct (Grown.tk d) (grown_ct hm d) hl rg n1.1 fun n hm => hn n (List.mem_append_left _ hm)
      refine ⟨fun e he => ?_, by simp⟩
      rcases List.mem_append.mp he with he | he
      · exact d1 e he
      · rw [List.mem_singleton] at he
        subst he
        have lk := hl.len
        rw [List.length_zip] at lk
        simp only [List.length_cons, List.length_append, List.length_nil, Nat.min_self] at lk
        refine .inner ⟨by have := hc.len; omega, by omega, hc.asc, fun c hc2 => by have := hc.rng c hc2; omega, d3, fun k hk => hn k (List.mem_append_left _ ?_)⟩
        rw [et]
        exact List.mem_append_right _ (tp.mem_iff.mpr (d2 k hk))
theorem asc_of : ∀ {ns : List Int}, ns.Pairwise (· < ·) → asc ns = true
  | [], _ => rfl
  | [_], _ => rfl
  | a :: b :: r, h => by
    have h1 := List.pairwise_cons.mp h
    rw [asc, decide_eq_true (h1.1 b List.mem_cons_self), asc_of h1.2]; rfl
theorem srtS_full {ns : List Int} (nd : ns.Nodup) : (srtS ns).length = ns.length :=
  ((List.perm_ext_iff_of_nodup ((srtS_lt ns).imp fun h => by omega) nd).mpr fun k => srtS_mem k ns).length_eq
theorem StW.state {s : PyData} (h : StW s) : stateD s = true := by
  rcases h with rfl | ⟨n, h0, _, rfl⟩
  · rfl
  · exact decide_eq_true h0
theorem leaf_cont {es : List (Int × PyData)} (h : EsW es) : contD (leafE es) = true := by
  have h1 : (es.map enE).all entD = true := by
    rw [List.all_map]
    refine List.all_eq_true.mpr fun e he => ?_
    show (decide (0 ≤ e.1) && stateD e.2) = true
    rw [decide_eq_true (h.rng e he).1, (h.st e he).state]; rfl
  have h2 : (es.map enE).map keyD = es.map (·.1) := by rw [List.map_map]; rfl
  simp only [contD, entriesD, List.length_map, decide_eq_true h.len, h1, h2, asc_of h.asc, Bool.and_true, Bool.true_and]
  rfl
theorem inner_cont {cs ks : List Int} (h : InW cs ks) : contD (innerE cs ks) = true := by
  obtain ⟨k0, kr, rfl⟩ : ∃ k0 kr, ks = k0 :: kr := by
    cases ks with
    | nil => have := h.len2; simp at this
    | cons a r => exact ⟨a, r, rfl⟩
  have l2 : kr.length = cs.length := by have := h.len2; simpa using this
  have e1 : (cs.map PyData.int).zip (kr.map PyData.int) = (cs.zip kr).map fun p => (PyData.int p.1, PyData.int p.2) := by rw [List.zip_map]; rfl
  have hx : ((cs.zip kr).map fun p => PyData.tuple [.int p.1, .int p.2]) = ((cs.map PyData.int).zip (kr.map PyData.int)).map fun p => PyData.tuple [p.1, p.2] := by rw [e1, List.map_map]; rfl
  have f1 : ((cs.zip kr).map fun p => PyData.tuple [.int p.1, .int p.2]).map fstD = cs.map PyData.int := by
    rw [List.map_map, ← List.map_fst_zip (l₁ := cs) (l₂ := kr) (by omega), List.map_map]
    rw [List.map_fst_zip (by omega)]
    rfl
  have f2 : ((cs.zip kr).map fun p => PyData.tuple [.int p.1, .int p.2]).map sndI = kr := by
    rw [List.map_map]
    exact List.map_snd_zip (by omega)
  have f3 : ((cs.zip kr).map fun p => PyData.tuple [.int p.1, .int p.2]).all chD = true := by
    rw [List.all_map]
    refine List.all_eq_true.mpr fun p hp => ?_
    exact decide_eq_true (h.rng2 p.2 (List.mem_cons_of_mem _ (List.of_mem_zip hp).2)).1
  unfold innerE
  rw [List.map_cons, List.zip_cons_cons, List.map_cons, ← hx]
  generalize hz : (cs.zip kr).map (fun p => PyData.tuple [.int p.1, .int p.2]) = xs at *
  have lx : xs.length = cs.length := by rw [← hz, List.length_map, List.length_zip]; omega
  have g1 : (cs.map PyData.int).all numD = true := by
    rw [List.all_map]
    exact List.all_eq_true.mpr fun c hc => decide_eq_true (by have := h.rng c hc; omega)
  have g2 : (cs.map PyData.int).map intOf = cs := by rw [List.map_map]; exact List.map_id' _
  have g3 := srtS_full h.nd
  have k1 : chD (.tuple [.none, .int k0]) = true := decide_eq_true (h.rng2 k0 List.mem_cons_self).1
  simp only [contD, childrenD, lx, List.all_cons, f1, f3, g1, g2, List.map_cons, f2, List.length_cons, k1]
  have e9 : sndI (.tuple [.none, .int k0]) = k0 := rfl
  rw [e9, g3, List.length_cons, l2, decide_eq_true (show cs.length < 4 by have := h.len; omega), asc_of h.asc]
  simp
  exact .inr rfl
/-! ### made of tuples alone -/
mutual
def tupO : PyData → Bool
  | .list _ => false
  | .dict _ => false
  | .tuple xs => tupOs xs
  | _ => true
def tupOs : List PyData → Bool
  | [] => true
  | x :: r => tupO x && tupOs r
end
mutual
theorem tp_id : ∀ {d : PyData}, tupO d = true → tpD d = d
  | .none, _ => rfl
  | .bool _, _ => rfl
  | .int _, _ => rfl
  | .str _, _ => rfl
  | .tuple xs, h => by rw [tupO] at h; rw [tpD, tps_id h]
  | .list _, h => by cases h
  | .dict _, h => by cases h
theorem tps_id : ∀ {ds : List PyData}, tupOs ds = true → tpDs ds = ds
  | [], _ => rfl
  | x :: r, h => by rw [tupOs, Bool.and_eq_true] at h; rw [tpDs, tp_id h.1, tps_id h.2]
end
mutual
theorem tp_ls : ∀ {d : PyData}, tupO d = true → tpD (lsD d) = d
  | .none, _ => rfl
  | .bool _, _ => rfl
  | .int _, _ => rfl
  | .str _, _ => rfl
  | .tuple xs, h => by rw [tupO] at h; rw [lsD, tpD, tps_ls h]
  | .list _, h => by cases h
  | .dict _, h => by cases h
theorem tps_ls : ∀ {ds : List PyData}, tupOs ds = true → tpDs (lsDs ds) = ds
  | [], _ => rfl
  | x :: r, h => by rw [tupOs, Bool.and_eq_true] at h; rw [lsDs, tpDs, tp_ls h.1, tps_ls h.2]
end
mutual
theorem sz_ls (W : List Str) : ∀ d : PyData, sz W (lsD d) = sz W d
  | .none => rfl
  | .bool _ => rfl
  | .int _ => rfl
  | .str _ => rfl
  | .tuple xs => by rw [lsD, sz, sz, szs_ls W xs]
  | .list xs => by rw [lsD, sz, sz, szs_ls W xs]
  | .dict _ => rfl
theorem szs_ls (W : List Str) : ∀ ds : List PyData, szs W (lsDs ds) = szs W ds
  | [] => rfl
  | x :: r => by rw [lsDs, szs, szs, sz_ls W x, szs_ls W r]
end
mutual
theorem dep_ls : ∀ d : PyData, (lsD d).depth = d.depth
  | .none => rfl
  | .bool _ => rfl
  | .int _ => rfl
  | .str _ => rfl
  | .tuple xs => by rw [lsD, PyData.depth, PyData.depth, deps_ls xs]
  | .list xs => by rw [lsD, PyData.depth, PyData.depth, deps_ls xs]
  | .dict _ => rfl
theorem deps_ls : ∀ ds : List PyData, PyData.depthAll (lsDs ds) = PyData.depthAll ds
  | [] => rfl
  | x :: r => by rw [lsDs, PyData.depthAll, PyData.depthAll, dep_ls x, deps_ls r]
end
/-! ### a content, small and made of tuples -/
structure Cnt (c : PyData) : Prop where
  cont : contD c = true
  to : tupO c = true
  size : sz WD c ≤ 600
  dep : c.depth ≤ 5
theorem sz_int {i : Int} (h0 : 0 ≤ i) (h1 : i < 10000000) : sz WD (.int i) = 40 := by rw [sz, if_pos (by omega)]
theorem StW.small {s : PyData} (h : StW s) : tupO s = true ∧ sz WD s ≤ 40 ∧ s.depth ≤ 1 := by
  rcases h with rfl | ⟨n, h0, h1, rfl⟩
  · exact ⟨rfl, by decide +kernel, by decide⟩
  · exact ⟨rfl, by rw [sz_int h0 h1]; exact Nat.le_refl _, by simp [PyData.depth]⟩
theorem ents_small : ∀ {es : List (Int × PyData)}, (∀ e ∈ es, 0 ≤ e.1 ∧ e.1 < 10000000) → (∀ e ∈ es, StW e.2) → tupOs (es.map enE) = true ∧ szs WD (es.map enE) ≤ 90 * es.length ∧ PyData.depthAll (es.map enE) ≤ 3
  | [], _, _ => ⟨rfl, by simp [szs], by simp [PyData.depthAll]⟩
  | e :: r, h1, h2 => by
    obtain ⟨a, b, c⟩ := ents_small (fun x hx => h1 x (List.mem_cons_of_mem _ hx)) fun x hx => h2 x (List.mem_cons_of_mem _ hx)
    obtain ⟨s1, s2, s3⟩ := (h2 e List.mem_cons_self).small
    have q := h1 e List.mem_cons_self
    refine ⟨?_, ?_, ?_⟩
    · simp only [List.map_cons, tupOs, tupO, s1, a]; rfl
    · have e1 : sz WD (enE e) = 4 + (2 + sz WD (.int e.1) + (2 + sz WD e.2 + 0)) := by simp only [sz, szs]
      rw [List.map_cons, szs, e1, sz_int q.1 q.2, List.length_cons]
      omega
    · simp only [List.map_cons, PyData.depthAll, PyData.depth]
      omega
theorem leaf_cnt {es : List (Int × PyData)} (h : EsW es) : Cnt (leafE es) := by
  obtain ⟨a, b, c⟩ := ents_small h.rng h.st
  have hl := h.len
  have e1 : sz WD (.str "leaf") = 40 := by decide +kernel
  refine ⟨leaf_cont h, ?_, ?_, ?_⟩
  · simp only [tupO, tupOs, a]; rfl
  · have : sz WD (leafE es) = 4 + (2 + sz WD (.str "leaf") + (2 + (4 + szs WD (es.map enE)) + 0)) := by simp only [sz, szs]
    rw [this, e1]; omega
  · simp only [PyData.depth, PyData.depthAll]; omega
theorem kids_small : ∀ {xs : List PyData} {ks : List Int}, (∀ x ∈ xs, x = .none ∨ ∃ c : Int, 0 ≤ c ∧ c < 1000 ∧ x = .int c) → (∀ k ∈ ks, 0 ≤ k ∧ k < 30) → tupOs ((xs.zip (ks.map PyData.int)).map fun p => .tuple [p.1, p.2]) = true ∧ szs WD ((xs.zip (ks.map PyData.int)).map fun p => .tuple [p.1, p.2]) ≤ 90 * ks.length ∧ PyData.depthAll ((xs.zip (ks.map PyData.int)).map fun p => .tuple [p.1, p.2]) ≤ 3
  | [], ks, _, _ => ⟨rfl, by simp [szs], by simp [PyData.depthAll]⟩
  | x :: xs, [], _, _ => ⟨rfl, by simp [szs], by simp [PyData.depthAll]⟩
  | x :: xs, k :: ks, h1, h2 => by
    obtain ⟨a, b, c⟩ := kids_small (fun y hy => h1 y (List.mem_cons_of_mem _ hy)) fun y hy => h2 y (List.mem_cons_of_mem _ hy)
    have q := h2 k List.mem_cons_self
    have e2 := sz_int (i := k) q.1 (by omega)
    rcases h1 x List.mem_cons_self with rfl | ⟨i, i0, i1, rfl⟩
    · refine ⟨?_, ?_, ?_⟩
      · simp only [List.map_cons, List.zip_cons_cons, tupOs, tupO, a]; rfl
      · simp only [List.map_cons, List.zip_cons_cons, szs, sz, List.length_cons]
        simp only [sz] at e2
        omega
      · simp only [List.map_cons, List.zip_cons_cons, PyData.depthAll, PyData.depth]; omega
    · have e3 := sz_int (i := i) i0 (by omega)
      refine ⟨?_, ?_, ?_⟩
      · simp only [List.map_cons, List.zip_cons_cons, tupOs, tupO, a]; rfl
      · simp only [List.map_cons, List.zip_cons_cons, szs, sz, List.length_cons]
        simp only [sz] at e2 e3
        omega
      · simp only [List.map_cons, List.zip_cons_cons, PyData.depthAll, PyData.depth]; omega
theorem inner_cnt {cs ks : List Int} (h : InW cs ks) : Cnt (innerE cs ks) := by
  obtain ⟨a, b, c⟩ := kids_small (xs := PyData.none :: cs.map PyData.int) (ks := ks) (fun x hx => by
    rcases List.mem_cons.mp hx with rfl | hx
    · exact .inl rfl
    · obtain ⟨c, hc, rfl⟩ := List.mem_map.mp hx
      have := h.rng c hc
      exact .inr ⟨c, by omega, by omega, rfl⟩) h.rng2
  have hl := h.len
  have hl2 := h.len2
  have e1 : sz WD (.str "inner") = 40 := by decide +kernel
  refine ⟨inner_cont h, ?_, ?_, ?_⟩
  · unfold innerE; simp only [tupO, tupOs, a]; rfl
  · have : sz WD (innerE cs ks) = 4 + (2 + sz WD (.str "inner") + (2 + (4 + szs WD (((PyData.none :: cs.map PyData.int).zip (ks.map PyData.int)).map fun p => .tuple [p.1, p.2])) + 0)) := by unfold innerE; simp only [sz, szs]
    rw [this, e1]; omega
  · unfold innerE; simp only [PyData.depth, PyData.depthAll]; omega
theorem CtOk.cnt {c : PyData} (h : CtOk c) : Cnt c := by
  cases h with
  | leaf h => exact leaf_cnt h
  | inner h => exact inner_cnt h
theorem free_cnt : Cnt (.tuple [.str "free"]) := ⟨by decide +kernel, rfl, by decide +kernel, by decide⟩
theorem Tree.facts {st : List (Int × PyData)} (h : Tree st) : (st.map (·.1)).Nodup ∧ (∀ n ∈ st.map (·.1), 0 ≤ n ∧ n < 30) ∧ st.length ≤ 30 ∧ 0 < st.length ∧ ∀ e ∈ st, CtOk e.2 := by
  obtain ⟨mx, d, hi, ns, ns', m1, m3, hd, h12, h1, nd, hn, hl, g⟩ := h
  have hn2 : ∀ n ∈ ns ++ [0], 0 ≤ n ∧ n < 30 := fun n hm => by
    rcases List.mem_append.mp hm with hm | hm
    · have := hn n hm; omega
    · simp at hm; omega
  obtain ⟨t, et, tp, _⟩ := Grown.tk d _ _ _ _ _ _ g
  obtain ⟨c1, c2⟩ := grown_ct m3 d _ _ _ _ _ _ g (by omega) (by omega) h1 nd hn2
  refine ⟨?_, fun n hm => hn2 n (by rw [et]; exact List.mem_append_right _ (tp.mem_iff.mpr hm)), ?_, ?_, c1⟩
  · rw [et] at nd
    exact tp.nodup_iff.mp (List.nodup_append.mp nd).2.1
  · have e1 := tp.length_eq
    have e2 := congrArg List.length et
    simp only [List.length_append, List.length_map, List.length_singleton] at e1 e2
    omega
  · obtain ⟨e, he, _⟩ := List.mem_map.mp c2
    exact List.length_pos_of_mem he
theorem val_st {st : List (Int × PyData)} (nd : (st.map (·.1)).Nodup) {n : Int} (h : n ∈ st.map (·.1)) : ∃ c, (n, c) ∈ st ∧ valS (stS st) (.inl n) = some (.d c) := by
  obtain ⟨e, he, rfl⟩ := List.mem_map.mp h
  exact ⟨e.2, he, by rw [valS_st, (lkE_mem nd (n := e.1) (v := e.2)).mpr he]; rfl⟩
end LW

set_option Elab.async false
set_option linter.all false
set_option maxRecDepth 100000
set_option maxHeartbeats 4000000
namespace LW
open PySem PySem.Spec L2 DL
/-! ### contents of any kind, ways -/
abbrev optD : Option Int → PyData
  | none => .none
  | some i => .int i
abbrev chE (c : Option Int × Int) : PyData := .tuple [optD c.1, .int c.2]
abbrev innerG (cs : List (Option Int × Int)) : PyData := .tuple [.str "inner", .tuple (cs.map chE)]
abbrev freeD : PyData := .tuple [.str "free"]
abbrev triE (t : Int × Option Int × Option Int) : PyData := .tuple [.int t.1, optD t.2.1, optD t.2.2]
def rgs : List (Option Int × Int) → Option Int → Option Int → List (Int × Option Int × Option Int)
  | [], _, _ => []
  | [c], lo, hi => [(c.2, lo, hi)]
  | c :: d :: r, lo, hi => (c.2, lo, d.1) :: rgs (d :: r) d.1 hi
def leO : Option Int → Int → Bool
  | none, _ => true
  | some a, k => decide (a ≤ k)
def ltO : Int → Option Int → Bool
  | _, none => true
  | k, some b => decide (k < b)
abbrev within (k : Int) (lo hi : Option Int) : Bool := leO lo k && ltO k hi
theorem rgs_tri : ∀ (c : Option Int × Int) (cs : List (Option Int × Int)) (lo hi : Option Int), triD ((c :: cs).map fun c => .int c.2) (optD lo :: cs.map fun c => optD c.1) ((cs.map fun c => optD c.1) ++ [optD hi]) = (rgs (c :: cs) lo hi).map triE
  | c, [], lo, hi => rfl
  | c, d :: r, lo, hi => by
    have ih := rgs_tri d r d.1 hi
    simp only [List.map_cons, List.cons_append, triD, rgs] at ih ⊢
    rw [ih]
theorem rgs_len : ∀ (cs : List (Option Int × Int)) (lo hi : Option Int), (rgs cs lo hi).length = cs.length
  | [], _, _ => rfl
  | [c], _, _ => rfl
  | c :: d :: r, lo, hi => by rw [rgs, List.length_cons, rgs_len (d :: r), List.length_cons]; rfl
/-- the child of a key -/
def pick (cs : List (Option Int × Int)) (k : Int) : Option Int := ((rgs cs none none).find? fun t => within k t.2.1 t.2.2).map (·.1)
inductive Way (st : List (Int × PyData)) (k : Int) : Int → List Int → List (Int × PyData) → Prop
  | leaf {p : Int} {es : List (Int × PyData)} : lkE st p = some (leafE es) → (es.map (·.1)).Nodup → es.length ≤ 1000 → Way st k p [p] es
  | inner {p q : Int} {cs : List (Option Int × Int)} {ts : List Int} {es : List (Int × PyData)} : lkE st p = some (innerG cs) → cs ≠ [] → cs.length ≤ 1000 → pick cs k = some q → Way st k q ts es → Way st k p (p :: ts) es
theorem Way.cons {st : List (Int × PyData)} {k p : Int} {ts : List Int} {es : List (Int × PyData)} (h : Way st k p ts es) : ∃ r, ts = p :: r := by cases h <;> exact ⟨_, rfl⟩
theorem Way.last {st : List (Int × PyData)} {k p : Int} {ts : List Int} {es : List (Int × PyData)} (h : Way st k p ts es) : ∃ n, ts.getLast? = some n ∧ lkE st n = some (leafE es) ∧ (es.map (·.1)).Nodup ∧ es.length ≤ 1000 := by
  induction h with
  | leaf h nd hl => exact ⟨_, rfl, h, nd, hl⟩
  | inner _ _ _ _ w ih =>
    obtain ⟨n, h1, h2⟩ := ih
    obtain ⟨r, rfl⟩ := w.cons
    exact ⟨n, by rw [List.getLast?_cons_cons]; exact h1, h2⟩
theorem filter_find {A : Type} {p : A → Bool} : ∀ {l : List A} {a : A}, l.find? p = some a → (l.filter p).take 1 = [a]
  | x :: r, a, h => by
    rw [List.find?_cons] at h
    split at h
    · rename_i hp
      cases h
      rw [List.filter_cons_of_pos hp]; rfl
    · rename_i hp
      rw [List.filter_cons_of_neg (by simp [hp])]
      exact filter_find h
theorem pairsD_en : ∀ es : List (Int × PyData), pairsD (es.map enE) = some (stS es)
  | [] => rfl
  | e :: r => by rw [List.map_cons, pairsD, pairsD_en r]; rfl
theorem merge_st {es : List (Int × PyData)} (h : (es.map (·.1)).Nodup) : mergeS [] (stS es) = stS es := by
  have := DL.merge_new (stS es) [] (by
    rw [List.nil_append, List.map_map]
    have : (es.map (·.1)).Pairwise (· ≠ ·) := h
    exact List.pairwise_map.mpr ((List.pairwise_map.mp this).imp fun h e => h (Sum.inl.inj e)))
  simpa using this
/-! ### what the defs promise -/
def cn_contents : Cn := fun rs M R => ∃ d l, rs = [.d d] ∧ tpD d = .tuple (l.map enE) ∧ (l.map (·.1)).Nodup ∧ d.depth ≤ 20 ∧ sz WD d ≤ 16777216 ∧ ∀ c, M c = none → R (.v (.ref c)) (upM M c (.dic (stS l)))
def cn_content : Cn := fun rs M R => ∃ c n st, rs = [.v (.ref c), .i n] ∧ M c = some (.dic (stS st)) ∧ R (.d ((lkE st n).getD freeD)) M
def cn_ranges : Cn := fun rs M R => ∃ (cs : List (Option Int × Int)) (lo hi : Option Int), rs = [.d (.tuple (cs.map chE)), .d (optD lo), .d (optD hi)] ∧ cs ≠ [] ∧ cs.length ≤ 1000 ∧ R (.d (.list ((rgs cs lo hi).map triE))) M
def cn_within : Cn := fun rs M R => ∃ (k : Int) (lo hi : Option Int), rs = [.i k, .d (optD lo), .d (optD hi)] ∧ R (.b (within k lo hi)) M
def cn_way_in : Cn := fun rs M R => ∃ c k st ts es, rs = [.v (.ref c), .i k] ∧ M c = some (.dic (stS st)) ∧ Way st k 0 ts es ∧ ts.length ≤ 1000 ∧ ∀ q, M q = none → R (.v (.ref q)) (upM M q (.lst (intS ts)))
def cn_state_in : Cn := fun rs M R => ∃ c k st ts es, rs = [.v (.ref c), .i k] ∧ M c = some (.dic (stS st)) ∧ Way st k 0 ts es ∧ ts.length ≤ 1000 ∧ R (.d ((lkE es k).getD .none)) M
end LW

set_option Elab.async false
set_option linter.all false
set_option maxRecDepth 100000
set_option maxHeartbeats 4000000
namespace LW
open PySem PySem.Spec L2 DL
local macro_rules | `(tactic| walk_at "mem") => `(tactic| ((repeat rw [upM_ne (by assumption)]); first | exact upM_same | assumption))
local macro_rules | `(tactic| walk_at "look") => `(tactic| first | rfl | assumption | exact atI_map0 | exact atI_map1 | walk_at "mem" | (with_reducible apply lsOf_m; walk_at "mem") | (with_reducible apply sqOf_m; walk_at "mem") | (with_reducible apply rlOf_m; walk_at "mem") | (with_reducible apply sqOf'_m; walk_at "mem") | (with_reducible apply tru_l; walk_at "mem") | (with_reducible apply tru_d; walk_at "mem") | ((simp (discharger := assumption) only [sqOf, sqOf', rlOf, lsOf, tru, upM_same, upM_ne]) <;> rfl))
local macro_rules | `(tactic| walk_at "set") => `(tactic| (simp only [wipeD, List.set_cons_zero, List.set_cons_succ, List.set_nil]; rfl))
local macro_rules | `(tactic| walk_at "side") => `(tactic| first | omega | (simp only [List.length_map, List.length_cons, List.length_nil]; omega) | assumption | rfl | decide | exact ⟨by omega, by omega⟩ | exact Nat.le_of_ble_eq_true rfl)
local macro_rules | `(tactic| walk_at "head") => `(tactic| with_reducible conv => whnf)
local macro_rules | `(tactic| walk_at "step") => `(tactic| (walk_at "head"; first
  | ((with_reducible apply gN_go); (focus walk_at "set"))
  | ((with_reducible apply e1s); (focus rfl))
  | ((with_reducible apply e1); (focus walk_at "look"))
  | ((with_reducible apply e2); (focus walk_at "look"); (focus walk_at "look"))
  | ((with_reducible apply l1); (focus walk_at "look"))
  | ((with_reducible apply l2); (focus walk_at "look"); (focus walk_at "look"))
  | ((with_reducible apply e3); (focus walk_at "look"); (focus walk_at "look"); (focus walk_at "look"))
  | ((with_reducible apply e0a); (focus walk_at "look"))
  | ((with_reducible apply And.intro); (focus walk_at "side"))
  | ((with_reducible apply d1); (focus walk_at "look"))
  | ((with_reducible apply d2); (focus walk_at "look"); (focus walk_at "look"))
  | ((with_reducible apply d3); (focus walk_at "look"); (focus walk_at "look"); (focus walk_at "look"))
  | ((with_reducible apply d0); (focus walk_at "look"))
  | ((with_reducible apply lk1); (focus walk_at "look"))
  | with_reducible apply gw2_go
  | with_reducible apply gw3_go
  | with_reducible apply gs_go
  | with_reducible apply gt2_go
  | with_reducible apply gt3_go
  | with_reducible apply gt1_go
  | with_reducible apply gt4_go
  | with_reducible apply gt5_go
  | with_reducible apply gt6_go
  | with_reducible apply gt7_go
  | with_reducible apply gt8_go
  | with_reducible apply ift_go
  | with_reducible apply iff_go
  | ((with_reducible apply ifT_go); (focus rfl))
  | ((with_reducible apply ifF_go); (focus rfl))))
local macro_rules | `(tactic| walk_at "run") => `(tactic| (repeat walk_at "step"); walk_at "head")
local macro_rules | `(tactic| walk_at "start") => `(tactic| simp only [startD, List.map_cons, List.map_nil, List.length_cons, List.length_nil, List.replicate, List.cons_append, List.nil_append, Nat.reduceAdd, Nat.reduceSub, bodyK])
section
variable {P : Program} {w : World} {K : PySem.W.Frag} {mg : Str → Option Value} {base : Heap}
theorem ok_contents (T : Tx K mg) (H_tupled : Has P w K mg base 21 "tupled" s_tupled ["thing"] (cn_deep tpD 20)) {f : Addr} {fd : FuncData} (Fu : Fun K "contents_of" "contents_of" s_contents_of f fd) : FnD P w K mg base 22 f fd ["pages"] cn_contents := by
  refine fnD_of Fu sc_contents_of (fun rs M R h => ?_) fun cdv A outer s H hgd hr => ⟨_, (pdb_one (pds_ret (pd_callT (c_dict rfl) (by rfl) T.z_dict (by decide +kernel) (pda_cons (pd_fn H_tupled hgd (hr.mono (by first | decide | omega)) (by rfl) (pda_cons (pd_var 0) pda_nil)) pda_nil)))), ?_⟩
  · obtain ⟨d, l, rfl, _⟩ := h
    rfl
  · rintro rs M R ⟨d, l, rfl, et, nd, hd, hz, k⟩
    walk_at "start"
    walk_at "run"
    refine ⟨d, rfl, hd, hz, ?_⟩
    rw [et]
    walk_at "run"
    refine e1 (pairsD_en l) ?_
    rw [merge_st nd]
    exact fun c hc => upR.of (k c hc)
theorem ok_content_in (T : Tx K mg) {f : Addr} {fd : FuncData} (Fu : Fun K "content_in" "content_in" s_content_in f fd) : FnD P w K mg base 1 f fd ["contents", "page"] cn_content := by
  refine fnD_of Fu sc_content_in (fun rs M R h => ?_) fun cdv A outer s H hgd hr => ⟨_, (pdb_one (pds_ret (pd_get2 (hu_of hr) (pd_var 0) (pd_var 1) (pd_gD (by rfl) T.c_FREE)))), ?_⟩
  · obtain ⟨c, n, st, rfl, _⟩ := h
    rfl
  · rintro rs M R ⟨c, n, st, rfl, hc, k⟩
    walk_at "start"
    walk_at "run"
    refine upR.of ?_
    rw [valS_st]
    cases e : lkE st n with
    | none => rw [e] at k; exact k
    | some x => rw [e] at k; exact k
theorem ok_ranges (T : Tx K mg) {f : Addr} {fd : FuncData} (Fu : Fun K "children_with_ranges" "children_with_ranges" s_children_with_ranges f fd) : FnD P w K mg base 1 f fd ["children", "low", "high"] cn_ranges := by
  refine fnD_of Fu sc_children_with_ranges (fun rs M R h => ?_) fun cdv A outer s H hgd hr => ⟨_, (pdb_cons (pds_set 3 sc_children_with_ranges.nd (pd_op o_plusD (pd_lst (pda_cons (pd_var 1) pda_nil)) (pd_lc (own := [("key", 5), ("page", 6)]) rfl sc_children_with_ranges.nd (pdi_seq (pd_slice (pd_var 0) (pdo_some pd_int) pdo_none)) (blkOk_by (N := N_children_with_ranges) (sc := defScope s_children_with_ranges) (by decide +kernel)) (fun _ _ _ _ _ => (pdgw_tup (n := 2) rfl (pdgsw_cons (pdgw_name 5 sc_children_with_ranges.nd) (pdgsw_cons (pdgw_name 6 sc_children_with_ranges.nd) pdgsw_nil)))) (fun _ _ _ _ _ => pdts_nil) (fun _ _ _ _ _ => (pd_var 5)))))
      (pdb_cons (pds_setLc 4 (own := [("key", 5), ("page", 6)]) rfl sc_children_with_ranges.nd rfl rfl (sw_true rfl rfl rfl (by decide +kernel)) (pdi_seq (pd_var 0)) (blkOk_by (N := N_children_with_ranges) (sc := defScope s_children_with_ranges) (by decide +kernel)) (fun _ _ _ _ _ => (pdgw_tup (n := 2) rfl (pdgsw_cons (pdgw_name 5 sc_children_with_ranges.nd) (pdgsw_cons (pdgw_name 6 sc_children_with_ranges.nd) pdgsw_nil)))) (fun _ _ _ _ _ => pdts_nil) (fun _ _ _ _ _ => (pd_var 6)))
      (pdb_one (pds_ret (pd_listZip3 rfl (by rfl) T.z_list (by rfl) T.z_zip (pda_cons (pd_var 4) (pda_cons (pd_var 3) (pda_cons (pd_op o_plusD (pd_slice (pd_var 3) (pdo_some pd_int) pdo_none) (pd_lst (pda_cons (pd_var 2) pda_nil))) pda_nil)))))))), ?_⟩
  · obtain ⟨cs, lo, hi, rfl, _⟩ := h
    rfl
  · rintro rs M R ⟨cs, lo, hi, rfl, c0, cl, k⟩
    obtain ⟨c, cs, rfl⟩ : ∃ c r, cs = c :: r := by
      cases cs with
      | nil => exact absurd rfl c0
      | cons c r => exact ⟨c, r, rfl⟩
    rw [List.length_cons] at cl
    walk_at "start"
    walk_at "run"
    rw [cutA_from (by decide), show Int.toNat 1 = 1 from rfl, List.drop_succ_cons, List.drop_zero, ← mapD_d]
    refine lc_m cs _ (fun c => .d (optD c.1)) trivial (by rw [sizeLine_eq]; omega) (fun c hc k1 k0 h => ?_) ?_
    · walk_at "run"
      exact h
    rw [mapD_d]
    refine e1 (datOf_map _) ?_
    walk_at "run"
    refine ⟨by rw [List.length_map, sizeLine_eq]; simp; omega, ?_⟩
    walk_at "run"
    rw [← List.map_cons (f := chE), ← mapD_d]
    refine lc_m (c :: cs) _ (fun c => .i c.2) trivial (by rw [List.length_cons, sizeLine_eq]; omega) (fun c hc k1 k0 h => ?_) ?_
    · walk_at "run"
      exact h
    rw [mapD_d]
    refine e1 (datOf_map _) ?_
    walk_at "run"
    refine e2 rfl (by rw [cutA_from (by decide), ← List.map_drop]; exact datOf_map _) ?_
    rw [show Int.toNat 1 = 1 from rfl, List.singleton_append, List.drop_succ_cons, List.drop_zero]
    walk_at "run"
    refine ⟨by rw [List.length_map, sizeLine_eq]; simp; omega, ?_⟩
    walk_at "run"
    refine ⟨by simp, by simp, upR.of ?_⟩
    show R (.d (.list (triD ((c :: cs).map fun c => .int c.2) (optD lo :: cs.map fun c => optD c.1) ((cs.map fun c => optD c.1) ++ [optD hi])))) M
    rw [rgs_tri]
    exact k
theorem ok_within (T : Tx K mg) {f : Addr} {fd : FuncData} (Fu : Fun K "is_within" "is_within" s_is_within f fd) : FnD P w K mg base 1 f fd ["key", "low", "high"] cn_within := by
  refine fnD_of Fu sc_is_within (fun rs M R h => ?_) fun cdv A outer s H hgd hr => ⟨_, (pdb_one (pds_ret (pd_and (pd_or (pd_cmp o_isN (pd_var 1) pd_non (nomark _)) (pd_one (pd_cmp o_le (pd_var 1) (pd_var 0) (nomark _)))) (pd_one (pd_or (pd_cmp o_isN (pd_var 2) pd_non (nomark _)) (pd_one (pd_cmp o_lt (pd_var 0) (pd_var 2) (nomark _)))))))), ?_⟩
  · obtain ⟨k, lo, hi, rfl, _⟩ := h
    rfl
  · rintro rs M R ⟨k, lo, hi, rfl, hk⟩
    walk_at "start"
    cases lo with
    | none =>
      cases hi with
      | none => walk_at "run"; exact upR.of hk
      | some b => walk_at "run"; exact upR.of hk
    | some a =>
      walk_at "run"
      apply ifd_go
      · intro h
        have e : leO (some a) k = true := decide_eq_true h
        rw [within, e, Bool.true_and] at hk
        cases hi with
        | none => walk_at "run"; exact upR.of hk
        | some b => walk_at "run"; exact upR.of hk
      · intro h
        have e : leO (some a) k = false := decide_eq_false h
        rw [within, e, Bool.false_and] at hk
        have e2 : decide (a ≤ k) = false := decide_eq_false h
        refine upR.of ?_
        show R (.b (decide (a ≤ k))) M
        rw [e2]
        exact hk
end
end LW

set_option Elab.async false
set_option linter.all false
set_option maxRecDepth 100000
set_option maxHeartbeats 4000000
namespace LW
open PySem PySem.Spec L2 DL
local macro_rules | `(tactic| walk_at "mem") => `(tactic| ((repeat rw [upM_ne (by assumption)]); first | exact upM_same | assumption))
local macro_rules | `(tactic| walk_at "look") => `(tactic| first | rfl | assumption | exact atI_map0 | exact atI_map1 | walk_at "mem" | (with_reducible apply lsOf_m; walk_at "mem") | (with_reducible apply sqOf_m; walk_at "mem") | (with_reducible apply rlOf_m; walk_at "mem") | (with_reducible apply sqOf'_m; walk_at "mem") | (with_reducible apply tru_l; walk_at "mem") | (with_reducible apply tru_d; walk_at "mem") | ((simp (discharger := assumption) only [sqOf, sqOf', rlOf, lsOf, tru, upM_same, upM_ne]) <;> rfl))
local macro_rules | `(tactic| walk_at "set") => `(tactic| (simp only [wipeD, List.set_cons_zero, List.set_cons_succ, List.set_nil]; rfl))
local macro_rules | `(tactic| walk_at "side") => `(tactic| first | omega | (simp only [List.length_map, List.length_cons, List.length_nil]; omega) | assumption | rfl | decide | exact ⟨by omega, by omega⟩ | exact Nat.le_of_ble_eq_true rfl)
local macro_rules | `(tactic| walk_at "head") => `(tactic| with_reducible conv => whnf)
local macro_rules | `(tactic| walk_at "step") => `(tactic| (walk_at "head"; first
  | ((with_reducible apply gN_go); (focus walk_at "set"))
  | ((with_reducible apply e1s); (focus rfl))
  | ((with_reducible apply e1); (focus walk_at "look"))
  | ((with_reducible apply e2); (focus walk_at "look"); (focus walk_at "look"))
  | ((with_reducible apply l1); (focus walk_at "look"))
  | ((with_reducible apply l2); (focus walk_at "look"); (focus walk_at "look"))
  | ((with_reducible apply e3); (focus walk_at "look"); (focus walk_at "look"); (focus walk_at "look"))
  | ((with_reducible apply e0a); (focus walk_at "look"))
  | ((with_reducible apply And.intro); (focus walk_at "side"))
  | ((with_reducible apply d1); (focus walk_at "look"))
  | ((with_reducible apply d2); (focus walk_at "look"); (focus walk_at "look"))
  | ((with_reducible apply d3); (focus walk_at "look"); (focus walk_at "look"); (focus walk_at "look"))
  | ((with_reducible apply d0); (focus walk_at "look"))
  | ((with_reducible apply lk1); (focus walk_at "look"))
  | with_reducible apply gw2_go
  | with_reducible apply gw3_go
  | with_reducible apply gs_go
  | with_reducible apply gt2_go
  | with_reducible apply gt3_go
  | with_reducible apply gt1_go
  | with_reducible apply gt4_go
  | with_reducible apply gt5_go
  | with_reducible apply gt6_go
  | with_reducible apply gt7_go
  | with_reducible apply gt8_go
  | with_reducible apply ift_go
  | with_reducible apply iff_go
  | ((with_reducible apply ifT_go); (focus rfl))
  | ((with_reducible apply ifF_go); (focus rfl))))
local macro_rules | `(tactic| walk_at "run") => `(tactic| (repeat walk_at "step"); walk_at "head")
local macro_rules | `(tactic| walk_at "start") => `(tactic| simp only [startD, List.map_cons, List.map_nil, List.length_cons, List.length_nil, List.replicate, List.cons_append, List.nil_append, Nat.reduceAdd, Nat.reduceSub, bodyK])
theorem atI_lastI {ts : List Int} {n : Int} (h : ts.getLast? = some n) : atI (intS ts) (-1) = some (.i n) := atI_last (by unfold intS; rw [List.getLast?_map, h]; rfl)
section
variable {P : Program} {w : World} {K : PySem.W.Frag} {mg : Str → Option Value} {base : Heap}
theorem ok_way_in (T : Tx K mg) (H_content_in : Has P w K mg base 1 "content_in" s_content_in ["contents", "page"] cn_content) (H_children_with_ranges : Has P w K mg base 1 "children_with_ranges" s_children_with_ranges ["children", "low", "high"] cn_ranges)
    (H_is_within : Has P w K mg base 1 "is_within" s_is_within ["key", "low", "high"] cn_within) {f : Addr} {fd : FuncData} (Fu : Fun K "way_in" "way_in" s_way_in f fd) : FnD P w K mg base 2 f fd ["contents", "key"] cn_way_in := by
  refine fnD_of Fu sc_way_in (fun rs M R h => ?_) fun cdv A outer s H hgd hr => ⟨_, (pdb_cons (pds_set 2 sc_way_in.nd (pd_lstM (pda_cons (pd_gI (by rfl) T.c_ROOT) pda_nil)))
      (pdb_cons (pds_set 3 sc_way_in.nd (pd_fn H_content_in hgd (hr.mono (by first | decide | omega)) (by rfl) (pda_cons (pd_var 0) (pda_cons (pd_gI (by rfl) T.c_ROOT) pda_nil))))
      (pdb_cons (pds_while PassesOwn.never (pdt_cmp (o_eq hr.units) (pd_ix (pd_var 3) pd_int) (pd_gS (by rfl) T.c_INNER) (nomark _)) (pdb_cons (pds_set 4 sc_way_in.nd (pd_fn H_children_with_ranges hgd (hr.mono (by first | decide | omega)) (by rfl) (pda_cons (pd_ix (pd_var 3) pd_int) (pda_cons pd_non (pda_cons pd_non pda_nil)))))
      (pdb_cons (pds_expr (pd_extend (pd_var 2) (pda_cons (pd_slice (pd_lc (own := [("page", 5), ("low", 6), ("high", 7)]) rfl sc_way_in.nd (pdi_seq (pd_var 4)) (blkOk_by (N := N_way_in) (sc := defScope s_way_in) (by decide +kernel)) (fun _ _ _ _ _ => (pdgw_tup (n := 3) rfl (pdgsw_cons (pdgw_name 5 sc_way_in.nd) (pdgsw_cons (pdgw_name 6 sc_way_in.nd) (pdgsw_cons (pdgw_name 7 sc_way_in.nd) pdgsw_nil))))) (fun _ _ _ _ _ => (pdts_one (pdt_tru (pd_fn H_is_within hgd (hr.mono (by first | decide | omega)) (by rfl) (pda_cons (pd_var 1) (pda_cons (pd_var 6) (pda_cons (pd_var 7) pda_nil))))))) (fun _ _ _ _ _ => (pd_var 5))) pdo_none (pdo_some pd_int)) pda_nil)))
      (pdb_one (pds_set 3 sc_way_in.nd (pd_fn H_content_in hgd (hr.mono (by first | decide | omega)) (by rfl) (pda_cons (pd_var 0) (pda_cons (pd_ix (pd_var 2) (pd_neg pd_int)) pda_nil))))))))
      (pdb_one (pds_ret (pd_var 2)))))), ?_⟩
  · obtain ⟨c, k, st, ts, es, rfl, _⟩ := h
    rfl
  · rintro rs M R ⟨c, k, st, ts, es, rfl, hc, hw, hl, hk⟩
    walk_at "start"
    walk_at "run"
    intro q hq
    have hcq : c ≠ q := neM hc hq
    walk_at "run"
    refine ⟨c, 0, st, rfl, by walk_at "mem", ?_⟩
    walk_at "run"
    refine while_ind1 (n := ts.length - 1) (fun n dl M' => ∃ (done : List Int) (p : Int) (rest : List Int) (x4 x5 x6 x7 : Option Sl), Way st k p (p :: rest) es ∧ rest.length = n ∧ done ++ p :: rest = ts ∧ M' = upM M q (.lst (intS (done ++ [p]))) ∧
      dl = [some (.v (.ref c)), some (.i k), some (.v (.ref q)), some (.d ((lkE st p).getD freeD)), x4, x5, x6, x7]) ?_ ?_ ?_
    · rintro nx _ _ ⟨done, p, rest, x4, x5, x6, x7, w, r0, et, rfl, rfl⟩
      have e := List.length_eq_zero_iff.mp r0
      subst e
      cases w with
      | leaf h nd hl =>
        rw [h]
        walk_at "run"
        subst et
        exact upR.of (hk q hq)
      | inner _ _ _ _ w => obtain ⟨r, e⟩ := w.cons; cases e
    · rintro n nx _ _ hnx ⟨done, p, rest, x4, x5, x6, x7, w, r0, et, rfl, rfl⟩
      cases w with
      | leaf h nd hl => cases r0
      | @inner _ p2 cs ts2 _ h c0 cl hp w =>
        rw [h]
        obtain ⟨r, rfl⟩ := w.cons
        obtain ⟨t, ht, rfl⟩ := Option.map_eq_some_iff.mp hp
        walk_at "run"
        refine ⟨cs, none, none, rfl, c0, cl, ?_⟩
        walk_at "run"
        rw [← mapD_d]
        refine lc_fl (rgs cs none none) _ (fun t => within k t.2.1 t.2.2) (fun t => .int t.1) trivial (by rw [rgs_len, sizeLine_eq]; omega) (fun t hc k1 k0 h1 h0 => ?_) ?_
        · walk_at "run"
          refine ⟨k, t.2.1, t.2.2, rfl, ?_⟩
          walk_at "run"
          apply if_go
          · intro hp
            walk_at "run"
            exact h1 hp
          · exact h0
        refine e1 (datOf_map _) ?_
        walk_at "run"
        refine e2 rfl (by rw [cutA_to (by decide), ← List.map_take, ← List.map_take, show Int.toNat 1 = 1 from rfl, filter_find ht]; exact datOf_map _) ?_
        walk_at "run"
        refine ⟨?_, ?_⟩
        · rw [sizeLine_eq]
          have := congrArg List.length et
          simp at this ⊢
          omega
        rw [upM_upM, show intS (done ++ [p]) ++ List.map Sl.d (List.map (fun t => PyData.int t.1) [t]) = intS (done ++ [p] ++ [t.1]) by simp [intS]]
        walk_at "run"
        refine e2 (by walk_at "look") (atI_lastI (n := t.1) (by simp)) ?_
        walk_at "run"
        refine ⟨c, t.1, st, rfl, by walk_at "mem", ?_⟩
        refine gN_go rfl ?_
        exact hnx _ _ ⟨done ++ [p], t.1, r, _, _, _, _, w, by simpa using r0, by rw [← et]; simp, rfl, rfl⟩
    · obtain ⟨r, rfl⟩ := hw.cons
      exact ⟨[], 0, r, _, _, _, _, hw, by simp, rfl, rfl, rfl⟩
end
end LW

set_option Elab.async false
set_option linter.all false
set_option maxRecDepth 100000
set_option maxHeartbeats 4000000
namespace LW
open PySem PySem.Spec L2 DL
local macro_rules | `(tactic| walk_at "mem") => `(tactic| ((repeat rw [upM_ne (by assumption)]); first | exact upM_same | assumption))
local macro_rules | `(tactic| walk_at "look") => `(tactic| first | rfl | assumption | exact atI_map0 | exact atI_map1 | walk_at "mem" | (with_reducible apply lsOf_m; walk_at "mem") | (with_reducible apply sqOf_m; walk_at "mem") | (with_reducible apply rlOf_m; walk_at "mem") | (with_reducible apply sqOf'_m; walk_at "mem") | (with_reducible apply tru_l; walk_at "mem") | (with_reducible apply tru_d; walk_at "mem") | ((simp (discharger := assumption) only [sqOf, sqOf', rlOf, lsOf, tru, upM_same, upM_ne]) <;> rfl))
local macro_rules | `(tactic| walk_at "set") => `(tactic| (simp only [wipeD, List.set_cons_zero, List.set_cons_succ, List.set_nil]; rfl))
local macro_rules | `(tactic| walk_at "side") => `(tactic| first | omega | (simp only [List.length_map, List.length_cons, List.length_nil]; omega) | assumption | rfl | decide | exact ⟨by omega, by omega⟩ | exact Nat.le_of_ble_eq_true rfl)
local macro_rules | `(tactic| walk_at "head") => `(tactic| with_reducible conv => whnf)
local macro_rules | `(tactic| walk_at "step") => `(tactic| (walk_at "head"; first
  | ((with_reducible apply gN_go); (focus walk_at "set"))
  | ((with_reducible apply e1s); (focus rfl))
  | ((with_reducible apply e1); (focus walk_at "look"))
  | ((with_reducible apply e2); (focus walk_at "look"); (focus walk_at "look"))
  | ((with_reducible apply l1); (focus walk_at "look"))
  | ((with_reducible apply l2); (focus walk_at "look"); (focus walk_at "look"))
  | ((with_reducible apply e3); (focus walk_at "look"); (focus walk_at "look"); (focus walk_at "look"))
  | ((with_reducible apply e0a); (focus walk_at "look"))
  | ((with_reducible apply And.intro); (focus walk_at "side"))
  | ((with_reducible apply d1); (focus walk_at "look"))
  | ((with_reducible apply d2); (focus walk_at "look"); (focus walk_at "look"))
  | ((with_reducible apply d3); (focus walk_at "look"); (focus walk_at "look"); (focus walk_at "look"))
  | ((with_reducible apply d0); (focus walk_at "look"))
  | ((with_reducible apply lk1); (focus walk_at "look"))
  | with_reducible apply gw2_go
  | with_reducible apply gw3_go
  | with_reducible apply gs_go
  | with_reducible apply gt2_go
  | with_reducible apply gt3_go
  | with_reducible apply gt1_go
  | with_reducible apply gt4_go
  | with_reducible apply gt5_go
  | with_reducible apply gt6_go
  | with_reducible apply gt7_go
  | with_reducible apply gt8_go
  | with_reducible apply ift_go
  | with_reducible apply iff_go
  | ((with_reducible apply ifT_go); (focus rfl))
  | ((with_reducible apply ifF_go); (focus rfl))))
local macro_rules | `(tactic| walk_at "run") => `(tactic| (repeat walk_at "step"); walk_at "head")
local macro_rules | `(tactic| walk_at "start") => `(tactic| simp only [startD, List.map_cons, List.map_nil, List.length_cons, List.length_nil, List.replicate, List.cons_append, List.nil_append, Nat.reduceAdd, Nat.reduceSub, bodyK])
/-- the keys of all leaves -/
def keysOf : PyData → List Int
  | .tuple [.str w, .tuple xs] => if w = "leaf" then xs.map keyD else []
  | _ => []
def keysL (st : List (Int × PyData)) : List Int := st.flatMap fun e => keysOf e.2
/-- each content is a leaf or an inner page -/
def Pages (st : List (Int × PyData)) : Prop := ∀ e ∈ st, (∃ es : List (Int × PyData), e.2 = leafE es ∧ es.length ≤ 1000) ∨ ∃ cs : List (Option Int × Int), e.2 = innerG cs
theorem keysOf_leaf (es : List (Int × PyData)) : keysOf (leafE es) = es.map (·.1) := by
  show (if (("leaf" : Str)) = "leaf" then (es.map enE).map keyD else []) = _
  rw [if_pos rfl, List.map_map]; rfl
theorem keysOf_inner (cs : List (Option Int × Int)) : keysOf (innerG cs) = [] := by
  show (if (("inner" : Str)) = "leaf" then (cs.map chE).map keyD else []) = _
  rw [if_neg (by decide)]
theorem keysL_snoc (st : List (Int × PyData)) (e : Int × PyData) : keysL (st ++ [e]) = keysL st ++ keysOf e.2 := by
  unfold keysL
  rw [List.flatMap_append]; simp
def sts (φ : Int → PyData) (ns : List Int) : List PyData := ns.map fun n => .tuple [.int n, φ n]
/-- rows, by the state of each key -/
def rowsD (φ : Int → PyData) (ns : List Int) : List PyData := ((srtI ns).filter fun n => numD (φ n)).map fun n => .tuple [.int n, φ n]
def cn_rows_in : Cn := fun rs M R => ∃ c st φ, rs = [.v (.ref c)] ∧ M c = some (.dic (stS st)) ∧ Pages st ∧ st.length ≤ 1000 ∧ (keysL st).length ≤ 1000 ∧
  (∀ k ∈ keysL st, ∃ ts es, Way st k 0 ts es ∧ ts.length ≤ 1000 ∧ φ k = (lkE es k).getD .none) ∧ ∀ q, M q = none → R (.v (.ref q)) (upM M q (.lst ((rowsD φ (uniq [] (keysL st))).map Sl.d)))
section
variable {P : Program} {w : World} {K : PySem.W.Frag} {mg : Str → Option Value} {base : Heap}
end
end LW

set_option Elab.async false
set_option linter.all false
set_option maxRecDepth 100000
set_option maxHeartbeats 4000000
namespace LW
open PySem PySem.Spec L2 DL
local macro_rules | `(tactic| walk_at "mem") => `(tactic| ((repeat rw [upM_ne (by assumption)]); first | exact upM_same | assumption))
local macro_rules | `(tactic| walk_at "look") => `(tactic| first | rfl | assumption | exact atI_map0 | exact atI_map1 | walk_at "mem" | (with_reducible apply lsOf_m; walk_at "mem") | (with_reducible apply sqOf_m; walk_at "mem") | (with_reducible apply rlOf_m; walk_at "mem") | (with_reducible apply sqOf'_m; walk_at "mem") | (with_reducible apply tru_l; walk_at "mem") | (with_reducible apply tru_d; walk_at "mem") | ((simp (discharger := assumption) only [sqOf, sqOf', rlOf, lsOf, tru, upM_same, upM_ne]) <;> rfl))
local macro_rules | `(tactic| walk_at "set") => `(tactic| (simp only [wipeD, List.set_cons_zero, List.set_cons_succ, List.set_nil]; rfl))
local macro_rules | `(tactic| walk_at "side") => `(tactic| first | omega | (simp only [List.length_map, List.length_cons, List.length_nil]; omega) | assumption | rfl | decide | exact ⟨by omega, by omega⟩ | exact Nat.le_of_ble_eq_true rfl)
local macro_rules | `(tactic| walk_at "head") => `(tactic| with_reducible conv => whnf)
local macro_rules | `(tactic| walk_at "step") => `(tactic| (walk_at "head"; first
  | ((with_reducible apply gN_go); (focus walk_at "set"))
  | ((with_reducible apply e1s); (focus rfl))
  | ((with_reducible apply e1); (focus walk_at "look"))
  | ((with_reducible apply e2); (focus walk_at "look"); (focus walk_at "look"))
  | ((with_reducible apply l1); (focus walk_at "look"))
  | ((with_reducible apply l2); (focus walk_at "look"); (focus walk_at "look"))
  | ((with_reducible apply e3); (focus walk_at "look"); (focus walk_at "look"); (focus walk_at "look"))
  | ((with_reducible apply e0a); (focus walk_at "look"))
  | ((with_reducible apply And.intro); (focus walk_at "side"))
  | ((with_reducible apply d1); (focus walk_at "look"))
  | ((with_reducible apply d2); (focus walk_at "look"); (focus walk_at "look"))
  | ((with_reducible apply d3); (focus walk_at "look"); (focus walk_at "look"); (focus walk_at "look"))
  | ((with_reducible apply d0); (focus walk_at "look"))
  | ((with_reducible apply lk1); (focus walk_at "look"))
  | with_reducible apply gw2_go
  | with_reducible apply gw3_go
  | with_reducible apply gs_go
  | with_reducible apply gt2_go
  | with_reducible apply gt3_go
  | with_reducible apply gt1_go
  | with_reducible apply gt4_go
  | with_reducible apply gt5_go
  | with_reducible apply gt6_go
  | with_reducible apply gt7_go
  | with_reducible apply gt8_go
  | with_reducible apply ift_go
  | with_reducible apply iff_go
  | ((with_reducible apply ifT_go); (focus rfl))
  | ((with_reducible apply ifF_go); (focus rfl))))
local macro_rules | `(tactic| walk_at "run") => `(tactic| (repeat walk_at "step"); walk_at "head")
local macro_rules | `(tactic| walk_at "start") => `(tactic| simp only [startD, List.map_cons, List.map_nil, List.length_cons, List.length_nil, List.replicate, List.cons_append, List.nil_append, Nat.reduceAdd, Nat.reduceSub, bodyK])
/-- a paper of pages: tuples or lists -/
structure PgIn (d : PyData) (l : List (Int × PyData)) : Prop where
  tp : tpD d = .tuple (l.map enE)
  nd : (l.map (·.1)).Nodup
  dep : d.depth ≤ 20
  size : sz WD d ≤ 16777216
def cn_way : Cn := fun rs M R => ∃ d l k ts es, rs = [.d d, .i k] ∧ PgIn d l ∧ Way l k 0 ts es ∧ ts.length ≤ 1000 ∧ ∀ q, M q = none → R (.v (.ref q)) (upM M q (.lst (intS ts)))
def cn_state_of : Cn := fun rs M R => ∃ d l k ts es, rs = [.d d, .i k] ∧ PgIn d l ∧ Way l k 0 ts es ∧ ts.length ≤ 1000 ∧ R (.d ((lkE es k).getD .none)) M
def cn_rows : Cn := fun rs M R => ∃ d l φ, rs = [.d d] ∧ PgIn d l ∧ Pages l ∧ l.length ≤ 1000 ∧ (keysL l).length ≤ 1000 ∧
  (∀ k ∈ keysL l, ∃ ts es, Way l k 0 ts es ∧ ts.length ≤ 1000 ∧ φ k = (lkE es k).getD .none) ∧ ∀ q, M q = none → R (.v (.ref q)) (upM M q (.lst ((rowsD φ (uniq [] (keysL l))).map Sl.d)))
theorem none_up {M : Mem} {c q : Addr} {o : MO} (hc : M c = none) (h : upM M c o q = none) : q ≠ c ∧ M q = none := by
  have hn : q ≠ c := fun e => by subst e; rw [upM_same] at h; cases h
  rw [upM_ne hn] at h
  exact ⟨hn, h⟩
theorem le_skip {M : Mem} {c q : Addr} {o u : MO} (hc : M c = none) : Le (upM M q u) (upM (upM M c o) q u) := fun a v h => by
  by_cases ha : a = q
  · subst ha; rw [upM_same] at h ⊢; exact h
  · rw [upM_ne ha] at h ⊢; rw [upM_ne (neM h hc)]; exact h
theorem le_new {M : Mem} {c : Addr} {o : MO} (hc : M c = none) : Le M (upM M c o) := fun a v h => by rw [upM_ne (neM h hc)]; exact h
section
variable {P : Program} {w : World} {K : PySem.W.Frag} {mg : Str → Option Value} {base : Heap}
end
end LW

set_option Elab.async false
set_option linter.all false
set_option maxRecDepth 100000
set_option maxHeartbeats 4000000
namespace LW
open PySem PySem.Spec L2 DL
/-! ### pages, in plain words -/
inductive Ct where
  | leaf (es : List (Int × PyData))
  | inner (cs : List (Option Int × Int))
abbrev Ct.d : Ct → PyData
  | .leaf es => leafE es
  | .inner cs => innerG cs
abbrev ctD : Option Ct → PyData
  | none => freeD
  | some c => c.d
abbrev Ps := List (Int × Ct)
abbrev psD (st : Ps) : List (Int × PyData) := st.map fun e => (e.1, e.2.d)
def lkC (st : Ps) (n : Int) : Option Ct := (st.find? fun e => decide (e.1 = n)).map (·.2)
theorem lkE_psD (n : Int) : ∀ st : Ps, lkE (psD st) n = (lkC st n).map Ct.d
  | [] => rfl
  | e :: r => by
    have ih := lkE_psD n r
    unfold lkE lkC at ih ⊢
    show Option.map _ (List.find? _ ((e.1, e.2.d) :: psD r)) = _
    rw [List.find?_cons, List.find?_cons]
    by_cases h : e.1 = n
    · simp only [h, decide_true]; rfl
    · simp only [h, decide_false]; exact ih
abbrev memP (st : Ps) : MO := .dic (stS (psD st))
theorem valS_ps (st : Ps) (n : Int) : valS (stS (psD st)) (.inl n) = (lkC st n).map fun c => Sl.d c.d := by
  rw [valS_st, lkE_psD]; cases lkC st n <;> rfl
theorem lkC_mem {st : Ps} {n : Int} {c : Ct} (h : lkC st n = some c) : (n, c) ∈ st := by
  unfold lkC at h
  obtain ⟨x, hx, rfl⟩ := Option.map_eq_some_iff.mp h
  have h3 := List.find?_some hx
  have h4 : x.1 = n := of_decide_eq_true h3
  rw [← h4]; exact List.mem_of_find?_eq_some hx
/-- a change of a page -/
abbrev Shp := Int × Option Ct × Option Ct
abbrev shD (s : Shp) : PyData := .tuple [.int s.1, ctD s.2.1, ctD s.2.2]
def dropC (st : Ps) (n : Int) : Ps := st.filter fun e => decide (e.1 ≠ n)
def layC (st : Ps) (s : Shp) : Ps := match s.2.2 with
  | none => dropC st s.1
  | some c => dropC st s.1 ++ [(s.1, c)]
def layAll (st : Ps) (shs : List Shp) : Ps := shs.foldl layC st
/-- bounded contents -/
def IdB (n : Int) : Prop := 0 ≤ n ∧ n < 10000000
inductive CtB (m : Nat) : Ct → Prop
  | leaf {es : List (Int × PyData)} : es.length ≤ m → (∀ e ∈ es, IdB e.1 ∧ StW e.2) → CtB m (.leaf es)
  | inner {cs : List (Option Int × Int)} : cs.length ≤ m → (∀ c ∈ cs, (∀ k, c.1 = some k → IdB k) ∧ IdB c.2) → CtB m (.inner cs)
def PsB (m : Nat) (st : Ps) : Prop := ∀ e ∈ st, IdB e.1 ∧ CtB m e.2
theorem CtB.mono {m n : Nat} (h : m ≤ n) {c : Ct} (hc : CtB m c) : CtB n c := by
  cases hc with
  | leaf a b => exact .leaf (by omega) b
  | inner a b => exact .inner (by omega) b
theorem PsB.mono {m n : Nat} (h : m ≤ n) {st : Ps} (hc : PsB m st) : PsB n st := fun e he => ⟨(hc e he).1, (hc e he).2.mono h⟩
theorem IdB.ab {n : Int} (h : IdB n) : n.natAbs < 10 ^ 36 := by obtain ⟨a, b⟩ := h; omega
theorem StW.sz {s : PyData} (h : StW s) : sz WD s ≤ 40 ∧ s.depth ≤ 1 ∧ tupO s = true := by
  rcases h with rfl | ⟨n, a, b, rfl⟩
  · exact ⟨by decide +kernel, by decide, rfl⟩
  · refine ⟨?_, by simp [PyData.depth], rfl⟩
    rw [DL.sz, if_pos (by omega)]; exact Nat.le_refl _
theorem opt_sz {o : Option Int} (h : ∀ k, o = some k → IdB k) : sz WD (optD o) ≤ 40 ∧ (optD o).depth ≤ 1 ∧ tupO (optD o) = true := by
  cases o with
  | none => exact ⟨by decide +kernel, by decide, rfl⟩
  | some k =>
    refine ⟨?_, by simp [optD, PyData.depth], rfl⟩
    show sz WD (.int k) ≤ 40
    rw [DL.sz, if_pos (h k rfl).ab]; exact Nat.le_refl _
/-- small, of tuples alone -/
structure Sm (b d : Nat) (x : PyData) : Prop where
  size : sz WD x ≤ b
  dep : x.depth ≤ d
  to : tupO x = true
theorem sms {A : Type} {f : A → PyData} {b d : Nat} : ∀ {l : List A}, (∀ a ∈ l, Sm b d (f a)) → szs WD (l.map f) ≤ (b + 2) * l.length ∧ PyData.depthAll (l.map f) ≤ d ∧ tupOs (l.map f) = true
  | [], _ => ⟨by simp [szs], by simp [PyData.depthAll], rfl⟩
  | a :: r, h => by
    obtain ⟨x, y, z⟩ := sms fun a ha => h a (List.mem_cons_of_mem _ ha)
    have q := h a List.mem_cons_self
    have q1 := q.size
    have q2 := q.dep
    refine ⟨?_, ?_, ?_⟩
    · rw [List.map_cons, szs, List.length_cons, Nat.mul_add]; omega
    · simp only [List.map_cons, PyData.depthAll]; omega
    · rw [List.map_cons, tupOs, q.to, z]; rfl
end LW

set_option Elab.async false
set_option linter.all false
set_option maxRecDepth 100000
set_option maxHeartbeats 4000000
namespace LW
open PySem PySem.Spec L2 DL
local macro_rules | `(tactic| walk_at "mem") => `(tactic| ((repeat rw [upM_ne (by assumption)]); first | exact upM_same | assumption))
local macro_rules | `(tactic| walk_at "look") => `(tactic| first | rfl | assumption | exact atI_map0 | exact atI_map1 | walk_at "mem" | (with_reducible apply lsOf_m; walk_at "mem") | (with_reducible apply sqOf_m; walk_at "mem") | (with_reducible apply rlOf_m; walk_at "mem") | (with_reducible apply sqOf'_m; walk_at "mem") | (with_reducible apply tru_l; walk_at "mem") | (with_reducible apply tru_d; walk_at "mem") | ((simp (discharger := assumption) only [sqOf, sqOf', rlOf, lsOf, tru, upM_same, upM_ne]) <;> rfl))
local macro_rules | `(tactic| walk_at "set") => `(tactic| (simp only [wipeD, List.set_cons_zero, List.set_cons_succ, List.set_nil]; rfl))
local macro_rules | `(tactic| walk_at "side") => `(tactic| first | omega | (simp only [List.length_map, List.length_cons, List.length_nil]; omega) | assumption | rfl | decide | exact ⟨by omega, by omega⟩ | exact Nat.le_of_ble_eq_true rfl)
local macro_rules | `(tactic| walk_at "head") => `(tactic| with_reducible conv => whnf)
local macro_rules | `(tactic| walk_at "step") => `(tactic| (walk_at "head"; first
  | ((with_reducible apply gN_go); (focus walk_at "set"))
  | ((with_reducible apply e1s); (focus rfl))
  | ((with_reducible apply e1); (focus walk_at "look"))
  | ((with_reducible apply e2); (focus walk_at "look"); (focus walk_at "look"))
  | ((with_reducible apply l1); (focus walk_at "look"))
  | ((with_reducible apply l2); (focus walk_at "look"); (focus walk_at "look"))
  | ((with_reducible apply e3); (focus walk_at "look"); (focus walk_at "look"); (focus walk_at "look"))
  | ((with_reducible apply e0a); (focus walk_at "look"))
  | ((with_reducible apply And.intro); (focus walk_at "side"))
  | ((with_reducible apply d1); (focus walk_at "look"))
  | ((with_reducible apply d2); (focus walk_at "look"); (focus walk_at "look"))
  | ((with_reducible apply d3); (focus walk_at "look"); (focus walk_at "look"); (focus walk_at "look"))
  | ((with_reducible apply d0); (focus walk_at "look"))
  | ((with_reducible apply lk1); (focus walk_at "look"))
  | with_reducible apply gw2_go
  | with_reducible apply gw3_go
  | with_reducible apply gs_go
  | with_reducible apply gt2_go
  | with_reducible apply gt3_go
  | with_reducible apply gt1_go
  | with_reducible apply gt4_go
  | with_reducible apply gt5_go
  | with_reducible apply gt6_go
  | with_reducible apply gt7_go
  | with_reducible apply gt8_go
  | with_reducible apply ift_go
  | with_reducible apply iff_go
  | ((with_reducible apply ifT_go); (focus rfl))
  | ((with_reducible apply ifF_go); (focus rfl))))
local macro_rules | `(tactic| walk_at "run") => `(tactic| (repeat walk_at "step"); walk_at "head")
local macro_rules | `(tactic| walk_at "start") => `(tactic| simp only [startD, List.map_cons, List.map_nil, List.length_cons, List.length_nil, List.replicate, List.cons_append, List.nil_append, Nat.reduceAdd, Nat.reduceSub, bodyK])
theorem CtB.sm {m : Nat} {c : Ct} (h : CtB m c) : Sm (90 * m + 60) 4 c.d := by
  cases h with
  | @leaf es hl he =>
    obtain ⟨a, b, c⟩ := sms (f := enE) (b := 88) (d := 2) (l := es) fun e hm => by
      obtain ⟨x, y, z⟩ := (he e hm).2.sz
      have := (he e hm).1.ab
      refine ⟨?_, ?_, ?_⟩
      · show 4 + szs WD [.int e.1, e.2] ≤ _
        rw [szs, szs, szs, DL.sz, if_pos this]; omega
      · simp only [PyData.depth, PyData.depthAll]; omega
      · show tupOs [.int e.1, e.2] = true
        rw [tupOs, tupOs, z]; rfl
    have h4 : sz WD (.str "leaf") ≤ 40 := by decide +kernel
    refine ⟨?_, ?_, ?_⟩
    · show 4 + szs WD [.str "leaf", .tuple (es.map enE)] ≤ _
      rw [szs, szs, szs]
      show 4 + (2 + sz WD (.str "leaf") + (2 + (4 + szs WD (es.map enE)) + 0)) ≤ _
      have : (88 + 2) * es.length ≤ 90 * m := Nat.mul_le_mul (by omega) hl
      omega
    · simp only [Ct.d, PyData.depth, PyData.depthAll]; omega
    · show tupOs [.str "leaf", .tuple (es.map enE)] = true
      rw [tupOs, tupOs]
      show (true && (tupOs (es.map enE) && true)) = true
      rw [c]; rfl
  | @inner cs hl hc =>
    obtain ⟨a, b, c⟩ := sms (f := chE) (b := 88) (d := 2) (l := cs) fun e hm => by
      obtain ⟨x, y, z⟩ := opt_sz (hc e hm).1
      have := (hc e hm).2.ab
      refine ⟨?_, ?_, ?_⟩
      · show 4 + szs WD [optD e.1, .int e.2] ≤ _
        rw [szs, szs, szs, DL.sz.eq_def WD (.int e.2)]
        simp only [if_pos this]; omega
      · simp only [PyData.depth, PyData.depthAll]; omega
      · show tupOs [optD e.1, .int e.2] = true
        rw [tupOs, tupOs, z]; rfl
    have h4 : sz WD (.str "inner") ≤ 40 := by decide +kernel
    refine ⟨?_, ?_, ?_⟩
    · show 4 + szs WD [.str "inner", .tuple (cs.map chE)] ≤ _
      rw [szs, szs, szs]
      show 4 + (2 + sz WD (.str "inner") + (2 + (4 + szs WD (cs.map chE)) + 0)) ≤ _
      have : (88 + 2) * cs.length ≤ 90 * m := Nat.mul_le_mul (by omega) hl
      omega
    · simp only [Ct.d, PyData.depth, PyData.depthAll]; omega
    · show tupOs [.str "inner", .tuple (cs.map chE)] = true
      rw [tupOs, tupOs]
      show (true && (tupOs (cs.map chE) && true)) = true
      rw [c]; rfl
theorem shaped_free2 : SeqAt.shaped (.tuple [.str "free"]) = true := by decide +kernel
theorem free_sm : Sm 60 2 freeD := ⟨by decide +kernel, by decide, rfl⟩
theorem Sm.shaped {b d : Nat} {x : PyData} (h : Sm b d x) (hb : b ≤ 16777216) (hd : d ≤ 20) : SeqAt.shaped x = true := shaped_of wds (by have := h.size; omega) (by have := h.dep; omega)
def OcB (m : Nat) (o : Option Ct) : Prop := ∀ c, o = some c → CtB m c
theorem OcB.sm {m : Nat} {o : Option Ct} (h : OcB m o) : Sm (90 * m + 60) 4 (ctD o) := by
  cases o with
  | none => exact ⟨by have := free_sm.size; show sz WD freeD ≤ _; omega, by have := free_sm.dep; show freeD.depth ≤ 4; omega, rfl⟩
  | some c => exact (h c rfl).sm
theorem Ct.not_free (c : Ct) : PyData.eqv c.d freeD = false := by cases c <;> simp [Ct.d, PyData.eqv, PyData.eqvAll]
theorem Ct.two (c : Ct) : ∃ (w : Str) (xs : List PyData), c.d = .tuple [.str w, .tuple xs] := by cases c <;> exact ⟨_, _, rfl⟩
def Ct.len : Ct → Nat
  | .leaf es => es.length
  | .inner cs => cs.length
def fullC (c : Ct) : Bool := decide ((c.len : Int) = 4)
def fullO : Option Ct → Bool
  | none => false
  | some c => fullC c
def cn_full : Cn := fun rs M R => ∃ c m, rs = [.d (ctD c)] ∧ OcB m c ∧ m ≤ 1000 ∧ R (.b (fullO c)) M
theorem free_self : PyData.eqv freeD freeD = true := by simp [PyData.eqv, PyData.eqvAll]
section
variable {P : Program} {w : World} {K : PySem.W.Frag} {mg : Str → Option Value} {base : Heap}
theorem ok_full (T : Tx K mg) {f : Addr} {fd : FuncData} (Fu : Fun K "is_full" "is_full" s_is_full f fd) : FnD P w K mg base 1 f fd ["content"] cn_full := by
  refine fnD_of Fu sc_is_full (fun rs M R h => ?_) fun cdv A outer s H hgd hr => ⟨_, (pdb_one (pds_ret (pd_and (pd_cmp (o_ne hr.units) (pd_var 0) (pd_gD (by rfl) T.c_FREE) (nomark _)) (pd_one (pd_cmp (o_eq hr.units) (pd_callB c_len (by rfl) T.z_len (by decide +kernel) (pda_cons (pd_ix (pd_var 0) pd_int) pda_nil)) (pd_gI (by rfl) T.c_FULL) (nomark _)))))), ?_⟩
  · obtain ⟨c, m, rfl, _⟩ := h
    rfl
  · rintro rs M R ⟨c, m, rfl, hc, hm, k⟩
    have sh := hc.sm.shaped (by omega) (by omega)
    have sf := shaped_free2
    walk_at "start"
    cases c with
    | none =>
      walk_at "run"
      refine upR.of ?_
      have e : PyData.eqv (ctD none) (.tuple [.str (Str.ofString "free")]) = true := free_self
      rw [e]
      exact k
    | some c =>
      cases c with
      | leaf es =>
        walk_at "run"
        refine upR.of ?_
        rw [List.length_map, List.length_map]
        exact k
      | inner cs =>
        walk_at "run"
        refine upR.of ?_
        rw [List.length_map, List.length_map]
        exact k
end
/-! ### the least free pages -/
def freeN (st : Ps) (n : Nat) : Bool := (lkC st (n : Int)).isNone
def freeTo (st : Ps) (n : Nat) : List Nat := (List.range n).filter (freeN st)
theorem freeTo_succ (st : Ps) (n : Nat) : freeTo st (n + 1) = freeTo st n ++ (if freeN st n then [n] else []) := by
  unfold freeTo
  rw [List.range_succ, List.filter_append]
  congr 1
  by_cases h : freeN st n = true
  · rw [if_pos h, List.filter_cons_of_pos h]; rfl
  · rw [if_neg h, List.filter_cons_of_neg h]; rfl
theorem freeTo_first (st : Ps) {many : Nat} : ∀ {N : Nat}, many ≤ (freeTo st N).length → ∃ T, T ≤ N ∧ (freeTo st T).length = many ∧ ∀ p, p < T → (freeTo st p).length < many
  | 0, h => ⟨0, Nat.le_refl _, by have : (freeTo st 0).length = 0 := rfl; omega, fun p hp => by omega⟩
  | N + 1, h => by
    by_cases hN : many ≤ (freeTo st N).length
    · obtain ⟨T, a, b, c⟩ := freeTo_first st hN
      exact ⟨T, by omega, b, c⟩
    · have h2 := h
      rw [freeTo_succ, List.length_append] at h2
      have h3 : (if freeN st N = true then [N] else []).length ≤ 1 := by split <;> simp
      refine ⟨N + 1, Nat.le_refl _, by rw [freeTo_succ, List.length_append]; omega, fun p hp => ?_⟩
      have : (freeTo st p).length ≤ (freeTo st N).length := by
        unfold freeTo
        rw [show N = p + (N - p) by omega, List.range_add, List.filter_append, List.length_append]; omega
      omega
theorem filter_two {A : Type} (p : A → Bool) : ∀ l : List A, (l.filter p).length + (l.filter fun a => !p a).length = l.length
  | [] => rfl
  | a :: r => by
    have ih := filter_two p r
    by_cases h : p a = true
    · rw [List.filter_cons_of_pos h, List.filter_cons_of_neg (by simp [h]), List.length_cons, List.length_cons]; omega
    · rw [List.filter_cons_of_neg h, List.filter_cons_of_pos (by simpa using h), List.length_cons, List.length_cons]; omega
theorem freeN_few (st : Ps) : ∀ N : Nat, N ≤ (freeTo st N).length + st.length := fun N => by
  have h1 : ((List.range N).filter fun n => !freeN st n).length ≤ st.length := by
    have hs : ((List.range N).filter fun n => !freeN st n).map Int.ofNat ⊆ st.map (·.1) := fun x hx => by
      obtain ⟨n, hn, rfl⟩ := List.mem_map.mp hx
      have := (List.mem_filter.mp hn).2
      unfold freeN at this
      cases e : lkC st (n : Int) with
      | none => rw [e] at this; cases this
      | some c => exact List.mem_map.mpr ⟨_, lkC_mem e, rfl⟩
    have nd : (((List.range N).filter fun n => !freeN st n).map Int.ofNat).Nodup := by
      refine List.pairwise_map.mpr ((List.nodup_range.filter _).imp fun h e => h (Int.ofNat.inj e))
    have := nd.length_le_of_subset hs
    rw [List.length_map, List.length_map] at this
    exact this
  have h2 := filter_two (freeN st) (List.range N)
  rw [List.length_range] at h2
  unfold freeTo
  omega
/-- so many of the least free pages -/
def leastE (st : Ps) (many : Nat) : List Int := ((freeTo st (st.length + many)).take many).map Int.ofNat
theorem least_turns (st : Ps) (many : Nat) : ∃ T, T ≤ st.length + many ∧ (freeTo st T).map Int.ofNat = leastE st many ∧ (freeTo st T).length = many ∧ ∀ p, p < T → (freeTo st p).length < many := by
  obtain ⟨T, a, b, c⟩ := freeTo_first st (many := many) (N := st.length + many) (by have := freeN_few st (st.length + many); omega)
  refine ⟨T, a, ?_, b, c⟩
  unfold leastE
  congr 1
  unfold freeTo at b ⊢
  rw [show st.length + many = T + (st.length + many - T) by omega, List.range_add, List.filter_append, List.take_left' b]
theorem leastE_len (st : Ps) (many : Nat) : (leastE st many).length = many := by
  obtain ⟨T, a, b, c, d⟩ := least_turns st many
  rw [← b, List.length_map, c]
def cn_least : Cn := fun rs M R => ∃ c st many m, rs = [.v (.ref c), .i (many : Nat)] ∧ M c = some (memP st) ∧ PsB m st ∧ m ≤ 1000 ∧ st.length ≤ 1000 ∧ many ≤ 1000 ∧ R (.d (intD (leastE st many))) M
section
variable {P : Program} {w : World} {K : PySem.W.Frag} {mg : Str → Option Value} {base : Heap}
theorem ok_least (T : Tx K mg) (H_content_in : Has P w K mg base 1 "content_in" s_content_in ["contents", "page"] cn_content) {f : Addr} {fd : FuncData} (Fu : Fun K "least_free" "least_free" s_least_free f fd) : FnD P w K mg base 2 f fd ["contents", "many"] cn_least := by
  refine fnD_of Fu sc_least_free (fun rs M R h => ?_) fun cdv A outer s H hgd hr => ⟨_, (pdb_cons (pds_set 2 sc_least_free.nd (pd_lstM pda_nil))
      (pdb_cons (pds_set 3 sc_least_free.nd pd_int)
      (pdb_cons (pds_while PassesOwn.never (pdt_cmp o_lt (pd_callB c_len (by rfl) T.z_len (by decide +kernel) (pda_cons (pd_var 2) pda_nil)) (pd_var 1) (nomark _)) (pdb_cons (pds_if (pdt_cmp (o_eq hr.units) (pd_fn H_content_in hgd (hr.mono (by first | decide | omega)) (by rfl) (pda_cons (pd_var 0) (pda_cons (pd_var 3) pda_nil))) (pd_gD (by rfl) T.c_FREE) (nomark _)) (pdb_one (pds_expr (pd_append (pd_var 2) (pda_cons (pd_var 3) pda_nil)))) pdb_nil)
      (pdb_one (pds_augI 3 (f := fun a b => a + b) sc_least_free.nd pd_int ip_add (fun a b H Q h => ⟨a, b, rfl, rfl, h⟩)))))
      (pdb_one (pds_ret (pd_var 2)))))), ?_⟩
  · obtain ⟨c, st, many, m, rfl, _⟩ := h
    rfl
  · rintro rs M R ⟨c, st, many, m, rfl, hc, hb, hm, hl, hl2, k⟩
    obtain ⟨Tn, t1, t2, t3, t4⟩ := least_turns st many
    walk_at "start"
    walk_at "run"
    intro q hq
    have hcq : c ≠ q := neM hc hq
    walk_at "run"
    refine while_ind1 (n := Tn) (fun n dl M' => ∃ p : Nat, p + n = Tn ∧ M' = upM M q (.lst (intS ((freeTo st p).map Int.ofNat))) ∧ dl = [some (.v (.ref c)), some (.i (many : Nat)), some (.v (.ref q)), some (.i (p : Nat))]) ?_ ?_ ⟨0, by omega, rfl, rfl⟩
    · rintro nx _ _ ⟨p, hp, rfl, rfl⟩
      have : p = Tn := by omega
      subst this
      walk_at "run"
      apply ifF_go
      · refine decide_eq_false ?_
        rw [intS, List.length_map, List.length_map, t3]; omega
      walk_at "run"
      exact ⟨_, _, Vw.frz (ds := (leastE st many).map PyData.int) (by rw [upM_same, t2, intS, mapI]) (le_new hq) hq, k⟩
    · rintro n nx _ _ hnx ⟨p, hp, rfl, rfl⟩
      have hlt := t4 p (by omega)
      walk_at "run"
      apply ifT_go
      · refine decide_eq_true ?_
        rw [intS, List.length_map, List.length_map]; omega
      walk_at "run"
      refine ⟨c, (p : Nat), psD st, rfl, by walk_at "mem", ?_⟩
      rw [lkE_psD]
      cases e : lkC st (p : Int) with
      | none =>
        have ef : freeTo st (p + 1) = freeTo st p ++ [p] := by rw [freeTo_succ, if_pos (by unfold freeN; rw [e]; rfl)]
        have sf := shaped_free2
        rw [Option.map_none, Option.getD_none]
        walk_at "run"
        refine ⟨?_, ?_⟩
        · rw [intS, List.length_map, List.length_map, sizeLine_eq]; omega
        rw [upM_upM]
        walk_at "run"
        refine hnx _ _ ⟨p + 1, by omega, ?_, rfl⟩
        rw [ef, List.map_append, intS, intS, List.map_append]; rfl
      | some ct =>
        have ef : freeTo st (p + 1) = freeTo st p := by rw [freeTo_succ, if_neg (by unfold freeN; rw [e]; exact Bool.false_ne_true), List.append_nil]
        have sf := shaped_free2
        have sh := ((hb _ (lkC_mem e)).2.sm).shaped (by omega) (by omega)
        have nf := ct.not_free
        obtain ⟨wd, xs, ex⟩ := ct.two
        rw [ex] at sh nf
        rw [Option.map_some, Option.getD_some, ex]
        walk_at "run"
        apply ifF_go
        · exact nf
        walk_at "run"
        refine hnx _ _ ⟨p + 1, by omega, by rw [ef], rfl⟩
end
/-! ### shapes laid -/
theorem drop_ps (n : Int) : ∀ st : Ps, dropS (stS (psD st)) (.inl n) = stS (psD (dropC st n))
  | [] => rfl
  | e :: r => by
    have ih := drop_ps n r
    unfold dropS dropC at ih ⊢
    show List.filter _ ((Sum.inl e.1, Sl.d e.2.d) :: stS (psD r)) = _
    by_cases h : e.1 = n
    · rw [List.filter_cons_of_neg (by simp [h]), List.filter_cons_of_neg (by simp [h]), ih]
    · have h2 : (Sum.inl e.1 : Key) ≠ .inl n := fun z => h (Sum.inl.inj z)
      rw [List.filter_cons_of_pos (by simp [h]), List.filter_cons_of_pos (by simp [h]), ih]; rfl
theorem put_ps (n : Int) (c : Ct) (st : Ps) : putS (stS (psD (dropC st n))) (.inl n) (.d c.d) = stS (psD (dropC st n ++ [(n, c)])) := by
  rw [putS_new]
  · unfold stS psD; rw [List.map_append, List.map_append]; rfl
  · intro z
    rw [List.map_map, List.map_map] at z
    obtain ⟨e, he, h2⟩ := List.mem_map.mp z
    have h3 := of_decide_eq_true (List.mem_filter.mp he).2
    exact h3 (Sum.inl.inj h2)
theorem dropC_len (st : Ps) (n : Int) : (dropC st n).length ≤ st.length := List.length_filter_le _ _
theorem layC_len (st : Ps) (s : Shp) : (layC st s).length ≤ st.length + 1 := by
  unfold layC
  have := dropC_len st s.1
  split
  · omega
  · rw [List.length_append, List.length_singleton]; omega
def ShB (m : Nat) (s : Shp) : Prop := IdB s.1 ∧ OcB m s.2.1 ∧ OcB m s.2.2
abbrev seqD (tp : Bool) (ds : List PyData) : PyData := match tp with
  | true => .tuple ds
  | false => .list ds
def cn_lay : Cn := fun rs M R => ∃ c st shs tp m, rs = [.v (.ref c), .d (seqD tp (shs.map shD))] ∧ M c = some (memP st) ∧ (∀ s ∈ shs, ShB m s) ∧ m ≤ 1000 ∧ st.length + shs.length ≤ 100000 ∧ R .n (upM M c (memP (layAll st shs)))
section
variable {P : Program} {w : World} {K : PySem.W.Frag} {mg : Str → Option Value} {base : Heap}
theorem ok_lay (T : Tx K mg) {f : Addr} {fd : FuncData} (Fu : Fun K "lay_shapes" "lay_shapes" s_lay_shapes f fd) : FnD P w K mg base 1 f fd ["contents", "shapes"] cn_lay := by
  refine fnD_of Fu sc_lay_shapes (fun rs M R h => ?_) fun cdv A outer s H hgd hr => ⟨_, (pdb_one (pds_for PassesOwn.never rfl (pdi_seq (pd_var 1)) (pdg_tup (n := 3) rfl (pdgs_cons (pdg_name 2 sc_lay_shapes.nd) (pdgs_cons (pdg_name 3 sc_lay_shapes.nd) (pdgs_cons (pdg_name 4 sc_lay_shapes.nd) pdgs_nil)))) (pdb_cons (pds_expr (pd_dpop2 (pd_var 0) (pd_var 2) pd_non))
      (pdb_one (pds_if (pdt_cmp (o_ne hr.units) (pd_var 4) (pd_gD (by rfl) T.c_FREE) (nomark _)) (pdb_one (pds_dput (hu_of hr) (pd_var 0) (pd_var 2) (pd_var 4))) pdb_nil))))), ?_⟩
  · obtain ⟨c, st, shs, tp, m, rfl, _⟩ := h
    rfl
  · rintro rs M R ⟨c, st, shs, tp, m, rfl, hc, hb, hm, hl, k⟩
    walk_at "start"
    cases tp with
    | true =>
      walk_at "run"
      refine for_ind (fun rest dl M' => ∃ (rs : List Shp) (st' : Ps) (x1 x2 x3 x4 : Option Sl), rest = (rs.map shD).map Sl.d ∧ (∀ s ∈ rs, ShB m s) ∧ M' = upM M c (memP st') ∧ st'.length + rs.length ≤ 100000 ∧ layAll st' rs = layAll st shs ∧ dl = [some (.v (.ref c)), x1, x2, x3, x4]) ?_ ?_ ⟨shs, st, _, _, _, _, rfl, hb, (upM_self hc).symm, hl, rfl, rfl⟩
      · rintro _ _ ⟨rs, st', x1, x2, x3, x4, e0, _, rfl, _, el, rfl⟩
        have : rs = [] := by cases rs with | nil => rfl | cons _ _ => cases e0
        subst this
        refine ⟨trivial, upR.of ?_⟩
        rw [show st' = layAll st shs from el]
        exact k
      · rintro x xs nx _ _ hnx ⟨rs, st', x1, x2, x3, x4, e0, hrs, rfl, hl', el, rfl⟩
        obtain ⟨s, r, rfl⟩ : ∃ s r, rs = s :: r := by cases rs with | nil => cases e0 | cons a b => exact ⟨a, b, rfl⟩
        rw [List.map_cons, List.map_cons] at e0
        cases e0
        rw [List.length_cons] at hl'
        refine ⟨trivial, ?_⟩
        obtain ⟨n, bf, af⟩ := s
        have hs := hrs _ List.mem_cons_self
        have ll := layC_len st' (n, bf, af)
        have sf := shaped_free2
        walk_at "run"
        rw [upM_upM, drop_ps]
        cases af with
        | none =>
          walk_at "run"
          exact hnx _ _ ⟨r, dropC st' n, _, _, _, _, rfl, fun s hs => hrs s (List.mem_cons_of_mem _ hs), rfl, by have := dropC_len st' n; omega, el, rfl⟩
        | some ct =>
          have sh := ((hs.2.2 ct rfl).sm).shaped (by omega) (by omega)
          have nf := ct.not_free
          have hp := put_ps n ct st'
          have hd := dropC_len st' n
          obtain ⟨wd, ys, ex⟩ := ct.two
          have ec : ctD (some ct) = .tuple [.str wd, .tuple ys] := ex
          rw [ex] at sh nf hp
          rw [ec]
          walk_at "run"
          apply ifT_go
          · rw [nf]; rfl
          walk_at "run"
          refine ⟨by rw [List.length_map, List.length_map, sizeLine_eq]; omega, ?_⟩
          rw [upM_upM, hp]
          exact hnx _ _ ⟨r, dropC st' n ++ [(n, ct)], _, _, _, _, rfl, fun s hs => hrs s (List.mem_cons_of_mem _ hs), rfl, by rw [List.length_append, List.length_singleton]; omega, el, rfl⟩
    | false =>
      walk_at "run"
      refine for_ind (fun rest dl M' => ∃ (rs : List Shp) (st' : Ps) (x1 x2 x3 x4 : Option Sl), rest = (rs.map shD).map Sl.d ∧ (∀ s ∈ rs, ShB m s) ∧ M' = upM M c (memP st') ∧ st'.length + rs.length ≤ 100000 ∧ layAll st' rs = layAll st shs ∧ dl = [some (.v (.ref c)), x1, x2, x3, x4]) ?_ ?_ ⟨shs, st, _, _, _, _, rfl, hb, (upM_self hc).symm, hl, rfl, rfl⟩
      · rintro _ _ ⟨rs, st', x1, x2, x3, x4, e0, _, rfl, _, el, rfl⟩
        have : rs = [] := by cases rs with | nil => rfl | cons _ _ => cases e0
        subst this
        refine ⟨trivial, upR.of ?_⟩
        rw [show st' = layAll st shs from el]
        exact k
      · rintro x xs nx _ _ hnx ⟨rs, st', x1, x2, x3, x4, e0, hrs, rfl, hl', el, rfl⟩
        obtain ⟨s, r, rfl⟩ : ∃ s r, rs = s :: r := by cases rs with | nil => cases e0 | cons a b => exact ⟨a, b, rfl⟩
        rw [List.map_cons, List.map_cons] at e0
        cases e0
        rw [List.length_cons] at hl'
        refine ⟨trivial, ?_⟩
        obtain ⟨n, bf, af⟩ := s
        have hs := hrs _ List.mem_cons_self
        have ll := layC_len st' (n, bf, af)
        have sf := shaped_free2
        walk_at "run"
        rw [upM_upM, drop_ps]
        cases af with
        | none =>
          walk_at "run"
          exact hnx _ _ ⟨r, dropC st' n, _, _, _, _, rfl, fun s hs => hrs s (List.mem_cons_of_mem _ hs), rfl, by have := dropC_len st' n; omega, el, rfl⟩
        | some ct =>
          have sh := ((hs.2.2 ct rfl).sm).shaped (by omega) (by omega)
          have nf := ct.not_free
          have hp := put_ps n ct st'
          have hd := dropC_len st' n
          obtain ⟨wd, ys, ex⟩ := ct.two
          have ec : ctD (some ct) = .tuple [.str wd, .tuple ys] := ex
          rw [ex] at sh nf hp
          rw [ec]
          walk_at "run"
          apply ifT_go
          · rw [nf]; rfl
          walk_at "run"
          refine ⟨by rw [List.length_map, List.length_map, sizeLine_eq]; omega, ?_⟩
          rw [upM_upM, hp]
          exact hnx _ _ ⟨r, dropC st' n ++ [(n, ct)], _, _, _, _, rfl, fun s hs => hrs s (List.mem_cons_of_mem _ hs), rfl, by rw [List.length_append, List.length_singleton]; omega, el, rfl⟩
end
/-! ### halves -/
def halvesC : Ct → Option (Ct × Ct × Option Int)
  | .leaf es => es[2]?.map fun e => (.leaf (es.take 2), .leaf (es.drop 2), some e.1)
  | .inner cs => cs[2]?.map fun c => (.inner (cs.take 2), .inner ((none, c.2) :: cs.drop 3), c.1)
def cn_halves : Cn := fun rs M R => ∃ c a b key, rs = [.d (Ct.d c)] ∧ halvesC c = some (a, b, key) ∧ c.len ≤ 1000 ∧ R (.d (.tuple [a.d, b.d, optD key])) M
section
variable {P : Program} {w : World} {K : PySem.W.Frag} {mg : Str → Option Value} {base : Heap}
theorem ok_halves (T : Tx K mg) {f : Addr} {fd : FuncData} (Fu : Fun K "halves" "halves" s_halves f fd) : FnD P w K mg base 1 f fd ["content"] cn_halves := by
  refine fnD_of Fu sc_halves (fun rs M R h => ?_) fun cdv A outer s H hgd hr => ⟨_, (pdb_cons (pds_asg (pd_var 0) (pdg_tup (n := 2) rfl (pdgs_cons (pdg_name 2 sc_halves.nd) (pdgs_cons (pdg_name 3 sc_halves.nd) pdgs_nil))))
      (pdb_cons (pds_asg (pd_ix (pd_var 3) (pd_gI (by rfl) T.c_KEPT)) (pdg_tup (n := 2) rfl (pdgs_cons (pdg_name 4 sc_halves.nd) (pdgs_cons (pdg_name 5 sc_halves.nd) pdgs_nil))))
      (pdb_cons (pds_set 1 sc_halves.nd (pd_if (pdt_cmp (o_eq hr.units) (pd_var 2) (pd_gS (by rfl) T.c_LEAF) (nomark _)) (pd_slice (pd_var 3) (pdo_some (pd_gI (by rfl) T.c_KEPT)) pdo_none) (pd_tup (pda_cons (pd_tup (pda_cons pd_non (pda_cons (pd_var 5) pda_nil))) (pda_star (pd_slice (pd_var 3) (pdo_some (pd_op o_plus (pd_gI (by rfl) T.c_KEPT) pd_int)) pdo_none) pda_nil)))))
      (pdb_one (pds_ret (pd_tup (pda_cons (pd_tup (pda_cons (pd_var 2) (pda_cons (pd_slice (pd_var 3) pdo_none (pdo_some (pd_gI (by rfl) T.c_KEPT))) pda_nil))) (pda_cons (pd_tup (pda_cons (pd_var 2) (pda_cons (pd_callT c_tuple (by rfl) T.z_tuple (by decide +kernel) (pda_cons (pd_var 1) pda_nil)) pda_nil))) (pda_cons (pd_var 4) pda_nil))))))))), ?_⟩
  · obtain ⟨c, a, b, key, rfl, _⟩ := h
    rfl
  · rintro rs M R ⟨c, a, b, key, rfl, hh, hl, k⟩
    walk_at "start"
    cases c with
    | leaf es =>
      unfold halvesC at hh
      obtain ⟨e, he, hq⟩ := Option.map_eq_some_iff.mp hh
      cases hq
      walk_at "run"
      refine e2 rfl (atI_int (x := .d (enE e)) (by decide) (by rw [List.getElem?_map, List.getElem?_map]; show Option.map _ (Option.map _ es[2]?) = _; rw [he]; rfl)) ?_
      walk_at "run"
      refine e2 rfl (datOf_map _) ?_
      walk_at "run"
      rw [cutA_from (by decide), cutA_to (by decide)]
      refine upR.of ?_
      rw [← List.map_take, ← List.map_drop]
      exact k
    | inner cs =>
      unfold halvesC at hh
      obtain ⟨e, he, hq⟩ := Option.map_eq_some_iff.mp hh
      cases hq
      walk_at "run"
      refine e2 rfl (atI_int (x := .d (chE e)) (by decide) (by rw [List.getElem?_map, List.getElem?_map]; show Option.map _ (Option.map _ cs[2]?) = _; rw [he]; rfl)) ?_
      walk_at "run"
      refine e2 rfl (datOf_map _) ?_
      walk_at "run"
      refine e1 (by rw [cutA_from (by decide), List.append_nil, ← List.map_drop]; exact datOf_map (PyData.tuple [.none, .int e.2] :: (cs.drop 3).map chE)) ?_
      have hl2 : cs.length ≤ 1000 := hl
      refine ⟨by rw [List.length_cons, List.length_map, List.length_drop, sizeLine_eq]; omega, ?_⟩
      walk_at "run"
      refine e2 rfl (datOf_map _) ?_
      walk_at "run"
      refine upR.of ?_
      rw [cutA_to (by decide), ← List.map_take]
      exact k
end
/-! ### pages in use, ascending -/
abbrev Po := List (Int × Option Ct)
abbrev poD (st : Po) : List (Int × PyData) := st.map fun e => (e.1, ctD e.2)
def lkO (st : Po) (n : Int) : Option (Option Ct) := (st.find? fun e => decide (e.1 = n)).map (·.2)
theorem lkE_poD (n : Int) : ∀ st : Po, lkE (poD st) n = (lkO st n).map ctD
  | [] => rfl
  | e :: r => by
    have ih := lkE_poD n r
    unfold lkE lkO at ih ⊢
    show Option.map _ (List.find? _ ((e.1, ctD e.2) :: poD r)) = _
    rw [List.find?_cons, List.find?_cons]
    by_cases h : e.1 = n
    · simp only [h, decide_true]; rfl
    · simp only [h, decide_false]; exact ih
theorem lkO_mem {st : Po} {n : Int} {c : Option Ct} (h : lkO st n = some c) : (n, c) ∈ st := by
  unfold lkO at h
  obtain ⟨x, hx, rfl⟩ := Option.map_eq_some_iff.mp h
  have h3 := List.find?_some hx
  have h4 : x.1 = n := of_decide_eq_true h3
  rw [← h4]; exact List.mem_of_find?_eq_some hx
theorem lkO_some {st : Po} {n : Int} (h : n ∈ st.map (·.1)) : ∃ c, lkO st n = some c := by
  obtain ⟨e, he, rfl⟩ := List.mem_map.mp h
  cases q : lkO st e.1 with
  | some c => exact ⟨c, rfl⟩
  | none =>
    unfold lkO at q
    rw [Option.map_eq_none_iff, List.find?_eq_none] at q
    exact absurd (decide_eq_true rfl) (q e he)
def pgs (st : Po) : Ps := (srtI (st.map (·.1))).filterMap fun n => ((lkO st n).getD none).map fun c => (n, c)
abbrev pgsD (st : Po) : PyData := .tuple ((psD (pgs st)).map enE)
abbrev memO (st : Po) : MO := .dic (stS (poD st))
def PoB (m : Nat) (st : Po) : Prop := ∀ e ∈ st, IdB e.1 ∧ OcB m e.2
def cn_pgs : Cn := fun rs M R => ∃ c st m, rs = [.v (.ref c)] ∧ M c = some (memO st) ∧ PoB m st ∧ m ≤ 1000 ∧ st.length ≤ 1000 ∧ R (.d (pgsD st)) M
theorem keysI_po (st : Po) : keysI (stS (poD st)) = some (st.map (·.1)) := by
  rw [keysI_st, List.map_map]; rfl
section
variable {P : Program} {w : World} {K : PySem.W.Frag} {mg : Str → Option Value} {base : Heap}
theorem ok_pages_of (T : Tx K mg) {f : Addr} {fd : FuncData} (Fu : Fun K "pages_of" "pages_of" s_pages_of f fd) : FnD P w K mg base 1 f fd ["contents"] cn_pgs := by
  refine fnD_of Fu sc_pages_of (fun rs M R h => ?_) fun cdv A outer s H hgd hr => ⟨_, (pdb_one (pds_ret (pd_callT c_tuple (by rfl) T.z_tuple (by decide +kernel) (pda_cons (pd_lc (own := [("page", 1)]) rfl sc_pages_of.nd (pdi_seq (pd_callB (c_sortedDA rfl) (by rfl) T.z_sorted (by decide +kernel) (pda_cons (pd_var 0) pda_nil))) (blkOk_by (N := N_pages_of) (sc := defScope s_pages_of) (by decide +kernel)) (fun _ _ _ _ _ => (pdgw_name 1 sc_pages_of.nd)) (fun _ _ _ _ _ => (pdts_one (pdt_cmp (o_ne hr.units) (pd_dget (hu_of hr) (pd_var 0) (pd_var 1)) (pd_gD (by rfl) T.c_FREE) (nomark _)))) (fun _ _ _ _ _ => (pd_tup (pda_cons (pd_var 1) (pda_cons (pd_dget (hu_of hr) (pd_var 0) (pd_var 1)) pda_nil))))) pda_nil)))), ?_⟩
  · obtain ⟨c, st, m, rfl, _⟩ := h
    rfl
  · rintro rs M R ⟨c, st, m, rfl, hc, hb, hm, hl, k⟩
    have lS := (srtI_perm (st.map (·.1))).length_eq
    rw [List.length_map] at lS
    walk_at "start"
    walk_at "run"
    refine d2 hc (keysI_po _) ?_
    walk_at "run"
    rw [← mapI]
    refine lc_fm (C := C0) (srtI (st.map (·.1))) _ (fun n => (((lkO st n).getD none).map fun c => (n, c)).map fun e => Sl.d (enE (e.1, e.2.d))) trivial (by rw [sizeLine_eq]; omega) (fun n hn k1 k0 h1 h0 => ?_) ?_
    · obtain ⟨o, ho⟩ := lkO_some ((srtI_perm _).mem_iff.mp hn)
      have hv : valS (stS (poD st)) (.inl n) = some (.d (ctD o)) := by rw [valS_st, lkE_poD, ho]; rfl
      have sf := shaped_free2
      have sh := ((hb _ (lkO_mem ho)).2.sm).shaped (by omega) (by omega)
      rw [ho] at h1 h0
      cases o with
      | none =>
        walk_at "run"
        exact h0 rfl
      | some ct =>
        have nf := ct.not_free
        have h2 : k1 (.d (.tuple [.int n, ct.d])) M := h1 _ rfl
        have ec : ctD (some ct) = ct.d := rfl
        obtain ⟨wd, ys, ex⟩ := ct.two
        rw [ec, ex] at hv sh
        rw [ex] at nf h2
        walk_at "run"
        apply ifT_go
        · rw [nf]; rfl
        walk_at "run"
        exact h2
    · rw [show ∀ l : List Int, l.filterMap (fun n => (((lkO st n).getD none).map fun c => (n, c)).map fun e => Sl.d (enE (e.1, e.2.d))) = ((psD (l.filterMap fun n => ((lkO st n).getD none).map fun c => (n, c))).map enE).map Sl.d from fun l => by
        rw [List.map_map, List.map_map, List.map_filterMap]; rfl]
      refine e1 (datOf_map _) ?_
      walk_at "run"
      refine e2 rfl (datOf_map _) ?_
      exact upR.of k
end
end LW

set_option Elab.async false
set_option linter.all false
set_option maxRecDepth 100000
set_option maxHeartbeats 4000000
namespace LW
open PySem PySem.Spec L2 DL
local macro_rules | `(tactic| walk_at "mem") => `(tactic| ((repeat rw [upM_ne (by assumption)]); first | exact upM_same | assumption))
local macro_rules | `(tactic| walk_at "look") => `(tactic| first | rfl | assumption | exact atI_map0 | exact atI_map1 | walk_at "mem" | (with_reducible apply lsOf_m; walk_at "mem") | (with_reducible apply sqOf_m; walk_at "mem") | (with_reducible apply rlOf_m; walk_at "mem") | (with_reducible apply sqOf'_m; walk_at "mem") | (with_reducible apply tru_l; walk_at "mem") | (with_reducible apply tru_d; walk_at "mem") | ((simp (discharger := assumption) only [sqOf, sqOf', rlOf, lsOf, tru, upM_same, upM_ne]) <;> rfl))
local macro_rules | `(tactic| walk_at "set") => `(tactic| (simp only [wipeD, List.set_cons_zero, List.set_cons_succ, List.set_nil]; rfl))
local macro_rules | `(tactic| walk_at "side") => `(tactic| first | omega | (simp only [List.length_map, List.length_cons, List.length_nil]; omega) | assumption | rfl | decide | exact ⟨by omega, by omega⟩ | exact Nat.le_of_ble_eq_true rfl)
local macro_rules | `(tactic| walk_at "head") => `(tactic| with_reducible conv => whnf)
local macro_rules | `(tactic| walk_at "step") => `(tactic| (walk_at "head"; first
  | ((with_reducible apply gN_go); (focus walk_at "set"))
  | ((with_reducible apply e1s); (focus rfl))
  | ((with_reducible apply e1); (focus walk_at "look"))
  | ((with_reducible apply e2); (focus walk_at "look"); (focus walk_at "look"))
  | ((with_reducible apply l1); (focus walk_at "look"))
  | ((with_reducible apply l2); (focus walk_at "look"); (focus walk_at "look"))
  | ((with_reducible apply e3); (focus walk_at "look"); (focus walk_at "look"); (focus walk_at "look"))
  | ((with_reducible apply e0a); (focus walk_at "look"))
  | ((with_reducible apply And.intro); (focus walk_at "side"))
  | ((with_reducible apply d1); (focus walk_at "look"))
  | ((with_reducible apply d2); (focus walk_at "look"); (focus walk_at "look"))
  | ((with_reducible apply d3); (focus walk_at "look"); (focus walk_at "look"); (focus walk_at "look"))
  | ((with_reducible apply d0); (focus walk_at "look"))
  | ((with_reducible apply lk1); (focus walk_at "look"))
  | with_reducible apply gw2_go
  | with_reducible apply gw3_go
  | with_reducible apply gs_go
  | with_reducible apply gt2_go
  | with_reducible apply gt3_go
  | with_reducible apply gt1_go
  | with_reducible apply gt4_go
  | with_reducible apply gt5_go
  | with_reducible apply gt6_go
  | with_reducible apply gt7_go
  | with_reducible apply gt8_go
  | with_reducible apply ift_go
  | with_reducible apply iff_go
  | ((with_reducible apply ifT_go); (focus rfl))
  | ((with_reducible apply ifF_go); (focus rfl))))
local macro_rules | `(tactic| walk_at "run") => `(tactic| (repeat walk_at "step"); walk_at "head")
local macro_rules | `(tactic| walk_at "start") => `(tactic| simp only [startD, List.map_cons, List.map_nil, List.length_cons, List.length_nil, List.replicate, List.cons_append, List.nil_append, Nat.reduceAdd, Nat.reduceSub, bodyK])
/-! ### splits -/
def SplitR (st : Ps) (shs : List Shp) : Prop := ∃ c a b key one other, lkC st 0 = some c ∧ halvesC c = some (a, b, key) ∧ leastE st 2 = [one, other] ∧ shs = [(one, none, some a), (other, none, some b), (0, some c, some (.inner [(none, one), (key, other)]))]
def SplitP (st : Ps) (page parent : Int) (shs : List Shp) : Prop := ∃ c a b key fresh ch j, lkC st page = some c ∧ halvesC c = some (a, b, key) ∧ leastE st 1 = [fresh] ∧ lkC st parent = some (.inner ch) ∧ ixOf (ch.map (·.2)) page = some j ∧
  shs = [(fresh, none, some b), (parent, some (.inner ch), some (.inner (ch.take (j + 1) ++ [(key, fresh)] ++ ch.drop (j + 1)))), (page, some c, some a)]
theorem CtB.len {m : Nat} {c : Ct} (h : CtB m c) : c.len ≤ m := by cases h <;> assumption
def cn_rsplit : Cn := fun rs M R => ∃ c st shs m, rs = [.v (.ref c)] ∧ M c = some (memP st) ∧ PsB m st ∧ m ≤ 1000 ∧ st.length ≤ 1000 ∧ SplitR st shs ∧ R (.d (.list (shs.map shD))) M
def cn_psplit : Cn := fun rs M R => ∃ c st page parent shs m, rs = [.v (.ref c), .i page, .i parent] ∧ M c = some (memP st) ∧ PsB m st ∧ m ≤ 1000 ∧ st.length ≤ 1000 ∧ SplitP st page parent shs ∧ R (.d (.list (shs.map shD))) M
section
variable {P : Program} {w : World} {K : PySem.W.Frag} {mg : Str → Option Value} {base : Heap}
theorem ok_rsplit (T : Tx K mg) (H_halves : Has P w K mg base 1 "halves" s_halves ["content"] cn_halves) (H_least_free : Has P w K mg base 2 "least_free" s_least_free ["contents", "many"] cn_least) {f : Addr} {fd : FuncData} (Fu : Fun K "root_split" "root_split" s_root_split f fd) : FnD P w K mg base 3 f fd ["contents"] cn_rsplit := by
  refine fnD_of Fu sc_root_split (fun rs M R h => ?_) fun cdv A outer s H hgd hr => ⟨_, (pdb_cons (pds_set 1 sc_root_split.nd (pd_dget (hu_of hr) (pd_var 0) (pd_gI (by rfl) T.c_ROOT)))
      (pdb_cons (pds_asg (pd_fn H_halves hgd (hr.mono (by first | decide | omega)) (by rfl) (pda_cons (pd_var 1) pda_nil)) (pdg_tup (n := 3) rfl (pdgs_cons (pdg_name 2 sc_root_split.nd) (pdgs_cons (pdg_name 3 sc_root_split.nd) (pdgs_cons (pdg_name 4 sc_root_split.nd) pdgs_nil)))))
      (pdb_cons (pds_asg (pd_fn H_least_free hgd (hr.mono (by first | decide | omega)) (by rfl) (pda_cons (pd_var 0) (pda_cons pd_int pda_nil))) (pdg_lst (n := 2) rfl (pdgs_cons (pdg_name 5 sc_root_split.nd) (pdgs_cons (pdg_name 6 sc_root_split.nd) pdgs_nil))))
      (pdb_one (pds_ret (pd_lst (pda_cons (pd_tup (pda_cons (pd_var 5) (pda_cons (pd_gD (by rfl) T.c_FREE) (pda_cons (pd_var 2) pda_nil)))) (pda_cons (pd_tup (pda_cons (pd_var 6) (pda_cons (pd_gD (by rfl) T.c_FREE) (pda_cons (pd_var 3) pda_nil)))) (pda_cons (pd_tup (pda_cons (pd_gI (by rfl) T.c_ROOT) (pda_cons (pd_var 1) (pda_cons (pd_tup (pda_cons (pd_gS (by rfl) T.c_INNER) (pda_cons (pd_tup (pda_cons (pd_tup (pda_cons pd_non (pda_cons (pd_var 5) pda_nil))) (pda_cons (pd_tup (pda_cons (pd_var 4) (pda_cons (pd_var 6) pda_nil))) pda_nil))) pda_nil))) pda_nil)))) pda_nil))))))))), ?_⟩
  · obtain ⟨c, st, shs, m, rfl, _⟩ := h
    rfl
  · rintro rs M R ⟨c, st, shs, m, rfl, hc, hb, hm, hl, ⟨ct, a, b, key, one, other, h1, h2, h3, rfl⟩, k⟩
    have hv : valS (stS (psD st)) (.inl 0) = some (.d ct.d) := by rw [valS_ps, h1]; rfl
    have hlen : ct.len ≤ m := (hb _ (lkC_mem h1)).2.len
    walk_at "start"
    walk_at "run"
    refine ⟨ct, a, b, key, rfl, h2, by omega, ?_⟩
    walk_at "run"
    refine ⟨c, st, 2, m, rfl, hc, hb, hm, hl, by omega, ?_⟩
    rw [h3]
    walk_at "run"
    simp only [List.map_cons, List.map_nil]
    walk_at "run"
    exact upR.of k
theorem ok_psplit (T : Tx K mg) (H_halves : Has P w K mg base 1 "halves" s_halves ["content"] cn_halves) (H_least_free : Has P w K mg base 2 "least_free" s_least_free ["contents", "many"] cn_least) {f : Addr} {fd : FuncData} (Fu : Fun K "page_split" "page_split" s_page_split f fd) : FnD P w K mg base 3 f fd ["contents", "page", "parent"] cn_psplit := by
  refine fnD_of Fu sc_page_split (fun rs M R h => ?_) fun cdv A outer s H hgd hr => ⟨_, (pdb_cons (pds_asg (pd_fn H_halves hgd (hr.mono (by first | decide | omega)) (by rfl) (pda_cons (pd_dget (hu_of hr) (pd_var 0) (pd_var 1)) pda_nil)) (pdg_tup (n := 3) rfl (pdgs_cons (pdg_name 7 sc_page_split.nd) (pdgs_cons (pdg_name 8 sc_page_split.nd) (pdgs_cons (pdg_name 9 sc_page_split.nd) pdgs_nil)))))
      (pdb_cons (pds_set 3 sc_page_split.nd (pd_ix (pd_fn H_least_free hgd (hr.mono (by first | decide | omega)) (by rfl) (pda_cons (pd_var 0) (pda_cons pd_int pda_nil))) pd_int))
      (pdb_cons (pds_set 4 sc_page_split.nd (pd_ix (pd_dget (hu_of hr) (pd_var 0) (pd_var 2)) pd_int))
      (pdb_cons (pds_set 5 sc_page_split.nd (pd_op o_plus (pd_index (pd_lc (own := [("other", 10), ("child", 11)]) rfl sc_page_split.nd (pdi_seq (pd_var 4)) (blkOk_by (N := N_page_split) (sc := defScope s_page_split) (by decide +kernel)) (fun _ _ _ _ _ => (pdgw_tup (n := 2) rfl (pdgsw_cons (pdgw_name 10 sc_page_split.nd) (pdgsw_cons (pdgw_name 11 sc_page_split.nd) pdgsw_nil)))) (fun _ _ _ _ _ => pdts_nil) (fun _ _ _ _ _ => (pd_var 11))) (pda_cons (pd_var 1) pda_nil)) pd_int))
      (pdb_cons (pds_set 6 sc_page_split.nd (pd_tup (pda_cons (pd_gS (by rfl) T.c_INNER) (pda_cons (pd_op o_plus (pd_op o_plus (pd_slice (pd_var 4) pdo_none (pdo_some (pd_var 5))) (pd_tup (pda_cons (pd_tup (pda_cons (pd_var 9) (pda_cons (pd_var 3) pda_nil))) pda_nil))) (pd_slice (pd_var 4) (pdo_some (pd_var 5)) pdo_none)) pda_nil))))
      (pdb_one (pds_ret (pd_lst (pda_cons (pd_tup (pda_cons (pd_var 3) (pda_cons (pd_gD (by rfl) T.c_FREE) (pda_cons (pd_var 8) pda_nil)))) (pda_cons (pd_tup (pda_cons (pd_var 2) (pda_cons (pd_dget (hu_of hr) (pd_var 0) (pd_var 2)) (pda_cons (pd_var 6) pda_nil)))) (pda_cons (pd_tup (pda_cons (pd_var 1) (pda_cons (pd_dget (hu_of hr) (pd_var 0) (pd_var 1)) (pda_cons (pd_var 7) pda_nil)))) pda_nil))))))))))), ?_⟩
  · obtain ⟨c, st, page, parent, shs, m, rfl, _⟩ := h
    rfl
  · rintro rs M R ⟨c, st, page, parent, shs, m, rfl, hc, hb, hm, hl, ⟨ct, a, b, key, fresh, ch, j, h1, h2, h3, h4, h5, rfl⟩, k⟩
    have hv : valS (stS (psD st)) (.inl page) = some (.d ct.d) := by rw [valS_ps, h1]; rfl
    have hv2 : valS (stS (psD st)) (.inl parent) = some (.d (innerG ch)) := by rw [valS_ps, h4]; rfl
    have hlen : ct.len ≤ m := (hb _ (lkC_mem h1)).2.len
    have hlen2 : ch.length ≤ m := (hb _ (lkC_mem h4)).2.len
    walk_at "start"
    walk_at "run"
    refine ⟨ct, a, b, key, rfl, h2, by omega, ?_⟩
    walk_at "run"
    refine ⟨c, st, 1, m, rfl, hc, hb, hm, hl, by omega, ?_⟩
    rw [h3]
    walk_at "run"
    rw [← mapD_d]
    refine lc_m ch _ (fun c => .i c.2) trivial (by rw [sizeLine_eq]; omega) (fun c hc k1 k0 h => ?_) ?_
    · walk_at "run"
      exact h
    rw [show (ch.map fun c => Sl.i c.2) = ((ch.map (·.2)).map PyData.int).map Sl.d by rw [List.map_map, List.map_map]; rfl]
    refine e1 (datOf_map _) ?_
    walk_at "run"
    refine e3 rfl (by rw [← mapI]; exact intsOf_map _) h5 ?_
    walk_at "run"
    have hj : (((j : Nat) : Int) + 1).toNat = j + 1 := by omega
    rw [cutA_to (by omega), hj, ← List.map_take]
    refine ⟨by rw [List.length_map, List.length_take, sizeLine_eq]; simp; omega, ?_⟩
    walk_at "run"
    rw [cutA_from (by omega), hj, ← List.map_drop]
    refine ⟨by rw [List.length_append, List.length_map, List.length_map, List.length_take, List.length_drop, sizeLine_eq]; simp; omega, ?_⟩
    walk_at "run"
    refine upR.of ?_
    have ek : List.map chE (ch.take (j + 1)) ++ [PyData.tuple [optD key, .int fresh]] ++ List.map chE (ch.drop (j + 1)) = (ch.take (j + 1) ++ [(key, fresh)] ++ ch.drop (j + 1)).map chE := by
      rw [List.map_append, List.map_append]; rfl
    show R (.d (.list [.tuple [.int fresh, freeD, b.d], .tuple [.int parent, innerG ch, .tuple [.str "inner", .tuple (List.map chE (ch.take (j + 1)) ++ [PyData.tuple [optD key, .int fresh]] ++ List.map chE (ch.drop (j + 1)))]], .tuple [.int page, ct.d, a.d]])) M
    rw [ek]
    exact k
end
/-! ### making room -/
/-- the pages that are still to be split, the pages as they are, the shapes from here on -/
inductive RoomL (k : Int) : Nat → List Int → Ps → List Shp → Prop
  | nil {m : Nat} {st : Ps} : RoomL k m [] st []
  | root {m : Nat} {st : Ps} {rest ts : List Int} {es : List (Int × PyData)} {shs more : List Shp} : Way (psD st) k 0 ts es → ts.length ≤ 1000 → PsB m st → st.length ≤ 1000 → SplitR st shs → RoomL k (m + 1) rest (layAll st shs) more → RoomL k m (0 :: rest) st (shs ++ more)
  | page {m : Nat} {st : Ps} {page parent : Int} {j : Nat} {rest ts : List Int} {es : List (Int × PyData)} {shs more : List Shp} : page ≠ 0 → Way (psD st) k 0 ts es → ts.length ≤ 1000 → PsB m st → st.length ≤ 1000 → ixOf ts page = some (j + 1) → ts[j]? = some parent → SplitP st page parent shs →
      RoomL k (m + 1) rest (layAll st shs) more → RoomL k m (page :: rest) st (shs ++ more)
def fullN (st : Ps) (n : Int) : Bool := fullO (lkC st n)
/-- how many pages at the end of a way are full -/
def lead {A : Type} (p : A → Bool) : List A → Nat
  | [] => 0
  | a :: r => if p a then lead p r + 1 else 0
theorem lead_lt {A : Type} {p : A → Bool} : ∀ {l : List A} {i : Nat}, i < lead p l → ∃ a, l[i]? = some a ∧ p a = true
  | [], i, h => by cases h
  | a :: r, i, h => by
    rw [lead] at h
    split at h
    · rename_i hp
      cases i with
      | zero => exact ⟨a, rfl, hp⟩
      | succ i => exact lead_lt (l := r) (i := i) (by omega)
    · cases h
theorem lead_end {A : Type} {p : A → Bool} : ∀ {l : List A} {a : A}, l[lead p l]? = some a → p a = false
  | [], a, h => by cases h
  | b :: r, a, h => by
    rw [lead] at h
    split at h
    · exact lead_end (l := r) h
    · rename_i hp
      cases h
      simpa using hp
theorem lead_le {A : Type} {p : A → Bool} : ∀ {l : List A}, lead p l ≤ l.length
  | [] => Nat.le_refl _
  | b :: r => by
    rw [lead]
    split
    · have := lead_le (p := p) (l := r); simp; omega
    · simp
def manyE (st : Ps) (ts : List Int) : Nat := lead (fullN st) ts.reverse
/-- what room_in tells -/
def RoomE (st : Ps) (k : Int) (ts : List Int) (es : List (Int × PyData)) (shs : List Shp) : Prop :=
  (((decide ((es.length : Int) = 4) = false ∨ k ∈ es.map (·.1)) ∧ shs = [])) ∨ (es.length = 4 ∧ k ∉ es.map (·.1) ∧ RoomL k 4 (ts.drop (ts.length - manyE st ts)) st shs)
end LW

set_option Elab.async false
set_option linter.all false
set_option maxRecDepth 100000
set_option maxHeartbeats 4000000
namespace LW
open PySem PySem.Spec L2 DL
local macro_rules | `(tactic| walk_at "mem") => `(tactic| ((repeat rw [upM_ne (by assumption)]); first | exact upM_same | assumption))
local macro_rules | `(tactic| walk_at "look") => `(tactic| first | rfl | assumption | exact atI_map0 | exact atI_map1 | walk_at "mem" | (with_reducible apply lsOf_m; walk_at "mem") | (with_reducible apply sqOf_m; walk_at "mem") | (with_reducible apply rlOf_m; walk_at "mem") | (with_reducible apply sqOf'_m; walk_at "mem") | (with_reducible apply tru_l; walk_at "mem") | (with_reducible apply tru_d; walk_at "mem") | ((simp (discharger := assumption) only [sqOf, sqOf', rlOf, lsOf, tru, upM_same, upM_ne]) <;> rfl))
local macro_rules | `(tactic| walk_at "set") => `(tactic| (simp only [wipeD, List.set_cons_zero, List.set_cons_succ, List.set_nil]; rfl))
local macro_rules | `(tactic| walk_at "side") => `(tactic| first | omega | (simp only [List.length_map, List.length_cons, List.length_nil]; omega) | assumption | rfl | decide | exact ⟨by omega, by omega⟩ | exact Nat.le_of_ble_eq_true rfl)
local macro_rules | `(tactic| walk_at "head") => `(tactic| with_reducible conv => whnf)
local macro_rules | `(tactic| walk_at "step") => `(tactic| (walk_at "head"; first
  | ((with_reducible apply gN_go); (focus walk_at "set"))
  | ((with_reducible apply e1s); (focus rfl))
  | ((with_reducible apply e1); (focus walk_at "look"))
  | ((with_reducible apply e2); (focus walk_at "look"); (focus walk_at "look"))
  | ((with_reducible apply l1); (focus walk_at "look"))
  | ((with_reducible apply l2); (focus walk_at "look"); (focus walk_at "look"))
  | ((with_reducible apply e3); (focus walk_at "look"); (focus walk_at "look"); (focus walk_at "look"))
  | ((with_reducible apply e0a); (focus walk_at "look"))
  | ((with_reducible apply And.intro); (focus walk_at "side"))
  | ((with_reducible apply d1); (focus walk_at "look"))
  | ((with_reducible apply d2); (focus walk_at "look"); (focus walk_at "look"))
  | ((with_reducible apply d3); (focus walk_at "look"); (focus walk_at "look"); (focus walk_at "look"))
  | ((with_reducible apply d0); (focus walk_at "look"))
  | ((with_reducible apply lk1); (focus walk_at "look"))
  | with_reducible apply gw2_go
  | with_reducible apply gw3_go
  | with_reducible apply gs_go
  | with_reducible apply gt2_go
  | with_reducible apply gt3_go
  | with_reducible apply gt1_go
  | with_reducible apply gt4_go
  | with_reducible apply gt5_go
  | with_reducible apply gt6_go
  | with_reducible apply gt7_go
  | with_reducible apply gt8_go
  | with_reducible apply ift_go
  | with_reducible apply iff_go
  | ((with_reducible apply ifT_go); (focus rfl))
  | ((with_reducible apply ifF_go); (focus rfl))))
local macro_rules | `(tactic| walk_at "run") => `(tactic| (repeat walk_at "step"); walk_at "head")
local macro_rules | `(tactic| walk_at "start") => `(tactic| simp only [startD, List.map_cons, List.map_nil, List.length_cons, List.length_nil, List.replicate, List.cons_append, List.nil_append, Nat.reduceAdd, Nat.reduceSub, bodyK])
theorem enE_inj : ∀ {a b : List (Int × PyData)}, a.map enE = b.map enE → a = b
  | [], [], _ => rfl
  | [], _ :: _, h => by cases h
  | _ :: _, [], h => by cases h
  | x :: a, y :: b, h => by
    rw [List.map_cons, List.map_cons] at h
    obtain ⟨h1, h2⟩ := List.cons.inj h
    have h3 := PyData.tuple.inj h1
    obtain ⟨h4, h5⟩ := List.cons.inj h3
    obtain ⟨h6, _⟩ := List.cons.inj h5
    rw [enE_inj h2, Prod.ext (PyData.int.inj h4) h6]
theorem chE_inj : ∀ {a b : List (Option Int × Int)}, a.map chE = b.map chE → a = b
  | [], [], _ => rfl
  | [], _ :: _, h => by cases h
  | _ :: _, [], h => by cases h
  | x :: a, y :: b, h => by
    rw [List.map_cons, List.map_cons] at h
    obtain ⟨h1, h2⟩ := List.cons.inj h
    have h3 := PyData.tuple.inj h1
    obtain ⟨h4, h5⟩ := List.cons.inj h3
    obtain ⟨h6, _⟩ := List.cons.inj h5
    have h7 : x.1 = y.1 := by
      revert h4
      cases x.1 <;> cases y.1 <;> intro h4
      · rfl
      · cases h4
      · cases h4
      · rw [PyData.int.inj h4]
    rw [chE_inj h2, Prod.ext h7 (PyData.int.inj h6)]
theorem Ct.d_inj {a b : Ct} (h : a.d = b.d) : a = b := by
  cases a with
  | leaf es =>
    cases b with
    | leaf es' =>
      have h3 := PyData.tuple.inj h
      obtain ⟨_, h5⟩ := List.cons.inj h3
      obtain ⟨h6, _⟩ := List.cons.inj h5
      rw [enE_inj (PyData.tuple.inj h6)]
    | inner cs =>
      have h3 := PyData.tuple.inj h
      obtain ⟨h4, _⟩ := List.cons.inj h3
      exact absurd (PyData.str.inj h4) (by decide)
  | inner cs =>
    cases b with
    | leaf es' =>
      have h3 := PyData.tuple.inj h
      obtain ⟨h4, _⟩ := List.cons.inj h3
      exact absurd (PyData.str.inj h4) (by decide)
    | inner cs' =>
      have h3 := PyData.tuple.inj h
      obtain ⟨_, h5⟩ := List.cons.inj h3
      obtain ⟨h6, _⟩ := List.cons.inj h5
      rw [chE_inj (PyData.tuple.inj h6)]
theorem lkC_of {st : Ps} {n : Int} {c : Ct} (h : lkE (psD st) n = some c.d) : lkC st n = some c := by
  rw [lkE_psD] at h
  obtain ⟨x, hx, e⟩ := Option.map_eq_some_iff.mp h
  rw [hx, Ct.d_inj e]
theorem lkC_to {st : Ps} {n : Int} {c : Ct} (h : lkC st n = some c) : lkE (psD st) n = some c.d := by rw [lkE_psD, h]; rfl
theorem Way.mem {st : Ps} {k p : Int} {ts : List Int} {es : List (Int × PyData)} (h : Way (psD st) k p ts es) : ∀ n ∈ ts, ∃ c, lkC st n = some c := by
  induction h with
  | leaf h _ _ => intro n hn; rw [List.mem_singleton] at hn; subst hn; exact ⟨.leaf _, lkC_of (c := .leaf _) h⟩
  | inner h _ _ _ _ ih =>
    intro n hn
    rcases List.mem_cons.mp hn with rfl | hn
    · exact ⟨.inner _, lkC_of (c := .inner _) h⟩
    · exact ih n hn
theorem atI_back {A : Type} {l : List A} {i : Nat} {x : A} (h : l.reverse[i]? = some x) : atI l (-1 - (i : Int)) = some x := by
  have hi : i < l.length := by have := (List.getElem?_eq_some_iff.mp h).1; rwa [List.length_reverse] at this
  rw [List.getElem?_reverse hi] at h
  unfold atI ixN
  rw [if_neg (by omega), if_pos (by omega)]
  show l[(-1 - (i : Int) + (l.length : Int)).toNat]? = _
  rw [show (-1 - (i : Int) + (l.length : Int)).toNat = l.length - 1 - i by omega]
  exact h
/-! ### what is split is small -/
theorem leastE_rng {st : Ps} {many : Nat} {x : Int} (h : x ∈ leastE st many) : 0 ≤ x ∧ x < st.length + many := by
  unfold leastE at h
  obtain ⟨n, hn, rfl⟩ := List.mem_map.mp h
  have := List.mem_range.mp (List.mem_filter.mp (List.mem_of_mem_take hn)).1
  have e : Int.ofNat n = (n : Int) := rfl
  omega
theorem halves_b {m : Nat} {c a b : Ct} {key : Option Int} (hc : CtB m c) (h : halvesC c = some (a, b, key)) : CtB m a ∧ CtB m b ∧ ∀ k, key = some k → IdB k := by
  cases hc with
  | @leaf es hl he =>
    obtain ⟨e, hx, hq⟩ := Option.map_eq_some_iff.mp h
    cases hq
    exact ⟨.leaf (by rw [List.length_take]; omega) fun e he2 => he e (List.mem_of_mem_take he2), .leaf (by rw [List.length_drop]; omega) fun e he2 => he e (List.mem_of_mem_drop he2), fun k hk => by cases hk; exact (he e (List.mem_of_getElem? hx)).1⟩
  | @inner cs hl hcs =>
    obtain ⟨e, hx, hq⟩ := Option.map_eq_some_iff.mp h
    cases hq
    have h3 := (List.getElem?_eq_some_iff.mp hx).1
    refine ⟨.inner (by rw [List.length_take]; omega) fun e he2 => hcs e (List.mem_of_mem_take he2), .inner (by rw [List.length_cons, List.length_drop]; omega) fun e he2 => ?_, fun k hk => (hcs e (List.mem_of_getElem? hx)).1 k hk⟩
    rcases List.mem_cons.mp he2 with rfl | he2
    · exact ⟨(fun k hk => by cases hk), (hcs _ (List.mem_of_getElem? hx)).2⟩
    · exact hcs e (List.mem_of_mem_drop he2)
theorem CtB.some {m : Nat} {c : Ct} (h : CtB m c) : OcB m (some c) := fun _ e => by cases e; exact h
theorem OcB.none {m : Nat} : OcB m none := fun _ e => by cases e
theorem SplitR.b {m : Nat} {st : Ps} {shs : List Shp} (hb : PsB m st) (hl : st.length ≤ 1000) (hm : 2 ≤ m) (h : SplitR st shs) : ∀ s ∈ shs, ShB (m + 1) s := by
  obtain ⟨c, a, b, key, one, other, h1, h2, h3, rfl⟩ := h
  have hc := hb _ (lkC_mem h1)
  obtain ⟨x, y, z⟩ := halves_b hc.2 h2
  have o1 := leastE_rng (st := st) (many := 2) (x := one) (by rw [h3]; simp)
  have o2 := leastE_rng (st := st) (many := 2) (x := other) (by rw [h3]; simp)
  intro s hs
  simp only [List.mem_cons, List.not_mem_nil, or_false] at hs
  rcases hs with rfl | rfl | rfl
  · exact ⟨⟨o1.1, by show one < 10000000; omega⟩, .none, (x.mono (by omega)).some⟩
  · exact ⟨⟨o2.1, by show other < 10000000; omega⟩, .none, (y.mono (by omega)).some⟩
  · refine ⟨hc.1, (hc.2.mono (by omega)).some, (CtB.inner (by simp; omega) fun c hc => ?_).some⟩
    simp only [List.mem_cons, List.not_mem_nil, or_false] at hc
    rcases hc with rfl | rfl
    · exact ⟨(fun k hk => by cases hk), o1.1, by show one < 10000000; omega⟩
    · exact ⟨z, o2.1, by show other < 10000000; omega⟩
theorem SplitP.b {m : Nat} {st : Ps} {page parent : Int} {shs : List Shp} (hb : PsB m st) (hl : st.length ≤ 1000) (h : SplitP st page parent shs) : ∀ s ∈ shs, ShB (m + 1) s := by
  obtain ⟨c, a, b, key, fresh, ch, j, h1, h2, h3, h4, h5, rfl⟩ := h
  have hc := hb _ (lkC_mem h1)
  have hp := hb _ (lkC_mem h4)
  obtain ⟨x, y, z⟩ := halves_b hc.2 h2
  have o1 := leastE_rng (st := st) (many := 1) (x := fresh) (by rw [h3]; simp)
  intro s hs
  simp only [List.mem_cons, List.not_mem_nil, or_false] at hs
  rcases hs with rfl | rfl | rfl
  · exact ⟨⟨o1.1, by show fresh < 10000000; omega⟩, .none, (y.mono (by omega)).some⟩
  · refine ⟨hp.1, (hp.2.mono (by omega)).some, ?_⟩
    have hp2 : CtB m (.inner ch) := hp.2
    cases hp2 with
    | inner l1 l2 =>
      refine (CtB.inner ?_ fun c hc => ?_).some
      · rw [List.length_append, List.length_append, List.length_take, List.length_drop]; simp; omega
      · rcases List.mem_append.mp hc with hc | hc
        · rcases List.mem_append.mp hc with hc | hc
          · exact l2 c (List.mem_of_mem_take hc)
          · rw [List.mem_singleton] at hc; subst hc
            exact ⟨z, o1.1, by show fresh < 10000000; omega⟩
        · exact l2 c (List.mem_of_mem_drop hc)
  · exact ⟨hc.1, (hc.2.mono (by omega)).some, (x.mono (by omega)).some⟩
theorem PsB.lay {m : Nat} : ∀ {shs : List Shp} {st : Ps}, PsB m st → (∀ s ∈ shs, ShB m s) → PsB m (layAll st shs)
  | [], st, h, _ => h
  | s :: r, st, h, hs => by
    refine PsB.lay (shs := r) (st := layC st s) (fun e he => ?_) fun x hx => hs x (List.mem_cons_of_mem _ hx)
    have h1 := hs s List.mem_cons_self
    obtain ⟨n, bf, af⟩ := s
    unfold layC at he
    cases af with
    | none => exact h e (List.mem_filter.mp he).1
    | some c =>
      rcases List.mem_append.mp he with he | he
      · exact h e (List.mem_filter.mp he).1
      · rw [List.mem_singleton] at he; subst he
        exact ⟨h1.1, h1.2.2 c rfl⟩
theorem layAll_len : ∀ (shs : List Shp) (st : Ps), (layAll st shs).length ≤ st.length + shs.length
  | [], st => Nat.le_refl _
  | s :: r, st => by
    have h1 := layAll_len r (layC st s)
    have h2 := layC_len st s
    show (layAll (layC st s) r).length ≤ _
    rw [List.length_cons]; omega
theorem keep {M : Mem} {a p : Addr} {o u : MO} (h : M a = some o) (hp : M p = none) : upM M p u a = some o := by rw [upM_ne (neM h hp)]; exact h
theorem none_le {M M' : Mem} (le : Le M M') {p : Addr} (hp : M' p = none) : M p = none := by
  cases e : M p with
  | none => rfl
  | some o => rw [le p o e] at hp; cases hp
theorem valS_in (es : List (Int × PyData)) (k : Int) : (valS (stS es) (.inl k)).isSome = decide (k ∈ es.map (·.1)) := by
  rw [valS_st]
  induction es with
  | nil => rfl
  | cons e r ih =>
    unfold lkE at ih ⊢
    rw [List.find?_cons, List.map_cons]
    by_cases h : e.1 = k
    · simp [h]
    · simp only [h, decide_false, List.mem_cons]
      rw [ih]
      have : k ≠ e.1 := Ne.symm h
      simp [this]
theorem while_cut {c : WT} {wb : WS} {P : PK} {dl : Env'} {M : Mem} (Q : Env' → Mem → Prop) (h2 : ∀ dl M, Q dl M → P.nx dl M) (h1 : ∀ nx, (∀ dl M, Q dl M → nx dl M) → wWhile c wb { P with nx := nx } dl M) : wWhile c wb P dl M := h1 _ h2
def shS (shs : List Shp) : List Sl := (shs.map shD).map Sl.d
def cn_room_in : Cn := fun rs M R => ∃ c st k ts es shs, rs = [.v (.ref c), .i k] ∧ M c = some (memP st) ∧ Way (psD st) k 0 ts es ∧ ts.length ≤ 900 ∧ PsB 4 st ∧ st.length ≤ 900 ∧ RoomE st k ts es shs ∧ shs.length ≤ 10000 ∧
  ((∀ q, M q = none → R (.v (.ref q)) (upM M q (.lst (shS shs)))) ∨ R (.d (.list (shs.map shD))) M)
theorem room_end {R : RK} {M M' : Mem} {p : Addr} {shs : List Shp} (h : (∀ q, M q = none → R (.v (.ref q)) (upM M q (.lst (shS shs)))) ∨ R (.d (.list (shs.map shD))) M) (hp : M p = none) (hm : M' p = some (.lst (shS shs))) (le : Le M M') : upR R (.v (.ref p)) M' := by
  rcases h with h | h
  · refine upR.le (h p hp) fun a o ha => ?_
    by_cases e : a = p
    · subst e; rw [upM_same] at ha; rw [← ha]; exact hm
    · rw [upM_ne e] at ha; exact le a o ha
  · exact ⟨_, _, Vw.frz (ds := shs.map shD) hm le hp, h⟩
section
variable {P : Program} {w : World} {K : PySem.W.Frag} {mg : Str → Option Value} {base : Heap}
theorem ok_room_in (T : Tx K mg) (H_way_in : Has P w K mg base 2 "way_in" s_way_in ["contents", "key"] cn_way_in) (H_is_full : Has P w K mg base 1 "is_full" s_is_full ["content"] cn_full) (H_root_split : Has P w K mg base 3 "root_split" s_root_split ["contents"] cn_rsplit)
    (H_page_split : Has P w K mg base 3 "page_split" s_page_split ["contents", "page", "parent"] cn_psplit) (H_lay_shapes : Has P w K mg base 1 "lay_shapes" s_lay_shapes ["contents", "shapes"] cn_lay) {f : Addr} {fd : FuncData} (Fu : Fun K "room_in" "room_in" s_room_in f fd) : FnD P w K mg base 4 f fd ["contents", "key"] cn_room_in := by
  refine fnD_of Fu sc_room_in (fun rs M R h => ?_) fun cdv A outer s H hgd hr => ⟨_, (pdb_cons (pds_set 2 sc_room_in.nd (pd_fn H_way_in hgd (hr.mono (by first | decide | omega)) (by rfl) (pda_cons (pd_var 0) (pda_cons (pd_var 1) pda_nil))))
      (pdb_cons (pds_set 3 sc_room_in.nd (pd_dget (hu_of hr) (pd_var 0) (pd_ix (pd_var 2) (pd_neg pd_int))))
      (pdb_cons (pds_if (PDW.t (pdw_or (pdt_not (pdt_tru (pd_fn H_is_full hgd (hr.mono (by first | decide | omega)) (by rfl) (pda_cons (pd_var 3) pda_nil)))) (pdw_or1 (pdt_din (hu_of hr) (pd_var 1) (pd_callT (c_dict rfl) (by rfl) T.z_dict (by decide +kernel) (pda_cons (pd_ix (pd_var 3) pd_int) pda_nil)))))) (pdb_one (pds_ret (pd_lstM pda_nil))) pdb_nil)
      (pdb_cons (pds_set 4 sc_room_in.nd pd_int)
      (pdb_cons (pds_while PassesOwn.never (PDW.t (pdw_and (pdt_cmp o_lt (pd_var 4) (pd_callB c_len (by rfl) T.z_len (by decide +kernel) (pda_cons (pd_var 2) pda_nil)) (nomark _)) (pdw_and1 (pdt_tru (pd_fn H_is_full hgd (hr.mono (by first | decide | omega)) (by rfl) (pda_cons (pd_dget (hu_of hr) (pd_var 0) (pd_ix (pd_var 2) (pd_op o_sub (pd_neg pd_int) (pd_var 4)))) pda_nil)))))) (pdb_one (pds_augI 4 (f := fun a b => a + b) sc_room_in.nd pd_int ip_add (fun a b H Q h => ⟨a, b, rfl, rfl, h⟩))))
      (pdb_cons (pds_par 6 7 rfl sc_room_in.nd (by decide) (pda_cons (pd_callT c_dictD (by rfl) T.z_dict (by decide +kernel) (pda_cons (pd_var 0) pda_nil)) (pda_cons (pd_lstM pda_nil) pda_nil)))
      (pdb_cons (pds_for PassesOwn.never rfl (pdi_seq (pd_slice (pd_var 2) (pdo_some (pd_op o_sub (pd_callB c_len (by rfl) T.z_len (by decide +kernel) (pda_cons (pd_var 2) pda_nil)) (pd_var 4))) pdo_none)) (pdg_name 5 sc_room_in.nd) (pdb_cons (pds_set 8 sc_room_in.nd (pd_fn H_way_in hgd (hr.mono (by first | decide | omega)) (by rfl) (pda_cons (pd_var 6) (pda_cons (pd_var 1) pda_nil))))
      (pdb_cons (pds_set 9 sc_room_in.nd (pd_if (pdt_cmp (o_eq hr.units) (pd_var 5) (pd_gI (by rfl) T.c_ROOT) (nomark _)) (pd_fn H_root_split hgd (hr.mono (by first | decide | omega)) (by rfl) (pda_cons (pd_var 6) pda_nil)) (pd_fn H_page_split hgd (hr.mono (by first | decide | omega)) (by rfl) (pda_cons (pd_var 6) (pda_cons (pd_var 5) (pda_cons (pd_ix (pd_var 8) (pd_op o_sub (pd_index (pd_var 8) (pda_cons (pd_var 5) pda_nil)) pd_int)) pda_nil))))))
      (pdb_cons (pds_expr (pd_fn H_lay_shapes hgd (hr.mono (by first | decide | omega)) (by rfl) (pda_cons (pd_var 6) (pda_cons (pd_var 9) pda_nil))))
      (pdb_one (pds_expr (pd_extend (pd_var 7) (pda_cons (pd_var 9) pda_nil))))))))
      (pdb_one (pds_ret (pd_var 7)))))))))), ?_⟩
  · obtain ⟨c, st, k, ts, es, shs, rfl, _⟩ := h
    rfl
  · rintro rs M R ⟨c, st, k, ts, es, shs, rfl, hc, hw, lt, hb, hl, hr0, hls, hk⟩
    obtain ⟨n, ln, lk, nd, el⟩ := hw.last
    have lkc := lkC_of (c := .leaf es) lk
    have hv : valS (stS (psD st)) (.inl n) = some (.d (leafE es)) := by rw [valS_ps, lkc]; rfl
    walk_at "start"
    walk_at "run"
    refine ⟨c, k, psD st, ts, es, rfl, hc, hw, by omega, fun q hq => ?_⟩
    have mc : upM M q (.lst (intS ts)) c = some (memP st) := keep hc hq
    have mq : upM M q (.lst (intS ts)) q = some (.lst (intS ts)) := upM_same
    have le : Le M (upM M q (.lst (intS ts))) := le_new hq
    generalize upM M q (.lst (intS ts)) = M1 at mc mq le ⊢
    walk_at "run"
    refine e2 (by walk_at "look") (atI_lastI ln) ?_
    walk_at "run"
    refine ⟨some (.leaf es), 4, rfl, (hb _ (lkC_mem lkc)).2.some, by omega, ?_⟩
    walk_at "run"
    have hfull : fullO (some (Ct.leaf es)) = decide ((es.length : Int) = 4) := rfl
    rcases hr0 with ⟨hno, rfl⟩ | ⟨l4, hn, hL⟩
    · by_cases h4 : (es.length : Int) = 4
      · have hin : k ∈ es.map (·.1) := hno.elim (fun z => by rw [decide_eq_true h4] at z; cases z) id
        apply ifF_go
        · rw [hfull, decide_eq_true h4]; rfl
        walk_at "run"
        refine e1 (pairsD_en es) fun p hp => ?_
        rw [merge_st nd]
        walk_at "run"
        apply ifT_go
        · rw [valS_in]; exact decide_eq_true hin
        walk_at "run"
        intro p2 hp2
        have le2 := le.trans (le_new (o := .dic (stS es)) hp)
        exact room_end hk (none_le le2 hp2) upM_same (le2.up (none_le le2 hp2))
      · apply ifT_go
        · rw [hfull, decide_eq_false h4]; rfl
        walk_at "run"
        intro p hp
        exact room_end hk (none_le le hp) upM_same (le.up (none_le le hp))
    · apply ifF_go
      · rw [hfull, decide_eq_true (by omega)]; rfl
      walk_at "run"
      refine e1 (pairsD_en es) fun p hp => ?_
      rw [merge_st nd]
      walk_at "run"
      apply ifF_go
      · rw [valS_in]; exact decide_eq_false hn
      have mc := keep (u := .dic (stS es)) mc hp
      have mq := keep (u := .dic (stS es)) mq hp
      have le := le.trans (le_new (o := .dic (stS es)) hp)
      generalize upM M1 p (.dic (stS es)) = M2 at mc mq le ⊢
      walk_at "run"
      have mm := lead_le (p := fullN st) (l := ts.reverse)
      rw [List.length_reverse] at mm
      refine while_cut (fun dl M' => M' = M2 ∧ dl = [some (.v (.ref c)), some (.i k), some (.v (.ref q)), some (.d (leafE es)), some (.i (manyE st ts : Nat)), none, none, none, none, none]) ?_ fun nx' hnx' => ?_
      · rintro _ M3 ⟨rfl, rfl⟩
        walk_at "run"
        intro wk hwk
        have mc := keep (u := memP st) mc hwk
        have mq := keep (u := memP st) mq hwk
        have le := le.trans (le_new (o := memP st) hwk)
        have mwk : upM M3 wk (memP st) wk = some (memP st) := upM_same
        have nwk : M wk = none := none_le (le_new (o := memP st) hwk |> fun _ => ‹Le M M3›) hwk
        generalize upM M3 wk (memP st) = M4 at mc mq le mwk ⊢
        walk_at "run"
        intro fd hfd
        have nfd : M fd = none := none_le le hfd
        have mc := keep (u := .lst []) mc hfd
        have mq := keep (u := .lst []) mq hfd
        have mwk := keep (u := .lst []) mwk hfd
        have le := le.trans (le_new (o := .lst []) hfd)
        have mfd : upM M4 fd (.lst []) fd = some (.lst (shS [])) := upM_same
        have hne : wk ≠ fd := fun e => by subst e; rw [upM_same] at mwk; cases mwk
        generalize upM M4 fd (.lst []) = M5 at mc mq le mwk mfd ⊢
        simp only [List.set_cons_zero, List.set_cons_succ]
        walk_at "run"
        have hmn : manyE st ts ≤ ts.length := mm
        refine e2 (rlOf_m mq) (by rw [cutA_from (by rw [intS, List.length_map]; omega), intS, ← List.map_drop, mapI]; exact datOf_map _) ?_
        rw [show ((((ts.map fun n => Sl.i n).length : Nat) : Int) - ((manyE st ts : Nat) : Int)).toNat = ts.length - manyE st ts by rw [List.length_map]; omega]
        walk_at "run"
        rw [← mapI]
        refine for_ind (fun rest dl M' => ∃ (rs : List Int) (st' : Ps) (done more : List Shp) (m' : Nat) (x5 x8 x9 : Option Sl), rest = rs.map (fun n => Sl.i n) ∧ RoomL k m' rs st' more ∧ 2 ≤ m' ∧ m' + rs.length ≤ 1000 ∧ done ++ more = shs ∧ M' wk = some (memP st') ∧ M' fd = some (.lst (shS done)) ∧ Le M M' ∧
          dl = [some (.v (.ref c)), some (.i k), some (.v (.ref q)), some (.d (leafE es)), some (.i (manyE st ts : Nat)), x5, some (.v (.ref wk)), some (.v (.ref fd)), x8, x9]) ?_ ?_ ⟨_, st, [], shs, 4, _, _, _, rfl, hL, by omega, by rw [List.length_drop]; omega, rfl, mwk, mfd, le, rfl⟩
        · rintro _ M6 ⟨rs, st', done, more, m', x5, x8, x9, e0, hL, _, _, ed, w1, w2, le, rfl⟩
          refine ⟨trivial, ?_⟩
          have : rs = [] := by cases rs with | nil => rfl | cons _ _ => cases e0
          subst this
          cases hL
          rw [List.append_nil] at ed
          subst ed
          walk_at "run"
          exact room_end hk nfd w2 le
        · rintro x xs nx _ M6 hnx ⟨rs, st', done, more, m', x5, x8, x9, e0, hL, m2, ml, ed, w1, w2, le, rfl⟩
          obtain ⟨pg, r, rfl⟩ : ∃ s r, rs = s :: r := by cases rs with | nil => cases e0 | cons a b => exact ⟨a, b, rfl⟩
          rw [List.map_cons] at e0
          cases e0
          rw [List.length_cons] at ml
          refine ⟨trivial, ?_⟩
          cases hL with
          | @root _ _ _ ts' es' sh mo hw' lt' hb' hl' hs' hL' =>
            walk_at "run"
            refine ⟨wk, k, psD st', ts', es', rfl, w1, hw', lt', fun q2 hq2 => ?_⟩
            have w1 := keep (u := .lst (intS ts')) w1 hq2
            have w2 := keep (u := .lst (intS ts')) w2 hq2
            have le := le.trans (le_new (o := .lst (intS ts')) hq2)
            generalize upM M6 q2 (.lst (intS ts')) = M7 at w1 w2 le ⊢
            have hsb := hs'.b hb' hl' m2
            walk_at "run"
            refine ⟨wk, st', sh, m', rfl, w1, hb', by omega, hl', hs', ?_⟩
            walk_at "run"
            have lS := layAll_len sh st'
            have shl : sh.length = 3 := by obtain ⟨_, _, _, _, _, _, _, _, _, rfl⟩ := hs'; rfl
            refine ⟨wk, st', sh, false, m' + 1, rfl, w1, hsb, by omega, by omega, ?_⟩
            have w2 := w2
            have w2' : upM M7 wk (memP (layAll st' sh)) fd = some (.lst (shS done)) := by rw [upM_ne (Ne.symm hne)]; exact w2
            have w1' : upM M7 wk (memP (layAll st' sh)) wk = some (memP (layAll st' sh)) := upM_same
            have le' : Le M (upM M7 wk (memP (layAll st' sh))) := le.up nwk
            generalize upM M7 wk (memP (layAll st' sh)) = M8 at w1' w2' le' ⊢
            have ld : done.length ≤ 10000 := by have := congrArg List.length ed; rw [List.length_append] at this; omega
            walk_at "run"
            refine ⟨by rw [shS, List.length_map, List.length_map, sizeLine_eq]; simp; omega, ?_⟩
            refine hnx _ _ ⟨r, layAll st' sh, done ++ sh, mo, m' + 1, _, _, _, rfl, hL', by omega, by omega, by rw [List.append_assoc]; exact ed, ?_, ?_, le'.up nfd, rfl⟩
            · rw [upM_ne hne]; exact w1'
            · rw [upM_same, shS, shS, List.map_append, List.map_append]
          | @page _ _ _ par j _ ts' es' sh mo hp' hw' lt' hb' hl' hj hpar hs' hL' =>
            walk_at "run"
            refine ⟨wk, k, psD st', ts', es', rfl, w1, hw', lt', fun q2 hq2 => ?_⟩
            have w1 := keep (u := .lst (intS ts')) w1 hq2
            have w2 := keep (u := .lst (intS ts')) w2 hq2
            have le := le.trans (le_new (o := .lst (intS ts')) hq2)
            have m7 : upM M6 q2 (.lst (intS ts')) q2 = some (.lst (intS ts')) := upM_same
            generalize upM M6 q2 (.lst (intS ts')) = M7 at w1 w2 le m7 ⊢
            have hsb := hs'.b hb' hl'
            walk_at "run"
            apply ifd_go
            · intro z; exact absurd z hp'
            intro _
            walk_at "run"
            refine e3 (lsOf_m m7) (intsOf_map _) hj ?_
            walk_at "run"
            refine e2 (sqOf_m m7) (atI_int (i := ((j + 1 : Nat) : Int) - 1) (x := .i par) (by omega) (by rw [show (((j + 1 : Nat) : Int) - 1).toNat = j by omega, intS, List.getElem?_map, hpar]; rfl)) ?_
            walk_at "run"
            refine ⟨wk, st', pg, par, sh, m', rfl, w1, hb', by omega, hl', hs', ?_⟩
            walk_at "run"
            have lS := layAll_len sh st'
            have shl : sh.length = 3 := by obtain ⟨_, _, _, _, _, _, _, _, _, _, _, _, rfl⟩ := hs'; rfl
            refine ⟨wk, st', sh, false, m' + 1, rfl, w1, hsb, by omega, by omega, ?_⟩
            have w2 := w2
            have w2' : upM M7 wk (memP (layAll st' sh)) fd = some (.lst (shS done)) := by rw [upM_ne (Ne.symm hne)]; exact w2
            have w1' : upM M7 wk (memP (layAll st' sh)) wk = some (memP (layAll st' sh)) := upM_same
            have le' : Le M (upM M7 wk (memP (layAll st' sh))) := le.up nwk
            generalize upM M7 wk (memP (layAll st' sh)) = M8 at w1' w2' le' ⊢
            have ld : done.length ≤ 10000 := by have := congrArg List.length ed; rw [List.length_append] at this; omega
            walk_at "run"
            refine ⟨by rw [shS, List.length_map, List.length_map, sizeLine_eq]; simp; omega, ?_⟩
            refine hnx _ _ ⟨r, layAll st' sh, done ++ sh, mo, m' + 1, _, _, _, rfl, hL', by omega, by omega, by rw [List.append_assoc]; exact ed, ?_, ?_, le'.up nfd, rfl⟩
            · rw [upM_ne hne]; exact w1'
            · rw [upM_same, shS, shS, List.map_append, List.map_append]
      refine while_ind1 (n := manyE st ts) (fun n dl M' => ∃ i : Nat, i + n = manyE st ts ∧ M' = M2 ∧ dl = [some (.v (.ref c)), some (.i k), some (.v (.ref q)), some (.d (leafE es)), some (.i (i : Nat)), none, none, none, none, none]) ?_ ?_ ⟨0, by omega, rfl, rfl⟩
      · rintro nx _ _ ⟨i, hi, rfl, rfl⟩
        have : i = manyE st ts := by omega
        subst this
        walk_at "run"
        apply ifd_go
        · intro hlt
          rw [intS, List.length_map] at hlt
          obtain ⟨pg, hpg⟩ : ∃ pg, ts.reverse[manyE st ts]? = some pg := ⟨_, List.getElem?_eq_getElem (by rw [List.length_reverse]; omega)⟩
          have hfu := lead_end (p := fullN st) (l := ts.reverse) hpg
          obtain ⟨ct, hct⟩ := hw.mem pg (List.mem_reverse.mp (List.mem_of_getElem? hpg))
          have hvp : valS (stS (psD st)) (.inl pg) = some (.d ct.d) := by rw [valS_ps, hct]; rfl
          walk_at "run"
          refine e2 (by walk_at "look") (atI_back (i := manyE st ts) (x := .i pg) (by rw [intS, ← List.map_reverse, List.getElem?_map, hpg]; rfl)) ?_
          walk_at "run"
          refine ⟨some ct, 4, rfl, (hb _ (lkC_mem hct)).2.some, by omega, ?_⟩
          walk_at "run"
          apply ifF_go
          · unfold fullN at hfu; rw [hct] at hfu; exact hfu
          exact hnx' _ _ ⟨rfl, rfl⟩
        · intro _
          exact hnx' _ _ ⟨rfl, rfl⟩
      · rintro n nx _ _ hnx ⟨i, hi, rfl, rfl⟩
        obtain ⟨pg, hpg, hfu⟩ := lead_lt (p := fullN st) (l := ts.reverse) (i := i) (by unfold manyE at hi; omega)
        have hil := (List.getElem?_eq_some_iff.mp hpg).1
        rw [List.length_reverse] at hil
        obtain ⟨ct, hct⟩ := hw.mem pg (List.mem_reverse.mp (List.mem_of_getElem? hpg))
        have hvp : valS (stS (psD st)) (.inl pg) = some (.d ct.d) := by rw [valS_ps, hct]; rfl
        walk_at "run"
        apply ifT_go
        · exact decide_eq_true (by rw [intS, List.length_map]; omega)
        walk_at "run"
        refine e2 (by walk_at "look") (atI_back (i := i) (x := .i pg) (by rw [intS, ← List.map_reverse, List.getElem?_map, hpg]; rfl)) ?_
        walk_at "run"
        refine ⟨some ct, 4, rfl, (hb _ (lkC_mem hct)).2.some, by omega, ?_⟩
        walk_at "run"
        apply ifT_go
        · unfold fullN at hfu; rw [hct] at hfu; exact hfu
        walk_at "run"
        exact hnx _ _ ⟨i + 1, by omega, rfl, rfl⟩
end
end LW

set_option Elab.async false
set_option linter.all false
set_option maxRecDepth 100000
set_option maxHeartbeats 4000000
namespace LW
open PySem PySem.Spec L2 DL
local macro_rules | `(tactic| walk_at "mem") => `(tactic| ((repeat rw [upM_ne (by assumption)]); first | exact upM_same | assumption))
local macro_rules | `(tactic| walk_at "look") => `(tactic| first | rfl | assumption | exact atI_map0 | exact atI_map1 | walk_at "mem" | (with_reducible apply lsOf_m; walk_at "mem") | (with_reducible apply sqOf_m; walk_at "mem") | (with_reducible apply rlOf_m; walk_at "mem") | (with_reducible apply sqOf'_m; walk_at "mem") | (with_reducible apply tru_l; walk_at "mem") | (with_reducible apply tru_d; walk_at "mem") | ((simp (discharger := assumption) only [sqOf, sqOf', rlOf, lsOf, tru, upM_same, upM_ne]) <;> rfl))
local macro_rules | `(tactic| walk_at "set") => `(tactic| (simp only [wipeD, List.set_cons_zero, List.set_cons_succ, List.set_nil]; rfl))
local macro_rules | `(tactic| walk_at "side") => `(tactic| first | omega | (simp only [List.length_map, List.length_cons, List.length_nil]; omega) | assumption | rfl | decide | exact ⟨by omega, by omega⟩ | exact Nat.le_of_ble_eq_true rfl)
local macro_rules | `(tactic| walk_at "head") => `(tactic| with_reducible conv => whnf)
local macro_rules | `(tactic| walk_at "step") => `(tactic| (walk_at "head"; first
  | ((with_reducible apply gN_go); (focus walk_at "set"))
  | ((with_reducible apply e1s); (focus rfl))
  | ((with_reducible apply e1); (focus walk_at "look"))
  | ((with_reducible apply e2); (focus walk_at "look"); (focus walk_at "look"))
  | ((with_reducible apply l1); (focus walk_at "look"))
  | ((with_reducible apply l2); (focus walk_at "look"); (focus walk_at "look"))
  | ((with_reducible apply e3); (focus walk_at "look"); (focus walk_at "look"); (focus walk_at "look"))
  | ((with_reducible apply e0a); (focus walk_at "look"))
  | ((with_reducible apply And.intro); (focus walk_at "side"))
  | ((with_reducible apply d1); (focus walk_at "look"))
  | ((with_reducible apply d2); (focus walk_at "look"); (focus walk_at "look"))
  | ((with_reducible apply d3); (focus walk_at "look"); (focus walk_at "look"); (focus walk_at "look"))
  | ((with_reducible apply d0); (focus walk_at "look"))
  | ((with_reducible apply lk1); (focus walk_at "look"))
  | with_reducible apply gw2_go
  | with_reducible apply gw3_go
  | with_reducible apply gs_go
  | with_reducible apply gt2_go
  | with_reducible apply gt3_go
  | with_reducible apply gt1_go
  | with_reducible apply gt4_go
  | with_reducible apply gt5_go
  | with_reducible apply gt6_go
  | with_reducible apply gt7_go
  | with_reducible apply gt8_go
  | with_reducible apply ift_go
  | with_reducible apply iff_go
  | ((with_reducible apply ifT_go); (focus rfl))
  | ((with_reducible apply ifF_go); (focus rfl))))
local macro_rules | `(tactic| walk_at "run") => `(tactic| (repeat walk_at "step"); walk_at "head")
local macro_rules | `(tactic| walk_at "start") => `(tactic| simp only [startD, List.map_cons, List.map_nil, List.length_cons, List.length_nil, List.replicate, List.cons_append, List.nil_append, Nat.reduceAdd, Nat.reduceSub, bodyK])
/-! ### the way to a page -/
def kidsP (e : Int × Ct) : List (Int × Int) := match e.2 with
  | .inner cs => cs.map fun c => (c.2, e.1)
  | .leaf _ => []
def kids (st : Ps) : List (Int × Int) := st.flatMap kidsP
abbrev kidS (l : List (Int × Int)) : KS := l.map fun x => (Sum.inl x.1, Sl.i x.2)
inductive Up (st : Ps) : Int → List Int → Prop
  | root : Up st 0 [0]
  | step {x q : Int} {ts : List Int} : x ≠ 0 → (x, q) ∈ kids st → Up st q ts → Up st x (ts ++ [x])
theorem Up.last {st : Ps} {x : Int} {ts : List Int} (h : Up st x ts) : ∃ pre, ts = pre ++ [x] := by
  cases h with
  | root => exact ⟨[], rfl⟩
  | step _ _ _ => exact ⟨_, rfl⟩
theorem Up.top {st : Ps} {x : Int} (h : Up st x [x]) : x = 0 := by
  generalize e : [x] = l at h
  cases h with
  | root => rfl
  | step h1 h2 h3 =>
    obtain ⟨pre, rfl⟩ := h3.last
    have := congrArg List.length e
    simp at this
theorem Up.back {st : Ps} {x : Int} {pre : List Int} (h : Up st x (pre ++ [x])) (hp : pre ≠ []) : x ≠ 0 ∧ ∃ q pre', pre = pre' ++ [q] ∧ (x, q) ∈ kids st ∧ Up st q (pre' ++ [q]) := by
  generalize e : pre ++ [x] = l at h
  cases h with
  | root =>
    have := congrArg List.length e
    simp at this
    exact absurd this hp
  | @step _ q ts h1 h2 h3 =>
    obtain ⟨pre', e2⟩ := h3.last
    have e3 : pre = ts := (List.append_inj' e rfl).1
    exact ⟨h1, q, pre', by rw [e3, e2], h2, by rw [← e2]; exact h3⟩
theorem kidS_key (l : List (Int × Int)) : (kidS l).map (·.1) = (l.map (·.1)).map Sum.inl := by rw [List.map_map, List.map_map]; rfl
theorem inl_nd {ns : List Int} (h : ns.Nodup) : (ns.map (Sum.inl : Int → Key)).Nodup := List.pairwise_map.mpr (List.Pairwise.imp (fun h e => h (Sum.inl.inj e)) h)
theorem kid_merge {a b : List (Int × Int)} (h : ((a ++ b).map (·.1)).Nodup) : mergeS (kidS a) (kidS b) = kidS (a ++ b) := by
  rw [merge_new _ _ (by rw [← List.map_append, kidS_key]; exact inl_nd h), ← List.map_append]
theorem kid_val {l : List (Int × Int)} (h : (l.map (·.1)).Nodup) {x q : Int} (hm : (x, q) ∈ l) : valS (kidS l) (.inl x) = some (.i q) := by
  induction l with
  | nil => cases hm
  | cons a r ih =>
    have n1 := List.nodup_cons.mp (by simpa using h : (a.1 :: r.map (·.1)).Nodup)
    rw [kidS, List.map_cons, valS_cons]
    rcases List.mem_cons.mp hm with e | hm
    · subst e; rw [if_pos rfl]
    · rw [if_neg, ih n1.2 hm]
      intro e
      exact n1.1 (by rw [Sum.inl.inj e]; exact List.mem_map.mpr ⟨_, hm, rfl⟩)
def cn_way_to : Cn := fun rs M R => ∃ c st page ts, rs = [.v (.ref c), .i page] ∧ M c = some (memP st) ∧ (∀ e ∈ st, e.2.len ≤ 1000) ∧ ((kids st).map (·.1)).Nodup ∧ (kids st).length ≤ 10000 ∧ Up st page ts ∧ ts.length ≤ 900 ∧ R (.d (intD ts)) M
theorem dat_ps : ∀ st : Ps, datOf ((stS (psD st)).map (·.2)) = some (st.map fun e => e.2.d)
  | [] => rfl
  | e :: r => by
    have := dat_ps r
    simp only [psD, stS, List.map_cons, datOf] at this ⊢
    rw [this]; rfl
theorem itm_ps : ∀ st : Ps, itmS (stS (psD st)) (st.map fun e => e.2.d) = st.map fun e => Sl.w [.int e.1, e.2.d]
  | [] => rfl
  | e :: r => by
    have := itm_ps r
    unfold itmS at this ⊢
    simp only [psD, stS, List.map_cons, List.zip_cons_cons] at this ⊢
    rw [this]; rfl
section
variable {P : Program} {w : World} {K : PySem.W.Frag} {mg : Str → Option Value} {base : Heap}
theorem ok_way_to (T : Tx K mg) {f : Addr} {fd : FuncData} (Fu : Fun K "way_to" "way_to" s_way_to f fd) : FnD P w K mg base 1 f fd ["contents", "page"] cn_way_to := by
  refine fnD_of Fu sc_way_to (fun rs M R h => ?_) fun cdv A outer s H hgd hr => ⟨_, (pdb_cons (pds_set 2 sc_way_to.nd pd_dict0)
      (pdb_cons (pds_lock (pds_for PassesOwn.never rfl (pdi_items (pd_var 0)) (pdg_tup (n := 2) rfl (pdgs_cons (pdg_name 4 sc_way_to.nd) (pdgs_cons (pdg_name 5 sc_way_to.nd) pdgs_nil))) (pdb_one (pds_if (pdt_cmp (o_eq hr.units) (pd_ix (pd_var 5) pd_int) (pd_gS (by rfl) T.c_INNER) (nomark _)) (pdb_one (pds_expr (pd_update (pd_var 2) (pda_cons (pd_dc (own := [("key", 6), ("child", 7)]) rfl sc_way_to.nd (pdi_seq (pd_ix (pd_var 5) pd_int)) (blkOk_by (N := N_way_to) (sc := defScope s_way_to) (by decide +kernel)) (fun _ _ _ _ _ => (pdgw_tup (n := 2) rfl (pdgsw_cons (pdgw_name 6 sc_way_to.nd) (pdgsw_cons (pdgw_name 7 sc_way_to.nd) pdgsw_nil)))) (fun _ _ _ _ _ => pdts_nil) (fun _ _ _ _ _ => (pd_var 7)) (fun _ _ _ _ _ => (pd_var 4))) pda_nil)))) pdb_nil))))
      (pdb_cons (pds_set 3 sc_way_to.nd (pd_lstM (pda_cons (pd_var 1) pda_nil)))
      (pdb_cons (pds_while PassesOwn.never (pdt_cmp (o_ne hr.units) (pd_ix (pd_var 3) pd_int) (pd_gI (by rfl) T.c_ROOT) (nomark _)) (pdb_one (pds_expr (pd_insert (pd_var 3) (pda_cons pd_int (pda_cons (pd_dget (hu_of hr) (pd_var 2) (pd_ix (pd_var 3) pd_int)) pda_nil))))))
      (pdb_one (pds_ret (pd_var 3))))))), ?_⟩
  · obtain ⟨c, st, page, ts, rfl, _⟩ := h
    rfl
  · rintro rs M R ⟨c, st, page, ts, rfl, hc, hlen, nd, kl, up, tl, k⟩
    walk_at "start"
    walk_at "run"
    intro q hq
    have hcq : c ≠ q := neM hc hq
    have hqc := Ne.symm hcq
    have mc : upM M q (.dic []) c = some (memP st) := by rw [upM_ne hcq]; exact hc
    walk_at "run"
    refine ⟨c, _, mc, fun od kvs => ?_⟩
    walk_at "run"
    refine ⟨od, kvs, _, _, upM_same, dat_ps st, ?_⟩
    rw [itm_ps]
    walk_at "head"
    refine for_ind (fun rest dl M' => ∃ (done todo : Ps) (x4 x5 : Option Sl), st = done ++ todo ∧ rest = todo.map (fun e => Sl.w [.int e.1, e.2.d]) ∧ M' c = some (.lok od kvs (stS (psD st))) ∧ M' q = some (.dic (kidS (kids done))) ∧ Kp [c] M M' ∧ dl = [some (.v (.ref c)), some (.i page), some (.v (.ref q)), none, x4, x5, none, none]) ?_ ?_ ⟨[], st, _, _, rfl, rfl, upM_same, by walk_at "mem", ((Kp.refl _ _).upN hq).up (by simp), rfl⟩
    · rintro _ M1 ⟨done, todo, x4, x5, e, e2, m1, m2, kp, rfl⟩
      have : todo = [] := by cases todo with | nil => rfl | cons _ _ => cases e2
      subst this
      rw [List.append_nil] at e
      subst e
      refine ⟨m1, m1, ?_⟩
      have kp2 : Kp [c] M (upM M1 c (.dic (stS (psD st)))) := kp.up (by simp)
      have m3 : upM M1 c (.dic (stS (psD st))) q = some (.dic (kidS (kids st))) := by rw [upM_ne hqc]; exact m2
      have m4 : upM M1 c (.dic (stS (psD st))) c = some (memP st) := upM_same
      generalize upM M1 c (.dic (stS (psD st))) = M2 at kp2 m3 m4 ⊢
      walk_at "run"
      intro p hp
      have hqp : q ≠ p := neM m3 hp
      have hcp : c ≠ p := neM m4 hp
      have le2 : Le M M2 := fun a o h => by
        by_cases ea : a = c
        · subst ea; rw [hc] at h; cases h; exact m4
        · exact kp2 a o (by simpa using ea) h
      have hpM : M p = none := none_le le2 hp
      walk_at "run"
      obtain ⟨pre0, e0⟩ := up.last
      refine while_ind1 (n := pre0.length) (fun n dl M' => ∃ (pre : List Int) (y : Int) (tail : List Int), Up st y (pre ++ [y]) ∧ pre ++ y :: tail = ts ∧ pre.length = n ∧ M' = upM M2 p (.lst (intS (y :: tail))) ∧ dl = [some (.v (.ref c)), some (.i page), some (.v (.ref q)), some (.v (.ref p)), x4, x5, none, none]) ?_ ?_ ⟨pre0, page, [], by rw [← e0]; exact up, by rw [e0], rfl, rfl, rfl⟩
      · rintro nx _ _ ⟨pre, y, tail, uy, ets, hn, rfl, rfl⟩
        have : pre = [] := List.length_eq_zero_iff.mp hn
        subst this
        have y0 : y = 0 := uy.top
        subst y0
        walk_at "run"
        refine ⟨_, _, Vw.frz (ds := ts.map PyData.int) (by rw [upM_same, ← ets, List.nil_append, intS, mapI]) ((le2.trans (le_new hp))) hpM, k⟩
      · rintro n nx _ _ hnx ⟨pre, y, tail, uy, ets, hn, rfl, rfl⟩
        obtain ⟨y0, z, pre', e1, hz, uz⟩ := uy.back (by intro e; rw [e] at hn; cases hn)
        subst e1
        have hv := kid_val nd hz
        walk_at "run"
        apply ifT_go
        · rw [decide_eq_false y0]; rfl
        have mq2 : upM M2 p (.lst (intS (y :: tail))) q = some (.dic (kidS (kids st))) := keep m3 hp
        walk_at "run"
        have hl2 := congrArg List.length ets
        simp only [List.length_append, List.length_cons, List.length_nil] at hl2
        refine ⟨by rw [intS, List.length_map, sizeLine_eq, List.length_cons]; omega, by omega, by omega, ?_⟩
        refine hnx _ _ ⟨pre', z, y :: tail, uz, by rw [← ets, List.append_assoc]; rfl, by simpa using hn, ?_, rfl⟩
        rw [upM_upM]
        rfl
    · rintro x rest nx _ M1 hnx ⟨done, todo, x4, x5, e, e2, m1, m2, kp, rfl⟩
      obtain ⟨a, r, rfl⟩ : ∃ a r, todo = a :: r := by cases todo with | nil => cases e2 | cons a r => exact ⟨a, r, rfl⟩
      obtain ⟨rfl, rfl⟩ := List.cons.inj e2
      obtain ⟨n, ct⟩ := a
      have hk2 : kids (done ++ [(n, ct)]) = kids done ++ kidsP (n, ct) := by unfold kids; rw [List.flatMap_append]; simp
      have hkn : ((kids done ++ kidsP (n, ct)).map (·.1)).Nodup := by
        have e3 : kids st = (kids done ++ kidsP (n, ct)) ++ kids r := by rw [e]; unfold kids; rw [List.flatMap_append]; simp
        rw [e3, List.map_append] at nd
        exact (List.nodup_append.mp nd).1
      refine ⟨m1, ?_⟩
      cases ct with
      | leaf es =>
        walk_at "run"
        refine hnx _ _ ⟨done ++ [(n, .leaf es)], r, _, _, by rw [e]; simp, rfl, m1, ?_, kp, rfl⟩
        rw [hk2]
        simpa [kidsP] using m2
      | inner cs =>
        have hcs : cs.length ≤ 1000 := hlen (n, .inner cs) (by rw [e]; simp)
        walk_at "run"
        rw [← mapD_d]
        refine dc_m (C := C0) cs (fun c => .d (chE c)) (fun c => .inl c.2) (fun _ => .i n) trivial (by rw [sizeLine_eq]; omega) (fun c hm k1 k0 h => ?_) ?_
        · obtain ⟨ky, x⟩ := c
          walk_at "run"
          exact h _ rfl
        · intro o ho
          have hoq : q ≠ o := neM m2 ho
          have hoc : c ≠ o := neM m1 ho
          have hco : ([c] : List Addr).contains o = false := by simp [Ne.symm hoc]
          have hms : mergeS [] (cs.map fun c => ((.inl c.2 : Key), Sl.i n)) = kidS (kidsP (n, .inner cs)) := by
            have h0 := kid_merge (a := []) (b := kidsP (n, .inner cs)) (by rw [List.nil_append]; rw [List.map_append] at hkn; exact (List.nodup_append.mp hkn).2.1)
            rw [List.nil_append] at h0
            rw [← h0]
            show mergeS [] _ = mergeS [] ((cs.map fun c => (c.2, n)).map _)
            rw [List.map_map]
            rfl
          have hkl : (kids done).length + cs.length ≤ 10000 := by
            have e3 : kids st = (kids done ++ kidsP (n, .inner cs)) ++ kids r := by rw [e]; unfold kids; rw [List.flatMap_append]; simp
            rw [e3, List.length_append, List.length_append] at kl
            have : (kidsP (n, .inner cs)).length = cs.length := by unfold kidsP; rw [List.length_map]
            omega
          rw [hms]
          have m1' : upM M1 o (.dic (kidS (kidsP (n, .inner cs)))) c = some (MO.lok od kvs (stS (psD st))) := keep m1 ho
          have m2' : upM M1 o (.dic (kidS (kidsP (n, .inner cs)))) q = some (.dic (kidS (kids done))) := keep m2 ho
          refine ⟨_, _, m2', upM_same, hoq, ?_, ?_⟩
          · rw [List.length_map, List.length_map, sizeLine_eq]
            have : (kidsP (n, .inner cs)).length = cs.length := by unfold kidsP; rw [List.length_map]
            omega
          · rw [kid_merge hkn, ← hk2]
            refine hnx _ _ ⟨done ++ [(n, .inner cs)], r, _, _, by rw [e]; simp, rfl, ?_, upM_same, ?_, rfl⟩
            · rw [upM_ne hcq]; exact m1'
            · have hoM : M o = none := by
                cases eo : M o with
                | none => rfl
                | some u => rw [kp o u (by simp [Ne.symm hoc]) eo] at ho; cases ho
              exact (kp.upN hoM).upN hq
end
end LW

set_option Elab.async false
set_option linter.all false
set_option maxRecDepth 100000
set_option maxHeartbeats 4000000
namespace LW
open PySem PySem.Spec L2 DL
local macro_rules | `(tactic| walk_at "mem") => `(tactic| ((repeat rw [upM_ne (by assumption)]); first | exact upM_same | assumption))
local macro_rules | `(tactic| walk_at "look") => `(tactic| first | rfl | assumption | exact atI_map0 | exact atI_map1 | walk_at "mem" | (with_reducible apply lsOf_m; walk_at "mem") | (with_reducible apply sqOf_m; walk_at "mem") | (with_reducible apply rlOf_m; walk_at "mem") | (with_reducible apply sqOf'_m; walk_at "mem") | (with_reducible apply tru_l; walk_at "mem") | (with_reducible apply tru_d; walk_at "mem") | ((simp (discharger := assumption) only [sqOf, sqOf', rlOf, lsOf, tru, upM_same, upM_ne]) <;> rfl))
local macro_rules | `(tactic| walk_at "set") => `(tactic| (simp only [wipeD, List.set_cons_zero, List.set_cons_succ, List.set_nil]; rfl))
local macro_rules | `(tactic| walk_at "side") => `(tactic| first | omega | (simp only [List.length_map, List.length_cons, List.length_nil]; omega) | assumption | rfl | decide | exact ⟨by omega, by omega⟩ | exact Nat.le_of_ble_eq_true rfl)
local macro_rules | `(tactic| walk_at "head") => `(tactic| with_reducible conv => whnf)
local macro_rules | `(tactic| walk_at "step") => `(tactic| (walk_at "head"; first
  | ((with_reducible apply gN_go); (focus walk_at "set"))
  | ((with_reducible apply e1s); (focus rfl))
  | ((with_reducible apply e1); (focus walk_at "look"))
  | ((with_reducible apply e2); (focus walk_at "look"); (focus walk_at "look"))
  | ((with_reducible apply l1); (focus walk_at "look"))
  | ((with_reducible apply l2); (focus walk_at "look"); (focus walk_at "look"))
  | ((with_reducible apply e3); (focus walk_at "look"); (focus walk_at "look"); (focus walk_at "look"))
  | ((with_reducible apply e0a); (focus walk_at "look"))
  | ((with_reducible apply And.intro); (focus walk_at "side"))
  | ((with_reducible apply d1); (focus walk_at "look"))
  | ((with_reducible apply d2); (focus walk_at "look"); (focus walk_at "look"))
  | ((with_reducible apply d3); (focus walk_at "look"); (focus walk_at "look"); (focus walk_at "look"))
  | ((with_reducible apply d0); (focus walk_at "look"))
  | ((with_reducible apply lk1); (focus walk_at "look"))
  | with_reducible apply gw2_go
  | with_reducible apply gw3_go
  | with_reducible apply gs_go
  | with_reducible apply gt2_go
  | with_reducible apply gt3_go
  | with_reducible apply gt1_go
  | with_reducible apply gt4_go
  | with_reducible apply gt5_go
  | with_reducible apply gt6_go
  | with_reducible apply gt7_go
  | with_reducible apply gt8_go
  | with_reducible apply ift_go
  | with_reducible apply iff_go
  | ((with_reducible apply ifT_go); (focus rfl))
  | ((with_reducible apply ifF_go); (focus rfl))))
local macro_rules | `(tactic| walk_at "run") => `(tactic| (repeat walk_at "step"); walk_at "head")
local macro_rules | `(tactic| walk_at "start") => `(tactic| simp only [startD, List.map_cons, List.map_nil, List.length_cons, List.length_nil, List.replicate, List.cons_append, List.nil_append, Nat.reduceAdd, Nat.reduceSub, bodyK])
/-! ### an inner page without a child; a root that takes the place of an only child -/
def wo (cs : List (Option Int × Int)) (page : Int) : Option Ct := match cs.filter fun c => decide (c.2 ≠ page) with
  | [] => none
  | d :: r => some (.inner ((none, d.2) :: r))
def cn_wo : Cn := fun rs M R => ∃ cs page ct, rs = [.d (innerG cs), .i page] ∧ cs.length ≤ 1000 ∧ wo cs page = some ct ∧ R (.d ct.d) M
inductive Shr : Nat → Ps → List Shp → Prop
  | stop {st : Ps} {c : Ct} : lkC st 0 = some c → (∀ cs, c = .inner cs → cs.length ≠ 1) → Shr 0 st []
  | step {n : Nat} {st : Ps} {k : Option Int} {x : Int} {c : Ct} {more : List Shp} : lkC st 0 = some (.inner [(k, x)]) → lkC st x = some c → Shr n (layAll st [(0, some (.inner [(k, x)]), some c), (x, some c, none)]) more → Shr (n + 1) st ([(0, some (.inner [(k, x)]), some c), (x, some c, none)] ++ more)
theorem upM_aba {M : Mem} {c p : Addr} (h : c ≠ p) {A B A' : MO} : upM (upM (upM M c A) p B) c A' = upM (upM M c A') p B := by
  funext b; unfold upM
  by_cases hb : b = c
  · subst hb; simp [h]
  · simp [hb]
theorem upM_self {M : Mem} {c : Addr} {A : MO} (h : M c = some A) : upM M c A = M := by
  funext b; unfold upM
  by_cases hb : b = c
  · subst hb; simp [h]
  · simp [hb]
theorem dropC_lt {st : Ps} {n : Int} {c : Ct} (h : lkC st n = some c) : (dropC st n).length + 1 ≤ st.length := by
  have hm := lkC_mem h
  unfold dropC
  have : ((st.filter fun e => decide (e.1 ≠ n)).length) < st.length := by
    refine List.length_filter_lt_length_iff_exists.mpr ⟨_, hm, by simp⟩
  omega
theorem shr_len {st : Ps} {k : Option Int} {x : Int} {c : Ct} (h : lkC st 0 = some (.inner [(k, x)])) : (layAll st [(0, some (.inner [(k, x)]), some c), (x, some c, none)]).length ≤ st.length := by
  have h1 := dropC_lt h
  have h2 := dropC_len (dropC st 0 ++ [(0, c)]) x
  show (dropC (dropC st 0 ++ [(0, c)]) x).length ≤ _
  rw [List.length_append] at h2
  simp only [List.length_cons, List.length_nil] at h2
  omega
def cn_shr : Cn := fun rs M R => ∃ c st shs m n, rs = [.v (.ref c)] ∧ M c = some (memP st) ∧ PsB m st ∧ m ≤ 1000 ∧ Shr n st shs ∧ st.length + 2 * n ≤ 1000 ∧ R (.d (.list (shs.map shD))) (upM M c (memP (layAll st shs)))
section
variable {P : Program} {w : World} {K : PySem.W.Frag} {mg : Str → Option Value} {base : Heap}
theorem ok_wo (T : Tx K mg) {f : Addr} {fd : FuncData} (Fu : Fun K "without_child" "without_child" s_without_child f fd) : FnD P w K mg base 1 f fd ["content", "page"] cn_wo := by
  refine fnD_of Fu sc_without_child (fun rs M R h => ?_) fun cdv A outer s H hgd hr => ⟨_, (pdb_cons (pds_setLc 2 (own := [("child", 3)]) rfl sc_without_child.nd rfl rfl (sw_true rfl rfl rfl (by decide +kernel)) (pdi_seq (pd_ix (pd_var 0) pd_int)) (blkOk_by (N := N_without_child) (sc := defScope s_without_child) (by decide +kernel)) (fun _ _ _ _ _ => (pdgw_name 3 sc_without_child.nd)) (fun _ _ _ _ _ => (pdts_one (pdt_cmp (o_ne hr.units) (pd_ix (pd_var 3) pd_int) (pd_var 1) (nomark _)))) (fun _ _ _ _ _ => (pd_var 3)))
      (pdb_one (pds_ret (pd_tup (pda_cons (pd_gS (by rfl) T.c_INNER) (pda_cons (pd_tup (pda_cons (pd_tup (pda_cons pd_non (pda_cons (pd_ix (pd_ix (pd_var 2) pd_int) pd_int) pda_nil))) (pda_star (pd_slice (pd_var 2) (pdo_some pd_int) pdo_none) pda_nil))) pda_nil)))))), ?_⟩
  · obtain ⟨cs, page, ct, rfl, _⟩ := h
    rfl
  · rintro rs M R ⟨cs, page, ct, rfl, hl, hw, k⟩
    walk_at "start"
    walk_at "run"
    rw [← mapD_d]
    refine lc_fl cs (fun c => .d (chE c)) (fun c => decide (c.2 ≠ page)) chE trivial (by rw [sizeLine_eq]; omega) (fun c hc k1 k0 h1 h0 => ?_) ?_
    · obtain ⟨ky, x⟩ := c
      walk_at "run"
      apply if_go
      · intro hp
        walk_at "run"
        exact h1 (by simpa using hp)
      · intro hp
        exact h0 (by simpa using hp)
    refine e1 (datOf_map _) ?_
    unfold wo at hw
    cases e : cs.filter (fun c => decide (c.2 ≠ page)) with
    | nil => rw [e] at hw; cases hw
    | cons d r =>
      rw [e] at hw
      cases hw
      obtain ⟨ky, x⟩ := d
      have hf := List.length_filter_le (fun c : Option Int × Int => decide (c.2 ≠ page)) cs
      rw [e, List.length_cons] at hf
      walk_at "run"
      refine e2 rfl (by rw [cutA_from (by decide)]; exact datOf_map _) ?_
      refine e2 rfl (datOf_map _) ?_
      walk_at "run"
      refine e1 (by rw [List.append_nil]; exact datOf_map (.tuple [.none, .int x] :: (List.drop (Int.toNat 1) (((ky, x) :: r).map chE)))) ⟨by simp [sizeLine_eq]; omega, ?_⟩
      walk_at "run"
      exact upR.of k
theorem ok_shr (T : Tx K mg) (H_lay_shapes : Has P w K mg base 1 "lay_shapes" s_lay_shapes ["contents", "shapes"] cn_lay) {f : Addr} {fd : FuncData} (Fu : Fun K "shrinking" "shrinking" s_shrinking f fd) : FnD P w K mg base 2 f fd ["contents"] cn_shr := by
  refine fnD_of Fu sc_shrinking (fun rs M R h => ?_) fun cdv A outer s H hgd hr => ⟨_, (pdb_cons (pds_set 1 sc_shrinking.nd (pd_lstM pda_nil))
      (pdb_cons (pds_while PassesOwn.never (PDW.t (pdw_and (pdt_cmp (o_eq hr.units) (pd_ix (pd_dget (hu_of hr) (pd_var 0) (pd_gI (by rfl) T.c_ROOT)) pd_int) (pd_gS (by rfl) T.c_INNER) (nomark _)) (pdw_and1 (pdt_cmp (o_eq hr.units) (pd_callB c_len (by rfl) T.z_len (by decide +kernel) (pda_cons (pd_ix (pd_dget (hu_of hr) (pd_var 0) (pd_gI (by rfl) T.c_ROOT)) pd_int) pda_nil)) pd_int (nomark _))))) (pdb_cons (pds_par 3 4 rfl sc_shrinking.nd (by decide) (pda_cons (pd_dget (hu_of hr) (pd_var 0) (pd_gI (by rfl) T.c_ROOT)) (pda_cons (pd_ix (pd_ix (pd_ix (pd_dget (hu_of hr) (pd_var 0) (pd_gI (by rfl) T.c_ROOT)) pd_int) pd_int) pd_int) pda_nil)))
      (pdb_cons (pds_set 2 sc_shrinking.nd (pd_lst (pda_cons (pd_tup (pda_cons (pd_gI (by rfl) T.c_ROOT) (pda_cons (pd_var 3) (pda_cons (pd_dget (hu_of hr) (pd_var 0) (pd_var 4)) pda_nil)))) (pda_cons (pd_tup (pda_cons (pd_var 4) (pda_cons (pd_dget (hu_of hr) (pd_var 0) (pd_var 4)) (pda_cons (pd_gD (by rfl) T.c_FREE) pda_nil)))) pda_nil))))
      (pdb_cons (pds_expr (pd_fn H_lay_shapes hgd (hr.mono (by first | decide | omega)) (by rfl) (pda_cons (pd_var 0) (pda_cons (pd_var 2) pda_nil))))
      (pdb_one (pds_expr (pd_extend (pd_var 1) (pda_cons (pd_var 2) pda_nil))))))))
      (pdb_one (pds_ret (pd_var 1))))), ?_⟩
  · obtain ⟨c, st, shs, m, n, rfl, _⟩ := h
    rfl
  · rintro rs M R ⟨c, st, shs, m, n, rfl, hc, hb, hm, hs, hl, k⟩
    walk_at "start"
    walk_at "run"
    intro p hp
    have hcp : c ≠ p := neM hc hp
    walk_at "run"
    refine while_ind1 (n := n) (fun n dl M' => ∃ (st' : Ps) (done more : List Shp) (x2 x3 x4 : Option Sl), Shr n st' more ∧ done ++ more = shs ∧ layAll st done = st' ∧ PsB m st' ∧ st'.length + 2 * n ≤ 1000 ∧ done.length + 2 * n ≤ 1000 ∧ M' = upM (upM M c (memP st')) p (.lst (shS done)) ∧ dl = [some (.v (.ref c)), some (.v (.ref p)), x2, x3, x4]) ?_ ?_ ⟨st, [], shs, _, _, _, hs, rfl, rfl, hb, hl, ?_, ?_, rfl⟩
    · rintro nx _ _ ⟨st', done, more, x2, x3, x4, hs, ed, el, hb, hl, dl, rfl, rfl⟩
      cases hs with
      | @stop _ ct h1 h2 =>
        rw [List.append_nil] at ed
        subst ed
        have hv : valS (stS (psD st')) (.inl 0) = some (.d ct.d) := by rw [valS_ps, h1]; rfl
        have mc : upM (upM M c (memP st')) p (.lst (shS done)) c = some (memP st') := by rw [upM_ne hcp]; exact upM_same
        have fin : upR R (Sl.v (V.ref p)) (upM (upM M c (memP st')) p (MO.lst (shS done))) := by
          have np : upM M c (memP st') p = none := by rw [upM_ne (Ne.symm hcp)]; exact hp
          refine ⟨_, _, Vw.frz (ds := done.map shD) upM_same (le_new np) np, ?_⟩
          rw [← el]; exact k
        cases ct with
        | leaf es =>
          walk_at "run"
          exact fin
        | inner cs =>
          have h3 := h2 cs rfl
          walk_at "run"
          apply ifF_go
          · rw [List.length_map, List.length_map]; exact decide_eq_false (by omega)
          walk_at "run"
          exact fin
    · rintro n nx _ _ hnx ⟨st', done, more, x2, x3, x4, hs, ed, el, hb, hl, dl, rfl, rfl⟩
      cases hs with
      | @step _ _ ky x ct mo h1 h2 h3 =>
        have hv : valS (stS (psD st')) (.inl 0) = some (.d (Ct.inner [(ky, x)]).d) := by rw [valS_ps, h1]; rfl
        have hv2 : valS (stS (psD st')) (.inl x) = some (.d ct.d) := by rw [valS_ps, h2]; rfl
        have mc : upM (upM M c (memP st')) p (.lst (shS done)) c = some (memP st') := by rw [upM_ne hcp]; exact upM_same
        have hb0 := hb _ (lkC_mem h1)
        have hbx := hb _ (lkC_mem h2)
        have hsh : ∀ s ∈ [((0 : Int), some (Ct.inner [(ky, x)]), some ct), (x, some ct, none)], ShB m s := by
          intro s hs
          simp only [List.mem_cons, List.not_mem_nil, or_false] at hs
          rcases hs with rfl | rfl
          · exact ⟨hb0.1, hb0.2.some, hbx.2.some⟩
          · exact ⟨hbx.1, hbx.2.some, .none⟩
        generalize esh : [((0 : Int), some (Ct.inner [(ky, x)]), some ct), (x, some ct, (none : Option Ct))] = sh at h3 ed hsh
        have shl : sh.length = 2 := by rw [← esh]; rfl
        have hll : (layAll st' sh).length ≤ st'.length := by rw [← esh]; exact shr_len h1
        walk_at "run"
        refine ⟨c, st', sh, false, m, by rw [← esh]; rfl, mc, hsh, hm, by omega, ?_⟩
        rw [upM_aba hcp]
        have eds : PyData.list [PyData.tuple [PyData.int 0, (Ct.inner [(ky, x)]).d, ct.d], PyData.tuple [PyData.int x, ct.d, PyData.tuple [PyData.str (Str.ofString "free")]]] = PyData.list (sh.map shD) := by rw [← esh]; rfl
        rw [eds]
        walk_at "run"
        refine ⟨by rw [shS, List.length_map, List.length_map, sizeLine_eq]; simp; omega, ?_⟩
        refine hnx _ _ ⟨layAll st' sh, done ++ sh, mo, _, _, _, h3, by rw [List.append_assoc]; exact ed, ?_, hb.lay hsh, by omega, by rw [List.length_append]; omega, ?_, rfl⟩
        · rw [← el]; unfold layAll; rw [List.foldl_append]
        · rw [upM_upM, shS, shS, List.map_append, List.map_append]
    · show 0 + _ ≤ _; omega
    · rw [upM_self hc]; rfl
end
end LW

set_option Elab.async false
set_option linter.all false
set_option maxRecDepth 100000
set_option maxHeartbeats 4000000
namespace LW
open PySem PySem.Spec L2 DL
local macro_rules | `(tactic| walk_at "mem") => `(tactic| ((repeat rw [upM_ne (by assumption)]); first | exact upM_same | assumption))
local macro_rules | `(tactic| walk_at "look") => `(tactic| first | rfl | assumption | exact atI_map0 | exact atI_map1 | walk_at "mem" | (with_reducible apply lsOf_m; walk_at "mem") | (with_reducible apply sqOf_m; walk_at "mem") | (with_reducible apply rlOf_m; walk_at "mem") | (with_reducible apply sqOf'_m; walk_at "mem") | (with_reducible apply tru_l; walk_at "mem") | (with_reducible apply tru_d; walk_at "mem") | ((simp (discharger := assumption) only [sqOf, sqOf', rlOf, lsOf, tru, upM_same, upM_ne]) <;> rfl))
local macro_rules | `(tactic| walk_at "set") => `(tactic| (simp only [wipeD, List.set_cons_zero, List.set_cons_succ, List.set_nil]; rfl))
local macro_rules | `(tactic| walk_at "side") => `(tactic| first | omega | (simp only [List.length_map, List.length_cons, List.length_nil]; omega) | assumption | rfl | decide | exact ⟨by omega, by omega⟩ | exact Nat.le_of_ble_eq_true rfl)
local macro_rules | `(tactic| walk_at "head") => `(tactic| with_reducible conv => whnf)
local macro_rules | `(tactic| walk_at "step") => `(tactic| (walk_at "head"; first
  | ((with_reducible apply gN_go); (focus walk_at "set"))
  | ((with_reducible apply e1s); (focus rfl))
  | ((with_reducible apply e1); (focus walk_at "look"))
  | ((with_reducible apply e2); (focus walk_at "look"); (focus walk_at "look"))
  | ((with_reducible apply l1); (focus walk_at "look"))
  | ((with_reducible apply l2); (focus walk_at "look"); (focus walk_at "look"))
  | ((with_reducible apply e3); (focus walk_at "look"); (focus walk_at "look"); (focus walk_at "look"))
  | ((with_reducible apply e0a); (focus walk_at "look"))
  | ((with_reducible apply And.intro); (focus walk_at "side"))
  | ((with_reducible apply d1); (focus walk_at "look"))
  | ((with_reducible apply d2); (focus walk_at "look"); (focus walk_at "look"))
  | ((with_reducible apply d3); (focus walk_at "look"); (focus walk_at "look"); (focus walk_at "look"))
  | ((with_reducible apply d0); (focus walk_at "look"))
  | ((with_reducible apply lk1); (focus walk_at "look"))
  | with_reducible apply gw2_go
  | with_reducible apply gw3_go
  | with_reducible apply gs_go
  | with_reducible apply gt2_go
  | with_reducible apply gt3_go
  | with_reducible apply gt1_go
  | with_reducible apply gt4_go
  | with_reducible apply gt5_go
  | with_reducible apply gt6_go
  | with_reducible apply gt7_go
  | with_reducible apply gt8_go
  | with_reducible apply ift_go
  | with_reducible apply iff_go
  | ((with_reducible apply ifT_go); (focus rfl))
  | ((with_reducible apply ifF_go); (focus rfl))))
local macro_rules | `(tactic| walk_at "run") => `(tactic| (repeat walk_at "step"); walk_at "head")
local macro_rules | `(tactic| walk_at "start") => `(tactic| simp only [startD, List.map_cons, List.map_nil, List.length_cons, List.length_nil, List.replicate, List.cons_append, List.nil_append, Nat.reduceAdd, Nat.reduceSub, bodyK])
/-! ### a leaf without entries is freed -/
def goneS (st : Ps) (xs : List Int) : List Shp := xs.map fun b => (b, lkC st b, none)
structure FreeE (st : Ps) (page : Int) (a : Nat) (ts : List Int) (cs : List (Option Int × Int)) (pr ch : Int) (wd : Ct) (n : Nat) (more : List Shp) : Prop where
  ne : page ≠ 0
  lf : lkC st page = some (.leaf [])
  up : Up st page ts
  a1 : 1 ≤ a
  a2 : a < ts.length
  one : ∀ j, a ≤ j → j + 1 < ts.length → ∃ x ct, ts[j]? = some x ∧ lkC st x = some ct ∧ ct.len = 1
  fin : a = 1 ∨ cs.length ≠ 1
  pa : ts[a - 1]? = some pr
  cc : lkC st pr = some (.inner cs)
  at1 : ts[a]? = some ch
  wo : wo cs ch = some wd
  here : ∀ b ∈ ts.drop a, ∃ c, lkC st b = some c
  shr : Shr n (layAll st ((pr, some (.inner cs), some wd) :: goneS st (ts.drop a))) more
theorem atI_D {ts : List Int} {i : Int} {j : Nat} {x : Int} (h0 : 0 ≤ i) (hj : i.toNat = j) (h : ts[j]? = some x) : atI ((ts.map PyData.int).map Sl.d) i = some (Sl.i x) :=
  atI_int (x := Sl.i x) h0 (by rw [hj, List.getElem?_map, List.getElem?_map, h]; rfl)
theorem wo_b {m : Nat} {cs : List (Option Int × Int)} {x : Int} {w : Ct} (h : CtB m (.inner cs)) (hw : wo cs x = some w) : CtB m w := by
  cases h with
  | inner hl hc =>
    unfold wo at hw
    have hf := List.length_filter_le (fun c : Option Int × Int => decide (c.2 ≠ x)) cs
    have hm : ∀ d ∈ cs.filter (fun c => decide (c.2 ≠ x)), d ∈ cs := fun d hd => (List.mem_filter.mp hd).1
    cases e : cs.filter (fun c => decide (c.2 ≠ x)) with
    | nil => rw [e] at hw; cases hw
    | cons d r =>
      rw [e] at hw hm hf
      cases hw
      rw [List.length_cons] at hf
      refine .inner (by rw [List.length_cons]; omega) fun c hc2 => ?_
      rcases List.mem_cons.mp hc2 with rfl | hc2
      · exact ⟨(fun k hk => by cases hk), (hc _ (hm _ List.mem_cons_self)).2⟩
      · exact hc c (hm _ (List.mem_cons_of_mem _ hc2))
def cn_layM : Cn := fun rs M R => ∃ c q st shs m, rs = [.v (.ref c), .v (.ref q)] ∧ M c = some (memP st) ∧ M q = some (.lst (shS shs)) ∧ (∀ s ∈ shs, ShB m s) ∧ m ≤ 1000 ∧ st.length + shs.length ≤ 100000 ∧ R .n (upM M c (memP (layAll st shs)))
def cn_freeing_in : Cn := fun rs M R => ∃ c st page a ts cs pr ch wd n more, rs = [.v (.ref c), .i page] ∧ M c = some (memP st) ∧ PsB 4 st ∧ st.length ≤ 300 ∧ ((kids st).map (·.1)).Nodup ∧ (kids st).length ≤ 10000 ∧ ts.length ≤ 100 ∧ n ≤ 100 ∧ FreeE st page a ts cs pr ch wd n more ∧ more.length ≤ 1000 ∧
  R (.d (.list (((pr, some (.inner cs), some wd) :: goneS st (ts.drop a) ++ more).map shD))) M
section
variable {P : Program} {w : World} {K : PySem.W.Frag} {mg : Str → Option Value} {base : Heap}
/-- lay_shapes of a list in memory -/
theorem ok_layM (T : Tx K mg) {f : Addr} {fd : FuncData} (Fu : Fun K "lay_shapes" "lay_shapes" s_lay_shapes f fd) : FnD P w K mg base 1 f fd ["contents", "shapes"] cn_layM := by
  refine fnD_of Fu sc_lay_shapes (fun rs M R h => ?_) fun cdv A outer s H hgd hr => ⟨_, (pdb_one (pds_for PassesOwn.never rfl (pdi_seq (pd_var 1)) (pdg_tup (n := 3) rfl (pdgs_cons (pdg_name 2 sc_lay_shapes.nd) (pdgs_cons (pdg_name 3 sc_lay_shapes.nd) (pdgs_cons (pdg_name 4 sc_lay_shapes.nd) pdgs_nil)))) (pdb_cons (pds_expr (pd_dpop2 (pd_var 0) (pd_var 2) pd_non))
      (pdb_one (pds_if (pdt_cmp (o_ne hr.units) (pd_var 4) (pd_gD (by rfl) T.c_FREE) (nomark _)) (pdb_one (pds_dput (hu_of hr) (pd_var 0) (pd_var 2) (pd_var 4))) pdb_nil))))), ?_⟩
  · obtain ⟨c, q, st, shs, m, rfl, _⟩ := h
    rfl
  · rintro rs M R ⟨c, q, st, shs, m, rfl, hc, hq, hb, hm, hl, k⟩
    have hqc : q ≠ c := fun e => by subst e; rw [hc] at hq; cases hq
    walk_at "start"
    walk_at "run"
    refine for_ind (fun rest dl M' => ∃ (rs : List Shp) (st' : Ps) (x1 x2 x3 x4 : Option Sl), rest = (rs.map shD).map Sl.d ∧ (∀ s ∈ rs, ShB m s) ∧ M' = upM M c (memP st') ∧ st'.length + rs.length ≤ 100000 ∧ layAll st' rs = layAll st shs ∧ dl = [some (.v (.ref c)), x1, x2, x3, x4]) ?_ ?_ ⟨shs, st, _, _, _, _, rfl, hb, (upM_self hc).symm, hl, rfl, rfl⟩
    · rintro _ _ ⟨rs, st', x1, x2, x3, x4, e0, _, rfl, _, el, rfl⟩
      have : rs = [] := by cases rs with | nil => rfl | cons _ _ => cases e0
      subst this
      refine ⟨by rw [upM_ne hqc]; exact hq, upR.of ?_⟩
      rw [show st' = layAll st shs from el]
      exact k
    · rintro x xs nx _ _ hnx ⟨rs, st', x1, x2, x3, x4, e0, hrs, rfl, hl', el, rfl⟩
      obtain ⟨s, r, rfl⟩ : ∃ s r, rs = s :: r := by cases rs with | nil => cases e0 | cons a b => exact ⟨a, b, rfl⟩
      rw [List.map_cons, List.map_cons] at e0
      cases e0
      rw [List.length_cons] at hl'
      refine ⟨by rw [upM_ne hqc]; exact hq, ?_⟩
      obtain ⟨n, bf, af⟩ := s
      have hs := hrs _ List.mem_cons_self
      have ll := layC_len st' (n, bf, af)
      have sf := shaped_free2
      walk_at "run"
      rw [upM_upM, drop_ps]
      cases af with
      | none =>
        walk_at "run"
        exact hnx _ _ ⟨r, dropC st' n, _, _, _, _, rfl, fun s hs => hrs s (List.mem_cons_of_mem _ hs), rfl, by have := dropC_len st' n; omega, el, rfl⟩
      | some ct =>
        have sh := ((hs.2.2 ct rfl).sm).shaped (by omega) (by omega)
        have nf := ct.not_free
        have hp := put_ps n ct st'
        have hd := dropC_len st' n
        obtain ⟨wd, ys, ex⟩ := ct.two
        have ec : ctD (some ct) = .tuple [.str wd, .tuple ys] := ex
        rw [ex] at sh nf hp
        rw [ec]
        walk_at "run"
        apply ifT_go
        · rw [nf]; rfl
        walk_at "run"
        refine ⟨by rw [List.length_map, List.length_map, sizeLine_eq]; omega, ?_⟩
        rw [upM_upM, hp]
        exact hnx _ _ ⟨r, dropC st' n ++ [(n, ct)], _, _, _, _, rfl, fun s hs => hrs s (List.mem_cons_of_mem _ hs), rfl, by rw [List.length_append, List.length_singleton]; omega, el, rfl⟩
theorem ok_freeing_in (T : Tx K mg) (H_content_in : Has P w K mg base 1 "content_in" s_content_in ["contents", "page"] cn_content) (H_way_to : Has P w K mg base 1 "way_to" s_way_to ["contents", "page"] cn_way_to) (H_without_child : Has P w K mg base 1 "without_child" s_without_child ["content", "page"] cn_wo)
    (H_lay_shapes : Has P w K mg base 1 "lay_shapes" s_lay_shapes ["contents", "shapes"] cn_layM) (H_shrinking : Has P w K mg base 2 "shrinking" s_shrinking ["contents"] cn_shr) {f : Addr} {fd : FuncData} (Fu : Fun K "freeing_in" "freeing_in" s_freeing_in f fd) : FnD P w K mg base 4 f fd ["contents", "page"] cn_freeing_in := by
  refine fnD_of Fu sc_freeing_in (fun rs M R h => ?_) fun cdv A outer s H hgd hr => ⟨_, (pdb_cons (pds_if (PDW.t (pdw_or (pdt_cmp (o_eq hr.units) (pd_var 1) (pd_gI (by rfl) T.c_ROOT) (nomark _)) (pdw_or1 (pdt_cmp (o_ne hr.units) (pd_fn H_content_in hgd (hr.mono (by first | decide | omega)) (by rfl) (pda_cons (pd_var 0) (pda_cons (pd_var 1) pda_nil))) (pd_tup (pda_cons (pd_gS (by rfl) T.c_LEAF) (pda_cons (pd_tup pda_nil) pda_nil))) (nomark _))))) (pdb_one pds_raise) pdb_nil)
      (pdb_cons (pds_set 2 sc_freeing_in.nd (pd_fn H_way_to hgd (hr.mono (by first | decide | omega)) (by rfl) (pda_cons (pd_var 0) (pda_cons (pd_var 1) pda_nil))))
      (pdb_cons (pds_set 3 sc_freeing_in.nd (pd_op o_sub (pd_callB c_len (by rfl) T.z_len (by decide +kernel) (pda_cons (pd_var 2) pda_nil)) pd_int))
      (pdb_cons (pds_while PassesOwn.never (PDW.t (pdw_and (pdt_cmp o_gt (pd_var 3) pd_int (nomark _)) (pdw_and1 (pdt_cmp (o_eq hr.units) (pd_callB c_len (by rfl) T.z_len (by decide +kernel) (pda_cons (pd_ix (pd_dget (hu_of hr) (pd_var 0) (pd_ix (pd_var 2) (pd_op o_sub (pd_var 3) pd_int))) pd_int) pda_nil)) pd_int (nomark _))))) (pdb_one (pds_augI 3 (f := fun a b => a - b) sc_freeing_in.nd pd_int ip_sub (fun a b H Q h => ⟨a, b, rfl, rfl, h⟩))))
      (pdb_cons (pds_set 4 sc_freeing_in.nd (pd_ix (pd_var 2) (pd_op o_sub (pd_var 3) pd_int)))
      (pdb_cons (pds_set 5 sc_freeing_in.nd (pd_lstM (pda_cons (pd_tup (pda_cons (pd_var 4) (pda_cons (pd_dget (hu_of hr) (pd_var 0) (pd_var 4)) (pda_cons (pd_fn H_without_child hgd (hr.mono (by first | decide | omega)) (by rfl) (pda_cons (pd_dget (hu_of hr) (pd_var 0) (pd_var 4)) (pda_cons (pd_ix (pd_var 2) (pd_var 3)) pda_nil))) pda_nil)))) pda_nil)))
      (pdb_cons (pds_expr (pd_extend (pd_var 5) (pda_cons (pd_lc (own := [("below", 7)]) rfl sc_freeing_in.nd (pdi_seq (pd_slice (pd_var 2) (pdo_some (pd_var 3)) pdo_none)) (blkOk_by (N := N_freeing_in) (sc := defScope s_freeing_in) (by decide +kernel)) (fun _ _ _ _ _ => (pdgw_name 7 sc_freeing_in.nd)) (fun _ _ _ _ _ => pdts_nil) (fun _ _ _ _ _ => (pd_tup (pda_cons (pd_var 7) (pda_cons (pd_dget (hu_of hr) (pd_var 0) (pd_var 7)) (pda_cons (pd_gD (by rfl) T.c_FREE) pda_nil)))))) pda_nil)))
      (pdb_cons (pds_set 6 sc_freeing_in.nd (pd_callT c_dictD (by rfl) T.z_dict (by decide +kernel) (pda_cons (pd_var 0) pda_nil)))
      (pdb_cons (pds_expr (pd_fn H_lay_shapes hgd (hr.mono (by first | decide | omega)) (by rfl) (pda_cons (pd_var 6) (pda_cons (pd_var 5) pda_nil))))
      (pdb_one (pds_ret (pd_op o_plus (pd_var 5) (pd_fn H_shrinking hgd (hr.mono (by first | decide | omega)) (by rfl) (pda_cons (pd_var 6) pda_nil)))))))))))))), ?_⟩
  · obtain ⟨c, st, page, a, ts, cs, pr, ch, wd, n, more, rfl, _⟩ := h
    rfl
  · rintro rs M R ⟨c, st, page, a, ts, cs, pr, ch, wd, n, more, rfl, hc, hb, hl, nd, kl, tl, hn, hf, ml, k⟩
    have hne := hf.ne
    have lf := hf.lf
    have sl := Sm.shaped (b := 420) (d := 4) (by simpa using (CtB.leaf (m := 4) (es := []) (by simp) (by simp)).sm) (by omega) (by omega)
    walk_at "start"
    walk_at "run"
    apply ifF_go
    · exact decide_eq_false hne
    walk_at "run"
    refine ⟨c, page, psD st, rfl, hc, ?_⟩
    rw [lkC_to lf]
    walk_at "run"
    refine ⟨sl, sl, ?_⟩
    walk_at "head"
    apply ifF_go
    · show (!PyData.eqv (Ct.leaf []).d (Ct.leaf []).d) = false
      simp [Ct.d, PyData.eqv, PyData.eqvAll]
    walk_at "run"
    refine ⟨c, st, page, ts, rfl, hc, fun e he => by have := (hb e he).2.len; omega, nd, kl, hf.up, by omega, ?_⟩
    walk_at "run"
    refine while_cut (fun dl M' => M' = M ∧ dl = [some (.v (.ref c)), some (.i page), some (.d (intD ts)), some (.i (a : Nat)), none, none, none, none]) ?_ fun nx' hnx' => ?_
    · rintro _ M0 ⟨rfl, rfl⟩
      rename Mem => M
      walk_at "run"
      have a1 := hf.a1
      have a2 := hf.a2
      have hvp : valS (stS (psD st)) (.inl pr) = some (.d (Ct.inner cs).d) := by rw [valS_ps, hf.cc]; rfl
      refine e2 rfl (atI_D (j := a - 1) (by omega) (by omega) hf.pa) ?_
      walk_at "run"
      refine e2 rfl (atI_D (j := a) (by omega) (by omega) hf.at1) ?_
      walk_at "run"
      refine ⟨cs, ch, wd, rfl, ?_, hf.wo, ?_⟩
      · have : (Ct.inner cs).len ≤ 4 := (hb _ (lkC_mem hf.cc)).2.len
        show cs.length ≤ _
        have h2 : cs.length ≤ 4 := this
        omega
      walk_at "run"
      intro p hp
      walk_at "run"
      refine e2 rfl (by rw [cutA_from (by omega), ← List.map_drop, ← List.map_drop]; exact datOf_map _) ?_
      walk_at "run"
      rw [show ((a : Nat) : Int).toNat = a by omega, ← mapD_d]
      have mc := keep (u := .lst [.d (shD (pr, some (.inner cs), some wd))]) hc hp
      have mp : upM M p (.lst [.d (shD (pr, some (.inner cs), some wd))]) p = some (.lst (shS [(pr, some (.inner cs), some wd)])) := upM_same
      have le : Le M (upM M p (.lst [.d (shD (pr, some (.inner cs), some wd))])) := le_new hp
      show lcGo _ _ _ _ _ _ _ _ (upM M p (.lst [.d (shD (pr, some (.inner cs), some wd))]))
      generalize upM M p (.lst [.d (shD (pr, some (.inner cs), some wd))]) = M1 at mc mp le ⊢
      refine lc_m (ts.drop a) _ (fun b => .d (shD (b, lkC st b, none))) trivial (by rw [sizeLine_eq, List.length_drop]; omega) (fun b hbm k1 k0 h => ?_) ?_
      · obtain ⟨ct, hct⟩ := hf.here b hbm
        have hv : valS (stS (psD st)) (.inl b) = some (.d ct.d) := by rw [valS_ps, hct]; rfl
        rw [hct] at h
        walk_at "run"
        exact h
      · rw [mapD_d]
        refine e1 (datOf_map _) ?_
        walk_at "run"
        refine ⟨by rw [List.length_map, List.length_drop, sizeLine_eq]; simp [shS]; omega, ?_⟩
        have hsh : shS [(pr, some (Ct.inner cs), some wd)] ++ List.map Sl.d (List.map (fun b => shD (b, lkC st b, none)) (List.drop a ts)) = shS ((pr, some (Ct.inner cs), some wd) :: goneS st (ts.drop a)) := by
          unfold shS goneS
          simp [List.map_map, Function.comp_def]
        rw [hsh]
        have shl : ((pr, some (Ct.inner cs), some wd) :: goneS st (ts.drop a)).length ≤ 101 := by
          unfold goneS; rw [List.length_cons, List.length_map, List.length_drop]; omega
        have hbs : ∀ s ∈ (pr, some (Ct.inner cs), some wd) :: goneS st (ts.drop a), ShB 4 s := by
          have hbp := hb _ (lkC_mem hf.cc)
          intro s hs
          rcases List.mem_cons.mp hs with rfl | hs
          · exact ⟨hbp.1, hbp.2.some, (wo_b hbp.2 hf.wo).some⟩
          · obtain ⟨b, hbm, rfl⟩ := List.mem_map.mp hs
            obtain ⟨ct, hct⟩ := hf.here b hbm
            have hbb := hb _ (lkC_mem hct)
            rw [hct]
            exact ⟨hbb.1, hbb.2.some, .none⟩
        have hsr := hf.shr
        generalize (pr, some (Ct.inner cs), some wd) :: goneS st (ts.drop a) = shs at k shl hbs hsr ⊢
        have hcp : c ≠ p := neM hc hp
        have mc : upM M1 p (.lst (shS shs)) c = some (memP st) := by rw [upM_ne hcp]; exact mc
        have mp2 : upM M1 p (.lst (shS shs)) p = some (.lst (shS shs)) := upM_same
        have le : Le M (upM M1 p (.lst (shS shs))) := le.up hp
        generalize upM M1 p (.lst (shS shs)) = M2 at mc mp2 le ⊢
        walk_at "run"
        intro wk hwk
        have nwk : M wk = none := none_le le hwk
        have mp3 := keep (u := memP st) mp2 hwk
        have mwk : upM M2 wk (memP st) wk = some (memP st) := upM_same
        have le : Le M (upM M2 wk (memP st)) := le.up nwk
        have hpw : p ≠ wk := neM mp2 hwk
        generalize upM M2 wk (memP st) = M3 at mp3 mwk le ⊢
        walk_at "run"
        refine ⟨wk, p, st, shs, 4, rfl, mwk, mp3, hbs, by omega, by omega, ?_⟩
        have mp4 : upM M3 wk (memP (layAll st shs)) p = some (.lst (shS shs)) := by rw [upM_ne hpw]; exact mp3
        have mw4 : upM M3 wk (memP (layAll st shs)) wk = some (memP (layAll st shs)) := upM_same
        have le4 : Le M (upM M3 wk (memP (layAll st shs))) := le.up nwk
        generalize upM M3 wk (memP (layAll st shs)) = M4 at mp4 mw4 le4 ⊢
        have ll := layAll_len shs st
        walk_at "run"
        refine ⟨wk, layAll st shs, more, 4, n, rfl, mw4, hb.lay hbs, by omega, hsr, by omega, ?_⟩
        have mp5 : upM M4 wk (memP (layAll (layAll st shs) more)) p = some (.lst (shS shs)) := by rw [upM_ne hpw]; exact mp4
        have le5 : Le M (upM M4 wk (memP (layAll (layAll st shs) more))) := le4.up nwk
        generalize upM M4 wk (memP (layAll (layAll st shs) more)) = M5 at mp5 le5 ⊢
        walk_at "run"
        refine ⟨_, _, _, lsOf_m mp5, rfl, by rw [shS, ← List.map_append, ← List.map_append]; exact datOf_map _, by rw [shS, List.length_map, List.length_map, List.length_map, List.length_map, sizeLine_eq]; omega, ?_⟩
        exact upR.le k le5
    · have a1 := hf.a1
      have a2 := hf.a2
      refine while_ind1 (n := ts.length - 1 - a) (fun n dl M' => ∃ i : Nat, i = a + n ∧ i < ts.length ∧ M' = M ∧ dl = [some (.v (.ref c)), some (.i page), some (.d (intD ts)), some (.i (i : Nat)), none, none, none, none]) ?_ ?_ ⟨ts.length - 1, by omega, by omega, rfl, ?_⟩
      · rintro nx _ _ ⟨i, hi, hi2, rfl, rfl⟩
        have hia : i = a := by omega
        subst hia
        walk_at "run"
        apply ifd_go
        · intro h1
          have hv : valS (stS (psD st)) (.inl pr) = some (.d (Ct.inner cs).d) := by rw [valS_ps, hf.cc]; rfl
          walk_at "run"
          refine e2 rfl (atI_D (j := i - 1) (by omega) (by omega) hf.pa) ?_
          walk_at "run"
          apply ifF_go
          · rw [List.length_map, List.length_map]; exact decide_eq_false (by have := hf.fin; omega)
          exact hnx' _ _ ⟨rfl, rfl⟩
        · intro _
          exact hnx' _ _ ⟨rfl, rfl⟩
      · rintro n' nx _ _ hnx ⟨i, hi, hi2, rfl, rfl⟩
        obtain ⟨x, ct, hx, hct, hl1⟩ := hf.one (i - 1) (by omega) (by omega)
        have hv : valS (stS (psD st)) (.inl x) = some (.d ct.d) := by rw [valS_ps, hct]; rfl
        walk_at "run"
        apply ifT_go
        · exact decide_eq_true (by omega)
        cases ct with
        | leaf es =>
          walk_at "run"
          refine e2 rfl (atI_D (j := i - 1) (by omega) (by omega) hx) ?_
          walk_at "run"
          apply ifT_go
          · rw [List.length_map, List.length_map]; exact decide_eq_true (by have : es.length = 1 := hl1; omega)
          walk_at "run"
          exact hnx _ _ ⟨i - 1, by omega, by omega, rfl, by show [_, _, _, some (Sl.i ((i : Int) - 1)), _, _, _, _] = _; rw [show ((i : Int) - 1) = ((i - 1 : Nat) : Int) by omega]⟩
        | inner cs' =>
          walk_at "run"
          refine e2 rfl (atI_D (j := i - 1) (by omega) (by omega) hx) ?_
          walk_at "run"
          apply ifT_go
          · rw [List.length_map, List.length_map]; exact decide_eq_true (by have : cs'.length = 1 := hl1; omega)
          walk_at "run"
          exact hnx _ _ ⟨i - 1, by omega, by omega, rfl, by show [_, _, _, some (Sl.i ((i : Int) - 1)), _, _, _, _] = _; rw [show ((i : Int) - 1) = ((i - 1 : Nat) : Int) by omega]⟩
      · rw [List.length_map, List.length_map, show (((ts.length : Nat) : Int) - 1) = ((ts.length - 1 : Nat) : Int) by omega]
end
end LW

set_option Elab.async false
set_option linter.all false
set_option maxRecDepth 100000
set_option maxHeartbeats 4000000
namespace LW
open PySem PySem.Spec L2 DL
local macro_rules | `(tactic| walk_at "mem") => `(tactic| ((repeat rw [upM_ne (by assumption)]); first | exact upM_same | assumption))
local macro_rules | `(tactic| walk_at "look") => `(tactic| first | rfl | assumption | exact atI_map0 | exact atI_map1 | walk_at "mem" | (with_reducible apply lsOf_m; walk_at "mem") | (with_reducible apply sqOf_m; walk_at "mem") | (with_reducible apply rlOf_m; walk_at "mem") | (with_reducible apply sqOf'_m; walk_at "mem") | (with_reducible apply tru_l; walk_at "mem") | (with_reducible apply tru_d; walk_at "mem") | ((simp (discharger := assumption) only [sqOf, sqOf', rlOf, lsOf, tru, upM_same, upM_ne]) <;> rfl))
local macro_rules | `(tactic| walk_at "set") => `(tactic| (simp only [wipeD, List.set_cons_zero, List.set_cons_succ, List.set_nil]; rfl))
local macro_rules | `(tactic| walk_at "side") => `(tactic| first | omega | (simp only [List.length_map, List.length_cons, List.length_nil]; omega) | assumption | rfl | decide | exact ⟨by omega, by omega⟩ | exact Nat.le_of_ble_eq_true rfl)
local macro_rules | `(tactic| walk_at "head") => `(tactic| with_reducible conv => whnf)
local macro_rules | `(tactic| walk_at "step") => `(tactic| (walk_at "head"; first
  | ((with_reducible apply gN_go); (focus walk_at "set"))
  | ((with_reducible apply e1s); (focus rfl))
  | ((with_reducible apply e1); (focus walk_at "look"))
  | ((with_reducible apply e2); (focus walk_at "look"); (focus walk_at "look"))
  | ((with_reducible apply l1); (focus walk_at "look"))
  | ((with_reducible apply l2); (focus walk_at "look"); (focus walk_at "look"))
  | ((with_reducible apply e3); (focus walk_at "look"); (focus walk_at "look"); (focus walk_at "look"))
  | ((with_reducible apply e0a); (focus walk_at "look"))
  | ((with_reducible apply And.intro); (focus walk_at "side"))
  | ((with_reducible apply d1); (focus walk_at "look"))
  | ((with_reducible apply d2); (focus walk_at "look"); (focus walk_at "look"))
  | ((with_reducible apply d3); (focus walk_at "look"); (focus walk_at "look"); (focus walk_at "look"))
  | ((with_reducible apply d0); (focus walk_at "look"))
  | ((with_reducible apply lk1); (focus walk_at "look"))
  | with_reducible apply gw2_go
  | with_reducible apply gw3_go
  | with_reducible apply gs_go
  | with_reducible apply gt2_go
  | with_reducible apply gt3_go
  | with_reducible apply gt1_go
  | with_reducible apply gt4_go
  | with_reducible apply gt5_go
  | with_reducible apply gt6_go
  | with_reducible apply gt7_go
  | with_reducible apply gt8_go
  | with_reducible apply ift_go
  | with_reducible apply iff_go
  | ((with_reducible apply ifT_go); (focus rfl))
  | ((with_reducible apply ifF_go); (focus rfl))))
local macro_rules | `(tactic| walk_at "run") => `(tactic| (repeat walk_at "step"); walk_at "head")
local macro_rules | `(tactic| walk_at "start") => `(tactic| simp only [startD, List.map_cons, List.map_nil, List.length_cons, List.length_nil, List.replicate, List.cons_append, List.nil_append, Nat.reduceAdd, Nat.reduceSub, bodyK])
/-! ### of papers of pages -/
def cn_room : Cn := fun rs M R => ∃ d st k ts es shs, rs = [.d d, .i k] ∧ PgIn d (psD st) ∧ Way (psD st) k 0 ts es ∧ ts.length ≤ 900 ∧ PsB 4 st ∧ st.length ≤ 900 ∧ RoomE st k ts es shs ∧ shs.length ≤ 10000 ∧ R (.d (.list (shs.map shD))) M
def cn_freeing : Cn := fun rs M R => ∃ d st page a ts cs pr ch wd n more, rs = [.d d, .i page] ∧ PgIn d (psD st) ∧ PsB 4 st ∧ st.length ≤ 300 ∧ ((kids st).map (·.1)).Nodup ∧ (kids st).length ≤ 10000 ∧ ts.length ≤ 100 ∧ n ≤ 100 ∧ FreeE st page a ts cs pr ch wd n more ∧ more.length ≤ 1000 ∧
  R (.d (.list (((pr, some (.inner cs), some wd) :: goneS st (ts.drop a) ++ more).map shD))) M
def poOf (st : Ps) : Po := st.map fun e => (e.1, some e.2)
theorem poD_of (st : Ps) : poD (poOf st) = psD st := by unfold poOf poD psD; rw [List.map_map]; rfl
theorem poOf_b {m : Nat} {st : Ps} (h : PsB m st) : PoB m (poOf st) := fun e he => by
  obtain ⟨x, hx, rfl⟩ := List.mem_map.mp he
  exact ⟨(h x hx).1, (h x hx).2.some⟩
structure ShIn (d : PyData) (shs : List Shp) : Prop where
  tp : tpD d = .tuple (shs.map shD)
  dep : d.depth ≤ 20
  size : sz WD d ≤ 16777216
def cn_shaped : Cn := fun rs M R => ∃ d e st shs m, rs = [.d d, .d e] ∧ PgIn d (psD st) ∧ ShIn e shs ∧ PsB m st ∧ (∀ s ∈ shs, ShB m s) ∧ m ≤ 1000 ∧ st.length + shs.length ≤ 900 ∧ R (.d (pgsD (poOf (layAll st shs)))) M
section
variable {P : Program} {w : World} {K : PySem.W.Frag} {mg : Str → Option Value} {base : Heap}
theorem ok_room (T : Tx K mg) (H_contents_of : Has P w K mg base 22 "contents_of" s_contents_of ["pages"] cn_contents) (H_room_in : Has P w K mg base 4 "room_in" s_room_in ["contents", "key"] cn_room_in) {f : Addr} {fd : FuncData} (Fu : Fun K "room" "room" s_room f fd) : FnD P w K mg base 23 f fd ["pages", "key"] cn_room := by
  refine fnD_of Fu sc_room (fun rs M R h => ?_) fun cdv A outer s H hgd hr => ⟨_, (pdb_one (pds_ret (pd_fn H_room_in hgd (hr.mono (by first | decide | omega)) (by rfl) (pda_cons (pd_fn H_contents_of hgd (hr.mono (by first | decide | omega)) (by rfl) (pda_cons (pd_var 0) pda_nil)) (pda_cons (pd_var 1) pda_nil))))), ?_⟩
  · obtain ⟨d, st, k, ts, es, shs, rfl, _⟩ := h
    rfl
  · rintro rs M R ⟨d, st, k, ts, es, shs, rfl, pg, hw, lt, hb, hl, hr0, hls, hk⟩
    walk_at "start"
    walk_at "run"
    refine ⟨d, psD st, rfl, pg.tp, pg.nd, pg.dep, pg.size, fun c hc => ?_⟩
    walk_at "run"
    exact ⟨c, st, k, ts, es, shs, rfl, upM_same, hw, lt, hb, hl, hr0, hls, .inr (upR.le hk (le_new hc))⟩
theorem ok_freeing (T : Tx K mg) (H_contents_of : Has P w K mg base 22 "contents_of" s_contents_of ["pages"] cn_contents) (H_freeing_in : Has P w K mg base 4 "freeing_in" s_freeing_in ["contents", "page"] cn_freeing_in) {f : Addr} {fd : FuncData} (Fu : Fun K "freeing" "freeing" s_freeing f fd) : FnD P w K mg base 23 f fd ["pages", "page"] cn_freeing := by
  refine fnD_of Fu sc_freeing (fun rs M R h => ?_) fun cdv A outer s H hgd hr => ⟨_, (pdb_one (pds_ret (pd_fn H_freeing_in hgd (hr.mono (by first | decide | omega)) (by rfl) (pda_cons (pd_fn H_contents_of hgd (hr.mono (by first | decide | omega)) (by rfl) (pda_cons (pd_var 0) pda_nil)) (pda_cons (pd_var 1) pda_nil))))), ?_⟩
  · obtain ⟨d, st, page, a, ts, cs, pr, ch, wd, n, more, rfl, _⟩ := h
    rfl
  · rintro rs M R ⟨d, st, page, a, ts, cs, pr, ch, wd, n, more, rfl, pg, hb, hl, nd, kl, tl, hn, hf, ml, k⟩
    walk_at "start"
    walk_at "run"
    refine ⟨d, psD st, rfl, pg.tp, pg.nd, pg.dep, pg.size, fun c hc => ?_⟩
    walk_at "run"
    exact ⟨c, st, page, a, ts, cs, pr, ch, wd, n, more, rfl, upM_same, hb, hl, nd, kl, tl, hn, hf, ml, upR.le k (le_new hc)⟩
theorem ok_shaped (T : Tx K mg) (H_contents_of : Has P w K mg base 22 "contents_of" s_contents_of ["pages"] cn_contents) (H_lay_shapes : Has P w K mg base 1 "lay_shapes" s_lay_shapes ["contents", "shapes"] cn_lay) (H_tupled : Has P w K mg base 21 "tupled" s_tupled ["thing"] (cn_deep tpD 20)) (H_pages_of : Has P w K mg base 1 "pages_of" s_pages_of ["contents"] cn_pgs) {f : Addr} {fd : FuncData} (Fu : Fun K "shaped" "shaped" s_shaped f fd) : FnD P w K mg base 23 f fd ["pages", "shapes"] cn_shaped := by
  refine fnD_of Fu sc_shaped (fun rs M R h => ?_) fun cdv A outer s H hgd hr => ⟨_, (pdb_cons (pds_set 2 sc_shaped.nd (pd_fn H_contents_of hgd (hr.mono (by first | decide | omega)) (by rfl) (pda_cons (pd_var 0) pda_nil)))
      (pdb_cons (pds_expr (pd_fn H_lay_shapes hgd (hr.mono (by first | decide | omega)) (by rfl) (pda_cons (pd_var 2) (pda_cons (pd_fn H_tupled hgd (hr.mono (by first | decide | omega)) (by rfl) (pda_cons (pd_var 1) pda_nil)) pda_nil))))
      (pdb_one (pds_ret (pd_fn H_pages_of hgd (hr.mono (by first | decide | omega)) (by rfl) (pda_cons (pd_var 2) pda_nil)))))), ?_⟩
  · obtain ⟨d, e, st, shs, m, rfl, _⟩ := h
    rfl
  · rintro rs M R ⟨d, e, st, shs, m, rfl, pg, sg, hb, hs, hm, hl, k⟩
    have ll := layAll_len shs st
    walk_at "start"
    walk_at "run"
    refine ⟨d, psD st, rfl, pg.tp, pg.nd, pg.dep, pg.size, fun c hc => ?_⟩
    walk_at "run"
    refine ⟨e, rfl, sg.dep, sg.size, ?_⟩
    rw [sg.tp]
    walk_at "run"
    refine ⟨c, st, shs, true, m, rfl, upM_same, hs, hm, by omega, ?_⟩
    rw [upM_upM]
    walk_at "run"
    refine ⟨c, poOf (layAll st shs), m, rfl, by rw [upM_same]; unfold memO; rw [poD_of], poOf_b (hb.lay hs), hm, by unfold poOf; rw [List.length_map]; omega, ?_⟩
    exact upR.le k (le_new hc)
theorem ok_pairs (T : Tx K mg) {f : Addr} {fd : FuncData} (Fu : Fun K "_law_pairs" "_law_pairs" s__law_pairs f fd) : FnD P w K mg base 1 f fd ["_law_stuffs"] cn_pgs := by
  refine fnD_of Fu sc__law_pairs (fun rs M R h => ?_) fun cdv A outer s H hgd hr => ⟨_, (pdb_one (pds_ret (pd_callT c_tuple (by rfl) T.z_tuple (by decide +kernel) (pda_cons (pd_lc (own := [("_law_sheet", 1)]) rfl sc__law_pairs.nd (pdi_seq (pd_callB (c_sortedDA rfl) (by rfl) T.z_sorted (by decide +kernel) (pda_cons (pd_var 0) pda_nil))) (blkOk_by (N := N__law_pairs) (sc := defScope s__law_pairs) (by decide +kernel)) (fun _ _ _ _ _ => (pdgw_name 1 sc__law_pairs.nd)) (fun _ _ _ _ _ => (pdts_one (pdt_cmp (o_ne hr.units) (pd_dget (hu_of hr) (pd_var 0) (pd_var 1)) (pd_tup (pda_cons pd_str pda_nil)) (nomark _)))) (fun _ _ _ _ _ => (pd_tup (pda_cons (pd_var 1) (pda_cons (pd_dget (hu_of hr) (pd_var 0) (pd_var 1)) pda_nil))))) pda_nil)))), ?_⟩
  · obtain ⟨c, st, m, rfl, _⟩ := h
    rfl
  · rintro rs M R ⟨c, st, m, rfl, hc, hb, hm, hl, k⟩
    have lS := (srtI_perm (st.map (·.1))).length_eq
    rw [List.length_map] at lS
    walk_at "start"
    walk_at "run"
    refine d2 hc (keysI_po _) ?_
    walk_at "run"
    rw [← mapI]
    refine lc_fm (C := C0) (srtI (st.map (·.1))) _ (fun n => (((lkO st n).getD none).map fun c => (n, c)).map fun e => Sl.d (enE (e.1, e.2.d))) trivial (by rw [sizeLine_eq]; omega) (fun n hn k1 k0 h1 h0 => ?_) ?_
    · obtain ⟨o, ho⟩ := lkO_some ((srtI_perm _).mem_iff.mp hn)
      have hv : valS (stS (poD st)) (.inl n) = some (.d (ctD o)) := by rw [valS_st, lkE_poD, ho]; rfl
      have sf := shaped_free2
      have sh := ((hb _ (lkO_mem ho)).2.sm).shaped (by omega) (by omega)
      rw [ho] at h1 h0
      cases o with
      | none =>
        walk_at "run"
        exact h0 rfl
      | some ct =>
        have nf := ct.not_free
        have h2 : k1 (.d (.tuple [.int n, ct.d])) M := h1 _ rfl
        have ec : ctD (some ct) = ct.d := rfl
        obtain ⟨wd, ys, ex⟩ := ct.two
        rw [ec, ex] at hv sh
        rw [ex] at nf h2
        walk_at "run"
        apply ifT_go
        · rw [nf]; rfl
        walk_at "run"
        exact h2
    · rw [show ∀ l : List Int, l.filterMap (fun n => (((lkO st n).getD none).map fun c => (n, c)).map fun e => Sl.d (enE (e.1, e.2.d))) = ((psD (l.filterMap fun n => ((lkO st n).getD none).map fun c => (n, c))).map enE).map Sl.d from fun l => by
        rw [List.map_map, List.map_map, List.map_filterMap]; rfl]
      refine e1 (datOf_map _) ?_
      walk_at "run"
      refine e2 rfl (datOf_map _) ?_
      exact upR.of k
end
end LW

set_option Elab.async false
set_option linter.all false
set_option maxRecDepth 100000
set_option maxHeartbeats 4000000
namespace LW
open PySem PySem.Spec L2 DL
/-! ### the law's own way -/
def pickL (cs : List (Option Int × Int)) (k : Int) : Option Int := ((cs.filter fun c => leO c.1 k).map (·.2)).getLast?
inductive Road (st : List (Int × PyData)) (k : Int) : Int → List Int → Prop
  | leaf {p : Int} {es : List (Int × PyData)} : lkE st p = some (leafE es) → Road st k p [p]
  | inner {p q : Int} {cs : List (Option Int × Int)} {ts : List Int} : lkE st p = some (innerG cs) → cs.length ≤ 1000 → pickL cs k = some q → Road st k q ts → Road st k p (p :: ts)
/-! ### both picks, at rising edges -/
/-- the child of a key, by cuts -/
def pickC : List Int → List Int → Int → Option Int
  | _, [], _ => none
  | [], q :: _, _ => some q
  | c :: cs, q :: qs, k => if k < c then some q else pickC cs qs k
abbrev kidsOf (cs ks : List Int) : List (Option Int × Int) := (none :: cs.map some).zip ks
theorem innerE_eq (cs ks : List Int) : innerE cs ks = innerG (kidsOf cs ks) := by
  unfold innerE innerG kidsOf
  have : (PyData.none :: cs.map PyData.int).zip (ks.map PyData.int) = ((none :: cs.map some).zip ks).map fun c => (optD c.1, PyData.int c.2) := by
    rw [show (PyData.none :: cs.map PyData.int) = (none :: cs.map some).map optD by rw [List.map_cons, List.map_map]; rfl, List.zip_map]; rfl
  rw [this, List.map_map]; rfl
theorem pick_lo {k : Int} : ∀ (cs ks : List Int) (lo : Option Int), ks.length = cs.length + 1 → cs.Pairwise (· < ·) → leO lo k = true →
    ((rgs ((lo :: cs.map some).zip ks) lo none).find? fun t => within k t.2.1 t.2.2).map (·.1) = pickC cs ks k
  | [], [q], lo, _, _, hl => by
    show (Option.map _ (List.find? _ [(q, lo, none)])) = _
    have e : within k lo none = true := by rw [within, hl]; rfl
    rw [List.find?_cons]
    simp only [e]; rfl
  | c :: cs, q :: q2 :: qs, lo, hl, ha, hk => by
    have h1 := List.pairwise_cons.mp ha
    show (Option.map _ (List.find? _ ((q, lo, some c) :: rgs ((some c :: cs.map some).zip (q2 :: qs)) (some c) none))) = _
    rw [List.find?_cons, pickC]
    by_cases h : k < c
    · have e : within k lo (some c) = true := by rw [within, hk]; simp [ltO, h]
      simp only [e, if_pos h]; rfl
    · have e : within k lo (some c) = false := by simp [within, ltO, h]
      simp only [e, if_neg h]
      exact pick_lo cs (q2 :: qs) (some c) (by simpa using hl) h1.2 (by simp [leO]; omega)
theorem pick_kids {cs ks : List Int} {k : Int} (hl : ks.length = cs.length + 1) (ha : cs.Pairwise (· < ·)) : pick (kidsOf cs ks) k = pickC cs ks k := pick_lo cs ks none hl ha rfl
theorem filter_none {k : Int} : ∀ {cs ks : List Int}, (∀ c ∈ cs, k < c) → ((cs.map some).zip ks).filter (fun c => leO c.1 k) = []
  | [], ks, _ => rfl
  | c :: cs, [], _ => rfl
  | c :: cs, q :: qs, h => by
    rw [List.map_cons, List.zip_cons_cons, List.filter_cons_of_neg (by have := h c List.mem_cons_self; simp [leO]; omega)]
    exact filter_none fun d hd => h d (List.mem_cons_of_mem _ hd)
theorem pickL_lo {k : Int} : ∀ (cs ks : List Int) (lo : Option Int), ks.length = cs.length + 1 → cs.Pairwise (· < ·) → leO lo k = true →
    ((((lo :: cs.map some).zip ks).filter fun c => leO c.1 k).map (·.2)).getLast? = pickC cs ks k
  | [], [q], lo, _, _, hk => by
    show ((List.filter _ [(lo, q)]).map _).getLast? = _
    rw [List.filter_cons_of_pos (by exact hk)]; rfl
  | c :: cs, q :: q2 :: qs, lo, hl, ha, hk => by
    have h1 := List.pairwise_cons.mp ha
    rw [List.zip_cons_cons, List.filter_cons_of_pos (by exact hk), List.map_cons, pickC]
    by_cases h : k < c
    · rw [filter_none (cs := c :: cs) (fun d hd => by rcases List.mem_cons.mp hd with rfl | hd; exact h; have := h1.1 d hd; omega), if_pos h]; rfl
    · rw [if_neg h]
      have ih := pickL_lo (k := k) cs (q2 :: qs) (some c) (by simpa using hl) h1.2 (by simp [leO]; omega)
      have e : leO (some c) k = true := decide_eq_true (by omega)
      rw [← ih, List.map_cons, List.zip_cons_cons, List.filter_cons_of_pos (by exact e), List.map_cons, List.getLast?_cons_cons]
theorem pickL_kids {cs ks : List Int} {k : Int} (hl : ks.length = cs.length + 1) (ha : cs.Pairwise (· < ·)) : pickL (kidsOf cs ks) k = pickC cs ks k := pickL_lo cs ks none hl ha rfl
theorem kids_len {cs ks : List Int} (hl : ks.length = cs.length + 1) : (kidsOf cs ks).length = cs.length + 1 := by
  rw [kidsOf, List.length_zip, List.length_cons, List.length_map, hl, Nat.min_self]
/-! ### a drawn tree: each key has one way, and the leaf there has all that is known of it -/
/-- the entries of all leaves -/
def entOf : PyData → Option (Int × PyData)
  | .tuple [.int k, s] => some (k, s)
  | _ => none
def entsOf : PyData → List (Int × PyData)
  | .tuple [.str w, .tuple xs] => if w = "leaf" then xs.filterMap entOf else []
  | _ => []
theorem entsOf_leaf (es : List (Int × PyData)) : entsOf (leafE es) = es := by
  show (if (("leaf" : Str)) = "leaf" then (es.map enE).filterMap entOf else []) = _
  rw [if_pos rfl]
  induction es with
  | nil => rfl
  | cons e r ih => rw [List.map_cons, List.filterMap_cons_some (b := e) (by rfl), ih]
theorem entsOf_inner (cs : List (Option Int × Int)) : entsOf (innerG cs) = [] := by
  show (if (("inner" : Str)) = "leaf" then (cs.map chE).filterMap entOf else []) = _
  rw [if_neg (by decide)]
def allE (st : List (Int × PyData)) : List (Int × PyData) := st.flatMap fun e => entsOf e.2
theorem allE_app (a b : List (Int × PyData)) : allE (a ++ b) = allE a ++ allE b := by unfold allE; rw [List.flatMap_append]
theorem allE_leaf (p : Int) (es : List (Int × PyData)) : allE [(p, leafE es)] = es := by
  show entsOf (leafE es) ++ [] = es
  rw [entsOf_leaf, List.append_nil]
theorem allE_inner (p : Int) (cs ks : List Int) : allE [(p, innerE cs ks)] = [] := by
  show entsOf (innerE cs ks) ++ [] = []
  rw [innerE_eq, entsOf_inner]; rfl
/-- all that is found in pages that were grown lies in their range; each key once -/
structure InRg (lo hi : Int) (E : List (Int × PyData)) : Prop where
  rng : ∀ e ∈ E, lo ≤ e.1 ∧ e.1 < hi
  nd : (E.map (·.1)).Nodup
theorem InRg.app {lo mid hi : Int} {A B : List (Int × PyData)} (a : InRg lo mid A) (b : InRg mid hi B) (h1 : lo ≤ mid) (h2 : mid ≤ hi) : InRg lo hi (A ++ B) := by
  refine ⟨fun e he => ?_, ?_⟩
  · rcases List.mem_append.mp he with he | he
    · have := a.rng e he; omega
    · have := b.rng e he; omega
  · rw [List.map_append]
    refine List.nodup_append.mpr ⟨a.nd, b.nd, fun x hx y hy e => ?_⟩
    obtain ⟨u, hu, rfl⟩ := List.mem_map.mp hx
    obtain ⟨v, hv, rfl⟩ := List.mem_map.mp hy
    have := a.rng u hu
    have := b.rng v hv
    omega
/-- what a way through pages is, by the pages themselves -/
inductive WayM (st : List (Int × PyData)) (k : Int) : Int → List Int → List (Int × PyData) → Prop
  | leaf {p : Int} {es : List (Int × PyData)} : (p, leafE es) ∈ st → EsW es → WayM st k p [p] es
  | inner {p q : Int} {cs ks : List Int} {ts : List Int} {es : List (Int × PyData)} : (p, innerE cs ks) ∈ st → InW cs ks → pickC cs ks k = some q → WayM st k q ts es → WayM st k p (p :: ts) es
theorem WayM.mono {st st' : List (Int × PyData)} {k : Int} (h : ∀ e ∈ st, e ∈ st') {p : Int} {ts : List Int} {es : List (Int × PyData)} (w : WayM st k p ts es) : WayM st' k p ts es := by
  induction w with
  | leaf a b => exact .leaf (h _ a) b
  | inner a b c _ ih => exact .inner (h _ a) b c ih
theorem WayM.way {st : List (Int × PyData)} (nd : (st.map (·.1)).Nodup) {l : List (Int × PyData)} (hl : ∀ n, lkE l n = lkE st n) {k p : Int} {ts : List Int} {es : List (Int × PyData)} (w : WayM st k p ts es) : Way l k p ts es := by
  induction w with
  | leaf a b => exact .leaf (by rw [hl]; exact (lkE_mem nd).mpr a) b.nd (by have := b.len; omega)
  | inner a b c _ ih =>
    refine .inner (by rw [hl, ← innerE_eq]; exact (lkE_mem nd).mpr a) (fun z => ?_) ?_ (by rw [pick_kids b.len2 b.asc]; exact c) ih
    · have := kids_len b.len2; rw [z] at this; cases this
    · rw [kids_len b.len2]; have := b.len; omega
theorem WayM.road {st : List (Int × PyData)} (nd : (st.map (·.1)).Nodup) {k p : Int} {ts : List Int} {es : List (Int × PyData)} (w : WayM st k p ts es) : Road st k p ts := by
  induction w with
  | leaf a b => exact .leaf ((lkE_mem nd).mpr a)
  | inner a b c _ ih =>
    refine .inner (by rw [← innerE_eq]; exact (lkE_mem nd).mpr a) ?_ (by rw [pickL_kids b.len2 b.asc]; exact c) ih
    rw [kids_len b.len2]; have := b.len; omega
end LW

set_option Elab.async false
set_option linter.all false
set_option maxRecDepth 100000
set_option maxHeartbeats 4000000
namespace LW
open PySem PySem.Spec L2 DL
structure Leads (st : List (Int × PyData)) (k q : Int) (d : Nat) (ts : List Int) (es : List (Int × PyData)) : Prop where
  way : WayM st k q ts es
  len : ts.length ≤ d
  rng : ∀ n ∈ ts, 0 ≤ n ∧ n < 30
  all : ∀ s, (k, s) ∈ allE st → (k, s) ∈ es
  sub : ∀ e ∈ es, e ∈ allE st
def GW (d : Nat) (G : GR) : Prop := ∀ lo hi ns ns' st p, G lo hi ns ns' st p → 0 ≤ lo → lo < hi → hi ≤ 1000 → ns.Nodup → (∀ n ∈ ns, 0 ≤ n ∧ n < 30) → InRg lo hi (allE st) ∧ ∀ k, ∃ ts es, Leads st k p d ts es
theorem grownL_way {G : GR} {n d : Nat} {hi : Int} (hT : ∀ lo hi ns ns' st p, G lo hi ns ns' st p → Tk n ns ns' st) (hG : GW d G) (h1 : hi ≤ 1000) :
    ∀ (cs : List Int) (lo : Int) {ns ns' : List Int} {st : List (Int × PyData)} {ks : List Int}, GrownL G ((lo :: cs).zip (cs ++ [hi])) ns ns' st ks → 0 ≤ lo → lo < hi → cs.Pairwise (· < ·) → (∀ c ∈ cs, lo < c ∧ c < hi) → ns.Nodup → (∀ n ∈ ns, 0 ≤ n ∧ n < 30) →
      InRg lo hi (allE st) ∧ ∀ k, ∃ q ts es, pickC cs ks k = some q ∧ Leads st k q d ts es
  | [], lo, ns, ns', st, ks, h, h0, hlt, ha, hr, nd, hn => by
    obtain ⟨n3, s1, s2, k1, ks1, a, b, rfl, rfl⟩ := h
    obtain ⟨rfl, rfl, rfl⟩ := b
    rw [List.append_nil]
    obtain ⟨r, w⟩ := hG _ _ _ _ _ _ a h0 hlt h1 nd hn
    refine ⟨r, fun k => ?_⟩
    obtain ⟨ts, es, L⟩ := w k
    exact ⟨k1, ts, es, rfl, L⟩
  | c :: cs, lo, ns, ns', st, ks, h, h0, hlt, ha, hr, nd, hn => by
    have a1 := List.pairwise_cons.mp ha
    have hc := hr c List.mem_cons_self
    obtain ⟨n3, s1, s2, k1, ks1, a, b, rfl, rfl⟩ := h
    obtain ⟨t1, e1, p1, _⟩ := hT _ _ _ _ _ _ a
    obtain ⟨r, w⟩ := hG _ _ _ _ _ _ a h0 hc.1 (by show c ≤ 1000; omega) nd hn
    have n1 : n3.Nodup := by rw [e1] at nd; exact (List.nodup_append.mp nd).1
    have n2 : ∀ n ∈ n3, 0 ≤ n ∧ n < 30 := fun n hm => hn n (by rw [e1]; exact List.mem_append_left _ hm)
    obtain ⟨r2, w2⟩ := grownL_way hT hG h1 cs c b (by omega) hc.2 a1.2 (fun d hd => ⟨a1.1 d hd, (hr d (List.mem_cons_of_mem _ hd)).2⟩) n1 n2
    rw [allE_app]
    refine ⟨r.app r2 (by show lo ≤ c; omega) (by show c ≤ hi; omega), fun k => ?_⟩
    by_cases hk : k < c
    · obtain ⟨ts, es, L⟩ := w k
      refine ⟨k1, ts, es, by rw [pickC, if_pos hk], L.way.mono fun e he => List.mem_append_left _ he, L.len, L.rng, fun s hs => ?_, fun e he => ?_⟩
      · rw [allE_app] at hs
        rcases List.mem_append.mp hs with hs | hs
        · exact L.all s hs
        · have := r2.rng _ hs
          have e9 : c ≤ k := this.1
          omega
      · rw [allE_app]; exact List.mem_append_left _ (L.sub e he)
    · obtain ⟨q, ts, es, hq, L⟩ := w2 k
      refine ⟨q, ts, es, by rw [pickC, if_neg hk]; exact hq, L.way.mono fun e he => List.mem_append_right _ he, L.len, L.rng, fun s hs => ?_, fun e he => ?_⟩
      · rw [allE_app] at hs
        rcases List.mem_append.mp hs with hs | hs
        · have := r.rng _ hs
          have e9 : k < c := this.2
          omega
        · exact L.all s hs
      · rw [allE_app]; exact List.mem_append_right _ (L.sub e he)
theorem grown_way {mx : Nat} (hm : mx ≤ 3) : ∀ d : Nat, GW (d + 1) (Grown mx d)
  | 0, lo, hi, ns, ns', st, p, h, h0, hlt, h1, nd, hn => by
    obtain ⟨rfl, es, he, rfl⟩ := h
    rw [allE_leaf]
    refine ⟨⟨he.rng, he.asc.imp fun h => by omega⟩, fun k => ⟨[p], es, .leaf (by simp) (he.w h0 h1), by simp, fun n hn2 => ?_, fun s hs => ?_, fun e he => ?_⟩⟩
    · rw [List.mem_singleton] at hn2; subst hn2; exact hn _ (by simp)
    · rw [allE_leaf] at hs; exact hs
    · rw [allE_leaf]; exact he
  | d + 1, lo, hi, ns, ns', st, p, h, h0, hlt, h1, nd, hn => by
    obtain ⟨ns1, cs, st1, ks, rfl, hc, hp, hl, rfl⟩ := h
    have n1 := List.nodup_append.mp nd
    have rg : ∀ r ∈ (lo :: cs).zip (cs ++ [hi]), 0 ≤ r.1 ∧ r.1 < r.2 ∧ r.2 ≤ 1000 := fun r hr => by
      have := cuts_rng (a := r.1) (c := r.2) hc hlt hr
      omega
    obtain ⟨t, et, tp, _⟩ := hl.tk (Grown.tk d)
    have hn1 : ∀ n ∈ ns1, 0 ≤ n ∧ n < 30 := fun n hm => hn n (List.mem_append_left _ hm)
    obtain ⟨d1, d2, d3⟩ := grownL_ct (Grown.tk d) (grown_ct hm d) hl rg n1.1 hn1
    have lk := hl.len
    rw [List.length_zip] at lk
    simp only [List.length_cons, List.length_append, List.length_nil, Nat.min_self] at lk
    have iw : InW cs ks := ⟨by have := hc.len; omega, by omega, hc.asc, fun c hc2 => by have := hc.rng c hc2; omega, d3, fun k hk => hn1 k (by rw [et]; exact List.mem_append_right _ (tp.mem_iff.mpr (d2 k hk)))⟩
    obtain ⟨r, w⟩ := grownL_way (Grown.tk d) (grown_way hm d) h1 cs lo hl h0 hlt hc.asc hc.rng n1.1 hn1
    have ea : allE (st1 ++ [(p, innerE cs ks)]) = allE st1 := by rw [allE_app, allE_inner, List.append_nil]
    rw [ea]
    refine ⟨r, fun k => ?_⟩
    obtain ⟨q, ts, es, hq, L⟩ := w k
    refine ⟨p :: ts, es, .inner (by simp) iw hq (L.way.mono fun e he => List.mem_append_left _ he), by have := L.len; simp; omega, fun n hn2 => ?_, ?_, ?_⟩
    · rcases List.mem_cons.mp hn2 with rfl | hn2
      · exact hn _ (by simp)
      · exact L.rng n hn2
    · rw [ea]; exact L.all
    · rw [ea]; exact L.sub
/-- all that a drawn tree tells of a key -/
theorem Tree.leads {st : List (Int × PyData)} (h : Tree st) : InRg 0 1000 (allE st) ∧ ∀ k, ∃ ts es, Leads st k 0 4 ts es := by
  obtain ⟨mx, d, hi, ns, ns', m1, m3, hd, h12, h1, nd, hn, hl, g⟩ := h
  have hn2 : ∀ n ∈ ns ++ [0], 0 ≤ n ∧ n < 30 := fun n hm => by
    rcases List.mem_append.mp hm with hm | hm
    · have := hn n hm; omega
    · rw [List.mem_singleton] at hm; subst hm; decide
  obtain ⟨r, w⟩ := grown_way m3 d 0 hi _ _ _ _ g (by omega) (by omega) h1 nd hn2
  refine ⟨⟨fun e he => by have := r.rng e he; omega, r.nd⟩, fun k => ?_⟩
  obtain ⟨ts, es, L⟩ := w k
  exact ⟨ts, es, L.way, by have := L.len; omega, L.rng, L.all, L.sub⟩
end LW

set_option Elab.async false
set_option linter.all false
set_option maxRecDepth 100000
set_option maxHeartbeats 4000000
namespace LW
open PySem PySem.Spec L2 DL
/-! ### ways: one, each page once -/
theorem leaf_inner {es : List (Int × PyData)} {cs : List (Option Int × Int)} (h : leafE es = innerG cs) : False := by
  have h3 := PyData.tuple.inj h
  obtain ⟨h4, _⟩ := List.cons.inj h3
  exact absurd (PyData.str.inj h4) (by decide)
theorem innerG_inj {cs ds : List (Option Int × Int)} (h : innerG cs = innerG ds) : cs = ds := by
  have h3 := PyData.tuple.inj h
  obtain ⟨_, h5⟩ := List.cons.inj h3
  obtain ⟨h6, _⟩ := List.cons.inj h5
  exact chE_inj (PyData.tuple.inj h6)
theorem Way.det {l : List (Int × PyData)} {k p : Int} {ts : List Int} {es : List (Int × PyData)} (a : Way l k p ts es) : ∀ {ts' : List Int} {es' : List (Int × PyData)}, Way l k p ts' es' → ts = ts' := by
  induction a with
  | leaf h _ _ =>
    intro ts' es' b
    cases b with
    | leaf _ _ _ => rfl
    | inner h2 _ _ _ _ => rw [h] at h2; exact (leaf_inner (Option.some.inj h2)).elim
  | inner h _ _ pk _ ih =>
    intro ts' es' b
    cases b with
    | leaf h2 _ _ => rw [h] at h2; exact (leaf_inner (Option.some.inj h2).symm).elim
    | inner h2 _ _ pk2 w2 =>
      rw [h] at h2
      have e := innerG_inj (Option.some.inj h2)
      subst e
      rw [pk] at pk2
      cases pk2
      rw [ih w2]
theorem Way.suffix {l : List (Int × PyData)} {k : Int} {es : List (Int × PyData)} : ∀ {pre : List Int} {p q : Int} {r : List Int}, Way l k p (pre ++ q :: r) es → Way l k q (q :: r) es
  | [], p, q, r, h => by
    obtain ⟨r', e⟩ := h.cons
    cases e
    exact h
  | x :: pre, p, q, r, h => by
    generalize ht : x :: pre ++ q :: r = ts at h
    cases h with
    | leaf h1 h2 h3 =>
      have := congrArg List.length ht
      simp at this
    | inner h1 h2 h3 h4 w =>
      cases ht
      exact Way.suffix (pre := pre) w
theorem Way.nodup {l : List (Int × PyData)} {k p : Int} {ts : List Int} {es : List (Int × PyData)} (a : Way l k p ts es) : ts.Nodup := by
  induction a with
  | leaf _ _ _ => simp
  | @inner p q cs ts es h h0 h1 pk w ih =>
    refine List.nodup_cons.mpr ⟨fun hm => ?_, ih⟩
    obtain ⟨s, t, rfl⟩ := List.append_of_mem hm
    have w1 := w.suffix
    have w2 : Way l k p (p :: (s ++ p :: t)) es := .inner h h0 h1 pk w
    have := congrArg List.length (w2.det w1)
    simp at this
    omega
theorem Way.split {l : List (Int × PyData)} {k q p : Int} {r : List Int} {es : List (Int × PyData)} (h : Way l k q (q :: p :: r) es) : ∃ cs, lkE l q = some (innerG cs) ∧ cs ≠ [] ∧ cs.length ≤ 1000 ∧ pick cs k = some p ∧ Way l k p (p :: r) es := by
  generalize ht : q :: p :: r = ts at h
  cases h with
  | leaf _ _ _ => cases ht
  | inner h h0 h1 pk w =>
    cases ht
    obtain ⟨r', e⟩ := w.cons
    cases e
    exact ⟨_, h, h0, h1, pk, w⟩
theorem way_same {st st' : Ps} {k p : Int} {ts : List Int} {es : List (Int × PyData)} (w : Way (psD st) k p ts es) : (∀ x ∈ ts, lkC st' x = lkC st x) → Way (psD st') k p ts es := by
  induction w with
  | @leaf p es h1 h2 h3 => exact fun h => .leaf (by rw [lkE_psD, h p (by simp), ← lkE_psD]; exact h1) h2 h3
  | @inner p q cs ts es h1 h2 h3 h4 _ ih => exact fun h => .inner (by rw [lkE_psD, h p (by simp), ← lkE_psD]; exact h1) h2 h3 h4 (ih fun x hx => h x (List.mem_cons_of_mem _ hx))
theorem way_pre {st st' : Ps} {k : Int} {es es' : List (Int × PyData)} {q : Int} {r r' : List Int} : ∀ {pre : List Int} {p : Int}, Way (psD st) k p (pre ++ q :: r) es → (∀ x ∈ pre, lkC st' x = lkC st x) → Way (psD st') k q (q :: r') es' → Way (psD st') k p (pre ++ q :: r') es'
  | [], p, h, _, w => by
    obtain ⟨r', e⟩ := h.cons
    cases e
    exact w
  | x :: pre, p, h, hs, w => by
    generalize ht : x :: pre ++ q :: r = ts at h
    cases h with
    | leaf h1 h2 h3 =>
      have := congrArg List.length ht
      simp at this
    | inner h1 h2 h3 h4 w1 =>
      cases ht
      exact .inner (by rw [lkE_psD, hs _ (by simp), ← lkE_psD]; exact h1) h2 h3 h4 (way_pre w1 (fun x hx => hs x (List.mem_cons_of_mem _ hx)) w)
/-! ### picks -/
def pkI (k : Int) : Option Int → List (Option Int × Int) → Option Nat
  | _, [] => none
  | lo, [_] => if within k lo none then some 0 else none
  | lo, _ :: d :: r => if within k lo d.1 then some 0 else (pkI k d.1 (d :: r)).map (· + 1)
theorem pick_pkI {k : Int} : ∀ (cs : List (Option Int × Int)) (lo : Option Int), ((rgs cs lo none).find? fun t => within k t.2.1 t.2.2).map (·.1) = (pkI k lo cs).bind fun j => (cs.map (·.2))[j]?
  | [], _ => rfl
  | [c], lo => by
    rw [rgs, List.find?_cons, pkI]
    cases h : within k lo none <;> simp [h]
  | c :: d :: r, lo => by
    have ih := pick_pkI (k := k) (d :: r) d.1
    rw [rgs, List.find?_cons, pkI]
    cases h : within k lo d.1 with
    | true => simp [h]
    | false =>
      simp only [h]
      rw [ih]
      cases pkI k d.1 (d :: r) <;> simp
theorem pick_at {k : Int} {cs : List (Option Int × Int)} {p : Int} (h : pick cs k = some p) : ∃ j, pkI k none cs = some j ∧ (cs.map (·.2))[j]? = some p := by
  unfold pick at h
  rw [pick_pkI] at h
  exact Option.bind_eq_some_iff.mp h
theorem pick_of {k : Int} {cs : List (Option Int × Int)} {p : Int} {j : Nat} (h : pkI k none cs = some j) (h2 : (cs.map (·.2))[j]? = some p) : pick cs k = some p := by
  unfold pick
  rw [pick_pkI, h]; exact h2
theorem pkI_wide {k key fresh : Int} : ∀ (cs : List (Option Int × Int)) (lo : Option Int) (j : Nat), pkI k lo cs = some j → pkI k lo (cs.take (j + 1) ++ [(some key, fresh)] ++ cs.drop (j + 1)) = some (if k < key then j else j + 1)
  | [], _, _, h => by cases h
  | [c], lo, j, h => by
    rw [pkI] at h
    split at h
    · rename_i hw
      cases h
      show pkI k lo [c, (some key, fresh)] = _
      rw [pkI]
      simp only [within, Bool.and_eq_true] at hw
      by_cases hk : k < key
      · simp [within, hw.1, ltO, hk]
      · simp [within, hw.1, ltO, hk, pkI, leO]
    · cases h
  | c :: d :: r, lo, j, h => by
    rw [pkI] at h
    split at h
    · rename_i hw
      cases h
      show pkI k lo (c :: (some key, fresh) :: d :: r) = _
      rw [pkI]
      simp only [within, Bool.and_eq_true] at hw
      by_cases hk : k < key
      · simp [within, hw.1, ltO, hk]
      · have hl : leO (some key) k = true := by simp [leO]; omega
        have e1 : within k lo (some key) = false := by simp [within, ltO, hk]
        have e2 : within k (some key) d.1 = true := by rw [within, hl, hw.2]; rfl
        rw [if_neg (by rw [e1]; simp), pkI, if_pos e2, if_neg hk]; rfl
    · rename_i hw
      obtain ⟨i, hi, rfl⟩ := Option.map_eq_some_iff.mp h
      have ih := pkI_wide (key := key) (fresh := fresh) (d :: r) d.1 i hi
      have e : (c :: d :: r).take (i + 1 + 1) ++ [(some key, fresh)] ++ (c :: d :: r).drop (i + 1 + 1) = c :: ((d :: r).take (i + 1) ++ [(some key, fresh)] ++ (d :: r).drop (i + 1)) := by simp
      rw [e]
      have e2 : (d :: r).take (i + 1) ++ [(some key, fresh)] ++ (d :: r).drop (i + 1) = d :: (r.take i ++ [(some key, fresh)] ++ r.drop i) := by simp
      rw [e2] at ih ⊢
      rw [pkI, if_neg hw, ih]
      split <;> simp
theorem ixOf_at {ns : List Int} {n : Int} : ∀ {ns : List Int} {j : Nat}, ns.Nodup → ns[j]? = some n → ixOf ns n = some j
  | [], j, _, h => by cases h
  | x :: r, 0, _, h => by
    simp at h
    subst h
    unfold ixOf
    rw [List.findIdx?_cons]; simp
  | x :: r, j + 1, nd, h => by
    have h1 : r[j]? = some n := by simpa using h
    have n1 := List.nodup_cons.mp nd
    have ih := ixOf_at (n := n) (ns := ns) n1.2 h1
    unfold ixOf at ih ⊢
    rw [List.findIdx?_cons, ih]
    have : ¬ x = n := fun e => n1.1 (by rw [e]; exact List.mem_of_getElem? h1)
    simp [this]
/-! ### pages that are full -/
inductive Fl : Ct → Prop
  | leaf {es : List (Int × PyData)} : es.length = 4 → Fl (.leaf es)
  | inner {c1 c2 c3 q0 q1 q2 q3 : Int} : c1 < c2 → c2 < c3 → [q0, q1, q2, q3].Nodup → Fl (.inner [(none, q0), (some c1, q1), (some c2, q2), (some c3, q3)])
theorem Fl.halves {c : Ct} (h : Fl c) : ∃ a b key, halvesC c = some (a, b, some key) := by
  cases h with
  | @leaf es h =>
    obtain ⟨e, he⟩ : ∃ e, es[2]? = some e := ⟨es[2], List.getElem?_eq_getElem (by omega)⟩
    exact ⟨_, _, e.1, by rw [halvesC, he]; rfl⟩
  | inner _ _ _ => exact ⟨_, _, _, rfl⟩
theorem pick2 {c a b k : Int} : pick [(none, a), (some c, b)] k = some (if k < c then a else b) := by
  have := pick_kids (cs := [c]) (ks := [a, b]) (k := k) rfl (by simp)
  rw [show [(none, a), (some c, b)] = kidsOf [c] [a, b] from rfl, this]
  simp only [pickC]; split <;> rfl
theorem pick4 {c1 c2 c3 q0 q1 q2 q3 k : Int} (h1 : c1 < c2) (h2 : c2 < c3) : pick [(none, q0), (some c1, q1), (some c2, q2), (some c3, q3)] k = some (if k < c1 then q0 else if k < c2 then q1 else if k < c3 then q2 else q3) := by
  have := pick_kids (cs := [c1, c2, c3]) (ks := [q0, q1, q2, q3]) (k := k) rfl (by simp; omega)
  rw [show [(none, q0), (some c1, q1), (some c2, q2), (some c3, q3)] = kidsOf [c1, c2, c3] [q0, q1, q2, q3] from rfl, this]
  simp only [pickC]; split <;> (try split) <;> (try split) <;> rfl
theorem halves_pick {c1 c2 c3 q0 q1 q2 q3 k r : Int} (h1 : c1 < c2) (h2 : c2 < c3) (h : pick [(none, q0), (some c1, q1), (some c2, q2), (some c3, q3)] k = some r) : if k < c2 then pick [(none, q0), (some c1, q1)] k = some r else pick [(none, q2), (some c3, q3)] k = some r := by
  rw [pick4 h1 h2] at h
  have h := Option.some.inj h
  split
  · rename_i hk
    rw [pick2, ← h, if_pos hk]
  · rename_i hk
    rw [pick2, ← h, if_neg (show ¬ k < c1 by omega), if_neg hk]
/-! ### what is there behind shapes -/
theorem lkC_cons {e : Int × Ct} {st : Ps} {n : Int} : lkC (e :: st) n = if e.1 = n then some e.2 else lkC st n := by
  unfold lkC
  rw [List.find?_cons]
  by_cases h : e.1 = n <;> simp [h]
theorem lkC_drop (n x : Int) : ∀ st : Ps, lkC (dropC st n) x = if x = n then none else lkC st x
  | [] => by simp [dropC, lkC]
  | e :: r => by
    have ih := lkC_drop n x r
    unfold dropC at ih ⊢
    by_cases h : e.1 = n
    · rw [List.filter_cons_of_neg (by simp [h]), ih, lkC_cons]
      by_cases hx : x = n
      · simp [hx]
      · rw [if_neg hx, if_neg hx, if_neg (by rw [h]; exact Ne.symm hx)]
    · rw [List.filter_cons_of_pos (by simp [h]), lkC_cons, ih, lkC_cons]
      by_cases hx : x = n
      · subst hx; simp [h]
      · simp [hx]
theorem lkC_snoc {st : Ps} {e : Int × Ct} {n : Int} (h : lkC st n = none ∨ e.1 ≠ n) : lkC (st ++ [e]) n = if e.1 = n then some e.2 else lkC st n := by
  induction st with
  | nil => rw [List.nil_append, lkC_cons]
  | cons a r ih =>
    rw [List.cons_append, lkC_cons, lkC_cons]
    by_cases ha : a.1 = n
    · rw [if_pos ha, if_pos ha]
      rcases h with h | h
      · rw [lkC_cons, if_pos ha] at h; cases h
      · rw [if_neg h]
    · rw [if_neg ha, if_neg ha]
      refine ih ?_
      rcases h with h | h
      · rw [lkC_cons, if_neg ha] at h; exact .inl h
      · exact .inr h
theorem lkC_lay (st : Ps) (s : Shp) (x : Int) : lkC (layC st s) x = if x = s.1 then s.2.2 else lkC st x := by
  obtain ⟨n, bf, af⟩ := s
  unfold layC
  cases af with
  | none => exact lkC_drop n x st
  | some c =>
    show lkC (dropC st n ++ [(n, c)]) x = _
    by_cases h : x = n
    · subst h
      rw [lkC_snoc (.inl (by rw [lkC_drop, if_pos rfl]))]; simp
    · rw [lkC_snoc (.inr (Ne.symm h)), if_neg (Ne.symm h), lkC_drop, if_neg h, if_neg h]
theorem least_free {st : Ps} {many : Nat} {x : Int} (h : x ∈ leastE st many) : lkC st x = none := by
  unfold leastE at h
  obtain ⟨n, hn, rfl⟩ := List.mem_map.mp h
  have := (List.mem_filter.mp (List.mem_of_mem_take hn)).2
  unfold freeN at this
  exact Option.isNone_iff_eq_none.mp this
theorem least_nd (st : Ps) (many : Nat) : (leastE st many).Nodup := by
  unfold leastE
  have nd : ((freeTo st (st.length + many)).take many).Nodup := ((List.nodup_range).filter _).sublist (List.take_sublist _ _)
  exact List.pairwise_map.mpr (List.Pairwise.imp (fun h e => h (Int.ofNat.inj e)) nd)
end LW

set_option Elab.async false
set_option linter.all false
set_option maxRecDepth 100000
set_option maxHeartbeats 4000000
namespace LW
open PySem PySem.Spec L2 DL
/-! ### making room goes on to its end -/
theorem layAll3 (st : Ps) (a b c : Shp) (x : Int) : lkC (layAll st [a, b, c]) x = if x = c.1 then c.2.2 else if x = b.1 then b.2.2 else if x = a.1 then a.2.2 else lkC st x := by
  show lkC (layC (layC (layC st a) b) c) x = _
  rw [lkC_lay, lkC_lay, lkC_lay]
theorem way_inner {st : Ps} {k p : Int} {cs : List (Option Int × Int)} {q : Int} {ts : List Int} {es : List (Int × PyData)} (h : lkC st p = some (.inner cs)) (hl : cs.length ≤ 1000) (hp : pick cs k = some q) (w : Way (psD st) k q ts es) : Way (psD st) k p (p :: ts) es := by
  refine .inner (lkC_to h) (fun z => ?_) hl hp w
  subst z
  cases hp
theorem room_go (k : Int) : ∀ (rest pre : List Int) (m : Nat) (st : Ps) (es : List (Int × PyData)), Way (psD st) k 0 (pre ++ rest) es → (∀ p ∈ rest, ∃ c, lkC st p = some c ∧ Fl c) → (∀ q, pre.getLast? = some q → ∃ ch, lkC st q = some (.inner ch) ∧ (ch.map (·.2)).Nodup) →
    PsB m st → st.length + 3 * rest.length ≤ 900 → 2 ≤ m → m + rest.length ≤ 900 → (pre ++ rest).length + rest.length ≤ 900 → ∃ shs, RoomL k m rest st shs ∧ shs.length ≤ 3 * rest.length
  | [], _, _, _, _, _, _, _, _, _, _, _, _ => ⟨[], .nil, by simp⟩
  | p :: r, pre, m, st, es, hw, hf, hp, hb, hl, hm2, hm, ht => by
    simp only [List.length_cons] at hl hm
    obtain ⟨c, hc, fl⟩ := hf p List.mem_cons_self
    obtain ⟨a, b, key, hh⟩ := fl.halves
    have nd := hw.nodup
    have hin := hw.mem
    have hlen : (pre ++ p :: r).length ≤ 1000 := by omega
    rcases List.eq_nil_or_concat pre with rfl | ⟨pre0, q, rfl⟩
    · -- the root
      rw [List.nil_append] at hw nd hin hlen ht
      obtain ⟨_, e⟩ := hw.cons
      obtain ⟨rfl, _⟩ := List.cons.inj e
      obtain ⟨one, other, hle⟩ : ∃ one other, leastE st 2 = [one, other] := by
        have := leastE_len st 2
        match h : leastE st 2, this with
        | [x, y], _ => exact ⟨x, y, rfl⟩
      have f1 : lkC st one = none := least_free (many := 2) (by rw [hle]; simp)
      have f2 : lkC st other = none := least_free (many := 2) (by rw [hle]; simp)
      have n12 : one ≠ other := by have := least_nd st 2; rw [hle] at this; simpa using this
      have sp : SplitR st [(one, none, some a), (other, none, some b), (0, some c, some (.inner [(none, one), (some key, other)]))] := ⟨c, a, b, some key, one, other, hc, hh, hle, rfl⟩
      have hb' := hb.mono (Nat.le_succ m)
      have lays := PsB.lay hb' (sp.b hb (by omega) hm2)
      have ll := layAll_len [(one, none, some a), (other, none, some b), (0, some c, some (.inner [(none, one), (some key, other)]))] st
      simp only [List.length_cons, List.length_nil] at ll
      have lk := layAll3 st (one, none, some a) (other, none, some b) (0, some c, some (.inner [(none, one), (some key, other)]))
      have ih : ∃ more, RoomL k (m + 1) r (layAll st [(one, none, some a), (other, none, some b), (0, some c, some (.inner [(none, one), (some key, other)]))]) more ∧ more.length ≤ 3 * r.length := by
        generalize layAll st [(one, none, some a), (other, none, some b), (0, some c, some (.inner [(none, one), (some key, other)]))] = st' at lays ll lk ⊢
        dsimp only at lk
        cases r with
        | nil => exact ⟨[], .nil, by simp⟩
        | cons r0 r1 =>
          obtain ⟨cs, hcs, c0, cl, pk, w1⟩ := hw.split
          have e := lkC_of (c := .inner cs) hcs
          rw [hc] at e
          cases e
          cases fl with
          | @inner c1 c2 c3 q0 q1 q2 q3 h12 h23 nq =>
            cases hh
            have hpk := halves_pick h12 h23 pk
            have z1 : one ≠ 0 := fun e => by rw [e, hc] at f1; cases f1
            have z2 : other ≠ 0 := fun e => by rw [e, hc] at f2; cases f2
            have l0 : lkC st' 0 = some (.inner [(none, one), (some key, other)]) := by rw [lk, if_pos rfl]
            have l1 : lkC st' one = some (.inner [(none, q0), (some c1, q1)]) := by rw [lk, if_neg z1, if_neg n12, if_pos rfl]; rfl
            have l2 : lkC st' other = some (.inner [(none, q2), (some c3, q3)]) := by rw [lk, if_neg z2, if_pos rfl]; rfl
            have lr : ∀ x ∈ r0 :: r1, lkC st' x = lkC st x := fun x hx => by
              have x0 : x ≠ 0 := fun e => (List.nodup_cons.mp nd).1 (by rw [← e]; exact hx)
              obtain ⟨cx, hcx⟩ := hin x (List.mem_cons_of_mem _ hx)
              have x1 : x ≠ one := fun e => by rw [e, f1] at hcx; cases hcx
              have x2 : x ≠ other := fun e => by rw [e, f2] at hcx; cases hcx
              rw [lk, if_neg x0, if_neg x2, if_neg x1]
            simp only [List.nodup_cons, List.mem_cons, List.not_mem_nil, or_false, not_or, not_false_eq_true, List.nodup_nil, and_true] at nq
            have wr := way_same w1 lr
            have ff : ∀ x ∈ r0 :: r1, ∃ c, lkC st' x = some c ∧ Fl c := fun x hx => by
              rw [lr x hx]; exact hf x (List.mem_cons_of_mem _ hx)
            simp only [List.length_cons] at ht hl hm
            by_cases hk : k < key
            · rw [if_pos hk] at hpk
              have w2 : Way (psD st') k 0 (0 :: one :: r0 :: r1) es := way_inner l0 (by simp) (by rw [pick2, if_pos hk]) (way_inner l1 (by simp) hpk wr)
              exact room_go k (r0 :: r1) [0, one] (m + 1) st' es w2 ff (fun q hq => by cases hq; exact ⟨_, l1, by simp; omega⟩) lays (by simp only [List.length_cons]; omega) (by omega) (by simp only [List.length_cons]; omega) (by simp only [List.length_cons, List.length_append, List.length_nil]; omega)
            · rw [if_neg hk] at hpk
              have w2 : Way (psD st') k 0 (0 :: other :: r0 :: r1) es := way_inner l0 (by simp) (by rw [pick2, if_neg hk]) (way_inner l2 (by simp) hpk wr)
              exact room_go k (r0 :: r1) [0, other] (m + 1) st' es w2 ff (fun q hq => by cases hq; exact ⟨_, l2, by simp; omega⟩) lays (by simp only [List.length_cons]; omega) (by omega) (by simp only [List.length_cons]; omega) (by simp only [List.length_cons, List.length_append, List.length_nil]; omega)
      obtain ⟨more, hmore, lm⟩ := ih
      exact ⟨_, .root hw (by omega) hb (by omega) sp hmore, by simp only [List.length_append, List.length_cons, List.length_nil]; omega⟩
    · -- another page
      rw [List.concat_eq_append] at *
      have e0 : pre0 ++ [q] ++ p :: r = pre0 ++ q :: p :: r := by simp
      rw [e0] at hw nd hin hlen ht
      obtain ⟨ch, hch, ndc⟩ := hp q (by simp)
      have wq := hw.suffix
      obtain ⟨cs, hcs, c0, cl, pk, w1⟩ := wq.split
      have e := lkC_of (c := .inner cs) hcs
      rw [hch] at e
      cases e
      obtain ⟨j, hj, hjp⟩ := pick_at pk
      have hix := ixOf_at (ns := []) ndc hjp
      obtain ⟨fresh, hle⟩ : ∃ fresh, leastE st 1 = [fresh] := by
        have := leastE_len st 1
        match h : leastE st 1, this with
        | [x], _ => exact ⟨x, rfl⟩
      have f1 : lkC st fresh = none := least_free (many := 1) (by rw [hle]; simp)
      have fq : fresh ≠ q := fun e => by rw [e, hch] at f1; cases f1
      have fp : fresh ≠ p := fun e => by rw [e, hc] at f1; cases f1
      have nds := List.nodup_append.mp nd
      have ndq := List.nodup_cons.mp nds.2.1
      have qp : q ≠ p := fun e => ndq.1 (by rw [e]; simp)
      have p0 : p ≠ 0 := by
        intro e
        obtain ⟨t, et⟩ := hw.cons
        cases pre0 with
        | nil =>
          obtain ⟨rfl, _⟩ := List.cons.inj et
          exact qp e.symm
        | cons x pre1 =>
          obtain ⟨rfl, _⟩ := List.cons.inj et
          exact nds.2.2 0 (by simp) p (by simp) e.symm
      have hts : ixOf (pre0 ++ q :: p :: r) p = some (pre0.length + 1) := ixOf_at (ns := []) nd (by rw [List.getElem?_append_right (by omega)]; simp)
      have htq : (pre0 ++ q :: p :: r)[pre0.length]? = some q := by rw [List.getElem?_append_right (by omega)]; simp
      have sp : SplitP st p q [(fresh, none, some b), (q, some (.inner ch), some (.inner (ch.take (j + 1) ++ [(some key, fresh)] ++ ch.drop (j + 1)))), (p, some c, some a)] := ⟨c, a, b, some key, fresh, ch, j, hc, hh, hle, hch, hix, rfl⟩
      have hb' := hb.mono (Nat.le_succ m)
      have lays := PsB.lay hb' (sp.b hb (by omega))
      have ll := layAll_len [(fresh, none, some b), (q, some (.inner ch), some (.inner (ch.take (j + 1) ++ [(some key, fresh)] ++ ch.drop (j + 1)))), (p, some c, some a)] st
      simp only [List.length_cons, List.length_nil] at ll
      have lk := layAll3 st (fresh, none, some b) (q, some (.inner ch), some (.inner (ch.take (j + 1) ++ [(some key, fresh)] ++ ch.drop (j + 1)))) (p, some c, some a)
      have ih : ∃ more, RoomL k (m + 1) r (layAll st [(fresh, none, some b), (q, some (.inner ch), some (.inner (ch.take (j + 1) ++ [(some key, fresh)] ++ ch.drop (j + 1)))), (p, some c, some a)]) more ∧ more.length ≤ 3 * r.length := by
        generalize layAll st [(fresh, none, some b), (q, some (.inner ch), some (.inner (ch.take (j + 1) ++ [(some key, fresh)] ++ ch.drop (j + 1)))), (p, some c, some a)] = st' at lays ll lk ⊢
        dsimp only at lk
        cases r with
        | nil => exact ⟨[], .nil, by simp⟩
        | cons r0 r1 =>
          obtain ⟨cs, hcs, _, _, pk2, w2⟩ := w1.split
          have e := lkC_of (c := .inner cs) hcs
          rw [hc] at e
          cases e
          cases fl with
          | @inner c1 c2 c3 q0 q1 q2 q3 h12 h23 nq =>
            cases hh
            have hpk := halves_pick h12 h23 pk2
            have lq : lkC st' q = some (.inner (ch.take (j + 1) ++ [(some key, fresh)] ++ ch.drop (j + 1))) := by rw [lk, if_neg qp, if_pos rfl]
            have l1 : lkC st' p = some (.inner [(none, q0), (some c1, q1)]) := by rw [lk, if_pos rfl]; rfl
            have l2 : lkC st' fresh = some (.inner [(none, q2), (some c3, q3)]) := by rw [lk, if_neg fp, if_neg fq, if_pos rfl]; rfl
            have lr : ∀ x ∈ pre0 ++ q :: p :: r0 :: r1, x ≠ q → x ≠ p → lkC st' x = lkC st x := fun x hx xq xp => by
              obtain ⟨cx, hcx⟩ := hin x hx
              have x1 : x ≠ fresh := fun e => by rw [e, f1] at hcx; cases hcx
              rw [lk, if_neg xp, if_neg xq, if_neg x1]
            have ndp := List.nodup_cons.mp ndq.2
            have lrr : ∀ x ∈ r0 :: r1, lkC st' x = lkC st x := fun x hx => lr x (List.mem_append_right _ (List.mem_cons_of_mem _ (List.mem_cons_of_mem _ hx))) (fun e => ndq.1 (by rw [← e]; exact List.mem_cons_of_mem _ hx)) (fun e => ndp.1 (by rw [← e]; exact hx))
            have lpre : ∀ x ∈ pre0, lkC st' x = lkC st x := fun x hx => lr x (by simp [hx]) (fun e => nds.2.2 x hx q (by simp) e) (fun e => nds.2.2 x hx p (by simp) e)
            simp only [List.nodup_cons, List.mem_cons, List.not_mem_nil, or_false, not_or, not_false_eq_true, List.nodup_nil, and_true] at nq
            have wr := way_same w2 lrr
            have ff : ∀ x ∈ r0 :: r1, ∃ c, lkC st' x = some c ∧ Fl c := fun x hx => by
              rw [lrr x hx]; exact hf x (List.mem_cons_of_mem _ hx)
            simp only [List.length_cons, List.length_append] at ht hl hm
            have hjl : j < ch.length := by
              have := (List.getElem?_eq_some_iff.mp hjp).1
              rwa [List.length_map] at this
            have chl : ch.length ≤ m := (hb _ (lkC_mem hch)).2.len
            have wide := pkI_wide (key := key) (fresh := fresh) ch none j hj
            have wl : (ch.take (j + 1) ++ [(some key, fresh)] ++ ch.drop (j + 1)).length ≤ 1000 := by
              simp only [List.length_append, List.length_take, List.length_drop, List.length_cons, List.length_nil]; omega
            have tk : ((ch.take (j + 1)).map (·.2)).length = j + 1 := by rw [List.length_map, List.length_take]; omega
            by_cases hk : k < key
            · rw [if_pos hk] at hpk wide
              have pw : pick (ch.take (j + 1) ++ [(some key, fresh)] ++ ch.drop (j + 1)) k = some p := by
                refine pick_of wide ?_
                rw [List.map_append, List.map_append, List.append_assoc, List.getElem?_append_left (by omega), List.map_take, List.getElem?_take, if_pos (by omega)]
                exact hjp
              have w3 := way_pre (st' := st') hw lpre (way_inner lq wl pw (way_inner l1 (by simp) hpk wr))
              rw [show pre0 ++ q :: p :: r0 :: r1 = (pre0 ++ [q, p]) ++ r0 :: r1 by simp] at w3
              exact room_go k (r0 :: r1) (pre0 ++ [q, p]) (m + 1) st' es w3 ff (fun x hx => by simp at hx; subst hx; exact ⟨_, l1, by simp; omega⟩) lays (by simp only [List.length_cons]; omega) (by omega) (by simp only [List.length_cons]; omega) (by simp only [List.length_cons, List.length_append, List.length_nil]; omega)
            · rw [if_neg hk] at hpk wide
              have pw : pick (ch.take (j + 1) ++ [(some key, fresh)] ++ ch.drop (j + 1)) k = some fresh := by
                refine pick_of wide ?_
                rw [List.map_append, List.map_append, List.append_assoc, List.getElem?_append_right (by omega), tk]
                simp
              have w3 := way_pre (st' := st') hw lpre (way_inner lq wl pw (way_inner l2 (by simp) hpk wr))
              rw [show pre0 ++ q :: fresh :: r0 :: r1 = (pre0 ++ [q, fresh]) ++ r0 :: r1 by simp] at w3
              exact room_go k (r0 :: r1) (pre0 ++ [q, fresh]) (m + 1) st' es w3 ff (fun x hx => by simp at hx; subst hx; exact ⟨_, l2, by simp; omega⟩) lays (by simp only [List.length_cons]; omega) (by omega) (by simp only [List.length_cons]; omega) (by simp only [List.length_cons, List.length_append, List.length_nil]; omega)
      obtain ⟨more, hmore, lm⟩ := ih
      exact ⟨_, .page p0 hw (by omega) hb (by omega) hts htq sp hmore, by simp only [List.length_append, List.length_cons, List.length_nil]; omega⟩
end LW

set_option Elab.async false
set_option linter.all false
set_option maxRecDepth 100000
set_option maxHeartbeats 4000000
namespace LW
open PySem PySem.Spec L2 DL
/-! ### the pages of a drawn tree: each but the root is a child once -/
inductive UpR (st : Ps) (r : Int) : Int → List Int → Prop
  | root : UpR st r r [r]
  | step {x q : Int} {ts : List Int} : (x, q) ∈ kids st → UpR st r q ts → UpR st r x (ts ++ [x])
theorem UpR.mono {st st' : Ps} {r : Int} (h : ∀ k ∈ kids st, k ∈ kids st') {x : Int} {ts : List Int} (u : UpR st r x ts) : UpR st' r x ts := by
  induction u with
  | root => exact .root
  | step a _ ih => exact .step (h _ a) ih
theorem UpR.under {st : Ps} {r p : Int} (h : (r, p) ∈ kids st) {x : Int} {ts : List Int} (u : UpR st r x ts) : UpR st p x (p :: ts) := by
  induction u with
  | root => exact .step h .root
  | step a _ ih => exact .step a ih
theorem kids_app (a b : Ps) : kids (a ++ b) = kids a ++ kids b := by unfold kids; rw [List.flatMap_append]
structure Gt (st : Ps) (ps : List Int) (d : Nat) : Prop where
  perm : (ps ++ (kids st).map (·.1)).Perm (st.map (·.1))
  up : ∀ x ∈ st.map (·.1), ∃ r ∈ ps, ∃ ts, UpR st r x ts ∧ ts.length ≤ d
  ne : ∀ q cs, (q, Ct.inner cs) ∈ st → cs ≠ []
theorem Gt.app {a b : Ps} {ps qs : List Int} {d : Nat} (h : Gt a ps d) (g : Gt b qs d) : Gt (a ++ b) (ps ++ qs) d := by
  refine ⟨?_, fun x hx => ?_, fun q cs hq => ?_⟩
  · rw [kids_app, List.map_append, List.map_append]
    have e : (ps ++ qs ++ ((kids a).map (·.1) ++ (kids b).map (·.1))).Perm ((ps ++ (kids a).map (·.1)) ++ (qs ++ (kids b).map (·.1))) := by
      rw [List.append_assoc, List.append_assoc]
      refine List.Perm.append_left _ ?_
      rw [← List.append_assoc, ← List.append_assoc]
      exact List.Perm.append_right _ List.perm_append_comm
    exact e.trans (h.perm.append g.perm)
  · rw [List.map_append] at hx
    rcases List.mem_append.mp hx with hx | hx
    · obtain ⟨r, hr, ts, u, l⟩ := h.up x hx
      exact ⟨r, List.mem_append_left _ hr, ts, u.mono (fun k hk => by rw [kids_app]; exact List.mem_append_left _ hk), l⟩
    · obtain ⟨r, hr, ts, u, l⟩ := g.up x hx
      exact ⟨r, List.mem_append_right _ hr, ts, u.mono (fun k hk => by rw [kids_app]; exact List.mem_append_right _ hk), l⟩
  · rcases List.mem_append.mp hq with hq | hq
    · exact h.ne q cs hq
    · exact g.ne q cs hq
theorem kidsOf_snd {cs ks : List Int} (h : ks.length = cs.length + 1) : (kidsOf cs ks).map (·.2) = ks := by
  unfold kidsOf
  exact List.map_snd_zip (by simp; omega)
theorem grownL_gt {G : GR} {d : Nat} (hG : ∀ lo hi ns ns' st p, G lo hi ns ns' st p → ∃ st' : Ps, psD st' = st ∧ Gt st' [p] d) :
    ∀ {rs : List (Int × Int)} {ns ns' : List Int} {st : List (Int × PyData)} {ks : List Int}, GrownL G rs ns ns' st ks → ∃ st' : Ps, psD st' = st ∧ Gt st' ks d
  | [], _, _, _, _, h => by
    obtain ⟨_, rfl, rfl⟩ := h
    exact ⟨[], rfl, List.Perm.refl _, (fun x hx => by cases hx), (fun q cs hq => by cases hq)⟩
  | r :: rs, _, _, _, _, h => by
    obtain ⟨n3, s1, s2, k1, ks1, a, b, rfl, rfl⟩ := h
    obtain ⟨t1, rfl, g1⟩ := hG _ _ _ _ _ _ a
    obtain ⟨t2, rfl, g2⟩ := grownL_gt hG b
    exact ⟨t1 ++ t2, by unfold psD; rw [List.map_append], g1.app g2⟩
theorem grown_gt {mx : Nat} : ∀ (d : Nat) (lo hi : Int) (ns ns' : List Int) (st : List (Int × PyData)) (p : Int), Grown mx d lo hi ns ns' st p → ∃ st' : Ps, psD st' = st ∧ Gt st' [p] (d + 1)
  | 0, lo, hi, ns, ns', st, p, h => by
    obtain ⟨rfl, es, he, rfl⟩ := h
    refine ⟨[(p, .leaf es)], rfl, List.Perm.refl _, fun x hx => ?_, fun q cs hq => ?_⟩
    · simp at hx; subst hx
      exact ⟨x, by simp, [x], .root, by simp⟩
    · simp at hq
  | d + 1, lo, hi, ns, ns', st, p, h => by
    obtain ⟨ns1, cs, st1, ks, rfl, hc, hp, hl, rfl⟩ := h
    have lk := hl.len
    rw [List.length_zip] at lk
    simp only [List.length_cons, List.length_append, List.length_nil, Nat.min_self] at lk
    obtain ⟨t, rfl, g⟩ := grownL_gt (grown_gt d) hl
    have e2 : kids (t ++ [(p, Ct.inner (kidsOf cs ks))]) = kids t ++ (kidsOf cs ks).map fun c => (c.2, p) := by rw [kids_app]; unfold kids kidsP; simp
    have e3 : (kids (t ++ [(p, Ct.inner (kidsOf cs ks))])).map (·.1) = (kids t).map (·.1) ++ ks := by
      rw [e2, List.map_append, List.map_map]
      congr 1
      exact kidsOf_snd (by omega)
    refine ⟨t ++ [(p, .inner (kidsOf cs ks))], by unfold psD; rw [List.map_append]; simp [Ct.d, innerE_eq], ?_, fun x hx => ?_, fun q cs' hq => ?_⟩
    · rw [e3, List.map_append]
      have h1 : ((kids t).map (·.1) ++ ks).Perm (t.map (·.1)) := List.perm_append_comm.trans g.perm
      exact (List.Perm.append_left [p] h1).trans List.perm_append_comm
    · rw [List.map_append] at hx
      rcases List.mem_append.mp hx with hx | hx
      · obtain ⟨r, hr, ts, u, l⟩ := g.up x hx
        refine ⟨p, by simp, p :: ts, (u.mono fun k hk => by rw [kids_app]; exact List.mem_append_left _ hk).under ?_, by rw [List.length_cons]; omega⟩
        rw [e2]
        refine List.mem_append_right _ ?_
        rw [← kidsOf_snd (cs := cs) (ks := ks) (by omega)] at hr
        obtain ⟨c, hc2, rfl⟩ := List.mem_map.mp hr
        exact List.mem_map.mpr ⟨c, hc2, rfl⟩
      · simp at hx; subst hx
        exact ⟨x, by simp, [x], .root, by simp⟩
    · rcases List.mem_append.mp hq with hq | hq
      · exact g.ne q cs' hq
      · simp at hq
        obtain ⟨_, rfl⟩ := hq
        intro z
        have := kids_len (cs := cs) (ks := ks) (by omega)
        rw [z] at this; cases this
end LW

set_option Elab.async false
set_option linter.all false
set_option maxRecDepth 100000
set_option maxHeartbeats 4000000
namespace LW
open PySem PySem.Spec L2 DL
/-! ### all that is needed of a drawn tree, in whatever order its pages stand -/
structure Tr (st : Ps) : Prop where
  nd : (st.map (·.1)).Nodup
  len : st.length ≤ 30
  rng : ∀ e ∈ st, 0 ≤ e.1 ∧ e.1 < 30
  perm : (0 :: (kids st).map (·.1)).Perm (st.map (·.1))
  up : ∀ x ∈ st.map (·.1), ∃ ts, UpR st 0 x ts ∧ ts.length ≤ 4
  ne : ∀ q cs, (q, Ct.inner cs) ∈ st → cs ≠ []
  two : ∀ cs, ((0 : Int), Ct.inner cs) ∈ st → 2 ≤ cs.length
  ok : ∀ e ∈ st, CtOk e.2.d
theorem lkC_iff {st : Ps} (nd : (st.map (·.1)).Nodup) {n : Int} {c : Ct} : lkC st n = some c ↔ (n, c) ∈ st := by
  refine ⟨lkC_mem, fun h => ?_⟩
  induction st with
  | nil => cases h
  | cons e r ih =>
    have n1 := List.nodup_cons.mp (by simpa using nd : (e.1 :: r.map (·.1)).Nodup)
    rw [lkC_cons]
    rcases List.mem_cons.mp h with e1 | h
    · subst e1; rw [if_pos rfl]
    · rw [if_neg, ih n1.2 h]
      intro e2
      exact n1.1 (by rw [e2]; exact List.mem_map.mpr ⟨_, h, rfl⟩)
theorem lkC_none {st : Ps} {n : Int} : lkC st n = none ↔ n ∉ st.map (·.1) := by
  induction st with
  | nil => simp [lkC]
  | cons e r ih =>
    rw [lkC_cons]
    by_cases h : e.1 = n
    · simp [h]
    · rw [if_neg h, ih]
      have : n ≠ e.1 := Ne.symm h
      simp [this]
theorem lkC_perm {st st' : Ps} (nd : (st.map (·.1)).Nodup) (p : st'.Perm st) (n : Int) : lkC st' n = lkC st n := by
  have nd' : (st'.map (·.1)).Nodup := (p.map _).nodup_iff.mpr nd
  cases e : lkC st n with
  | none => rw [lkC_none] at e ⊢; exact fun z => e ((p.map _).mem_iff.mp z)
  | some c => exact (lkC_iff nd').mpr (p.mem_iff.mpr ((lkC_iff nd).mp e))
theorem Tr.of_perm {st st' : Ps} (h : Tr st) (p : st'.Perm st) : Tr st' := by
  have pk : (kids st').Perm (kids st) := List.Perm.flatMap_right _ p
  refine ⟨(p.map _).nodup_iff.mpr h.nd, by rw [p.length_eq]; exact h.len, fun e he => h.rng e (p.mem_iff.mp he), ?_, fun x hx => ?_, fun q cs hq => h.ne q cs (p.mem_iff.mp hq), fun cs hq => h.two cs (p.mem_iff.mp hq), fun e he => h.ok e (p.mem_iff.mp he)⟩
  · exact ((pk.map _).cons 0).trans (h.perm.trans (p.map _).symm)
  · obtain ⟨ts, u, l⟩ := h.up x ((p.map _).mem_iff.mp hx)
    exact ⟨ts, u.mono fun k hk => pk.mem_iff.mpr hk, l⟩
theorem grown_two {mx d : Nat} {lo hi : Int} {ns ns' : List Int} {st : Ps} (g : Grown mx d lo hi ns ns' (psD st) 0) (nd : (st.map (·.1)).Nodup) : ∀ cs, ((0 : Int), Ct.inner cs) ∈ st → 2 ≤ cs.length := by
  have nd2 : ((psD st).map (·.1)).Nodup := by
    have : (psD st).map (·.1) = st.map (·.1) := by unfold psD; rw [List.map_map]; rfl
    rw [this]; exact nd
  intro cs hm
  have hm2 : ((0 : Int), innerG cs) ∈ psD st := List.mem_map.mpr ⟨_, hm, rfl⟩
  cases d with
  | zero =>
    obtain ⟨_, es, _, e⟩ := g
    rw [e] at hm2
    have hm3 := List.mem_singleton.mp hm2
    exact (leaf_inner (congrArg Prod.snd hm3).symm).elim
  | succ d =>
    obtain ⟨ns1, cu, st1, ks, _, hc, hp, hl, e⟩ := g
    have lk := hl.len
    rw [List.length_zip] at lk
    simp only [List.length_cons, List.length_append, List.length_nil, Nat.min_self] at lk
    have h1 := (lkE_mem nd2).mpr hm2
    have h2 := (lkE_mem nd2).mpr (show ((0 : Int), innerE cu ks) ∈ psD st by rw [e]; simp)
    rw [h1, innerE_eq] at h2
    have h3 := innerG_inj (Option.some.inj h2)
    rw [h3, kids_len (by omega)]
    have := List.length_pos_iff.mpr (hp rfl)
    omega
theorem Tree.tr {st : List (Int × PyData)} (h : Tree st) : ∃ st' : Ps, psD st' = st ∧ Tr st' := by
  obtain ⟨f1, f2, f3, f4, f5⟩ := h.facts
  obtain ⟨mx, d, hi, ns, ns', m1, m3, hd, h12, h1, nd, hn, hl, g⟩ := h
  obtain ⟨st', rfl, G⟩ := grown_gt d 0 hi _ _ _ _ g
  have e : (psD st').map (·.1) = st'.map (·.1) := by unfold psD; rw [List.map_map]; rfl
  rw [e] at f1 f2
  refine ⟨st', rfl, f1, by simpa [psD] using f3, fun e he => f2 e.1 (List.mem_map.mpr ⟨e, he, rfl⟩), G.perm, fun x hx => ?_, G.ne, grown_two g f1, fun e he => f5 (e.1, e.2.d) (List.mem_map.mpr ⟨e, he, rfl⟩)⟩
  obtain ⟨r, hr, ts, u, l⟩ := G.up x hx
  simp at hr; subst hr
  exact ⟨ts, u, by omega⟩
theorem CtOk.b {c : Ct} (h : CtOk c.d) : CtB 4 c := by
  generalize e : c.d = d at h
  cases h with
  | @leaf es h =>
    have : c = .leaf es := Ct.d_inj e
    subst this
    exact .leaf h.len fun x hx => ⟨h.rng x hx, h.st x hx⟩
  | @inner cs ks h =>
    have : c = .inner (kidsOf cs ks) := Ct.d_inj (by rw [e, innerE_eq])
    subst this
    refine .inner (by rw [kids_len h.len2]; have := h.len; omega) fun x hx => ?_
    have := List.of_mem_zip hx
    refine ⟨fun k hk => ?_, ?_⟩
    · have h1 := this.1
      rw [hk] at h1
      have h2 := h.rng k (by simpa using h1)
      exact ⟨by omega, by omega⟩
    · have h2 := h.rng2 _ this.2
      exact ⟨h2.1, by omega⟩
theorem Tr.b {st : Ps} (h : Tr st) : PsB 4 st := fun e he => ⟨⟨(h.rng e he).1, by have := (h.rng e he).2; omega⟩, (h.ok e he).b⟩
/-- a full page of a drawn tree -/
theorem CtOk.fl {c : Ct} (h : CtOk c.d) (hf : fullC c = true) : Fl c := by
  generalize e : c.d = d at h
  have hl : c.len = 4 := by have := of_decide_eq_true hf; omega
  cases h with
  | @leaf es h =>
    have : c = .leaf es := Ct.d_inj e
    subst this
    exact .leaf hl
  | @inner cs ks h =>
    have : c = .inner (kidsOf cs ks) := Ct.d_inj (by rw [e, innerE_eq])
    subst this
    have l1 : (kidsOf cs ks).length = 4 := hl
    rw [kids_len h.len2] at l1
    have l2 := h.len2
    have a := h.asc
    have nd := h.nd
    match cs, ks, l1, l2, a, nd with
    | [c1, c2, c3], [q0, q1, q2, q3], _, _, a, nd =>
      simp at a
      exact .inner a.1.1 a.2 nd
theorem CtOk.kids {cs : List (Option Int × Int)} (h : CtOk (Ct.inner cs).d) : (cs.map (·.2)).Nodup := by
  generalize e : (Ct.inner cs).d = d at h
  cases h with
  | @leaf es h => exact (leaf_inner e.symm).elim
  | @inner cu ks h =>
    have : cs = kidsOf cu ks := innerG_inj (by rw [← innerE_eq]; exact e)
    rw [this, kidsOf_snd h.len2]; exact h.nd
end LW

set_option Elab.async false
set_option linter.all false
set_option maxRecDepth 100000
set_option maxHeartbeats 4000000
namespace LW
open PySem PySem.Spec L2 DL
/-! ### pages by their numbers: each child is there, of one parent, never the root -/
structure Inv (f : Int → Option Ct) : Prop where
  ex : ∀ {q cs c}, f q = some (.inner cs) → c ∈ cs → ∃ x, f c.2 = some x
  par : ∀ {q q' cs cs' c c'}, f q = some (.inner cs) → f q' = some (.inner cs') → c ∈ cs → c' ∈ cs' → c.2 = c'.2 → q = q'
  nz : ∀ {q cs c}, f q = some (.inner cs) → c ∈ cs → c.2 ≠ 0
  root : ∃ x, f 0 = some x
theorem mem_kids {st : Ps} {x q : Int} : (x, q) ∈ kids st ↔ ∃ cs, (q, Ct.inner cs) ∈ st ∧ ∃ c ∈ cs, c.2 = x := by
  unfold kids
  rw [List.mem_flatMap]
  constructor
  · rintro ⟨⟨q', ct⟩, he, h⟩
    cases ct with
    | leaf es => cases h
    | inner cs =>
      obtain ⟨c, hc, e⟩ := List.mem_map.mp h
      obtain ⟨rfl, rfl⟩ := Prod.mk.inj e
      exact ⟨cs, he, c, hc, rfl⟩
  · rintro ⟨cs, he, c, hc, rfl⟩
    exact ⟨_, he, List.mem_map.mpr ⟨c, hc, rfl⟩⟩
theorem key_one {l : List (Int × Int)} (nd : (l.map (·.1)).Nodup) {x q q' : Int} (h : (x, q) ∈ l) (h' : (x, q') ∈ l) : q = q' := by
  have a := kid_val nd h
  have b := kid_val nd h'
  rw [a] at b
  exact PyData.int.inj (Sl.d.inj (Option.some.inj b))
section
variable {st : Ps} (h : Tr st)
include h
theorem Tr.kn : ((kids st).map (·.1)).Nodup ∧ (0 : Int) ∉ (kids st).map (·.1) := by
  have := h.perm.nodup_iff.mpr h.nd
  exact ⟨(List.nodup_cons.mp this).2, (List.nodup_cons.mp this).1⟩
theorem Tr.page {x : Int} (hx : x = 0 ∨ x ∈ (kids st).map (·.1)) : ∃ c, lkC st x = some c := by
  have : x ∈ st.map (·.1) := h.perm.mem_iff.mp (by rcases hx with rfl | hx; simp; exact List.mem_cons_of_mem _ hx)
  obtain ⟨e, he, rfl⟩ := List.mem_map.mp this
  exact ⟨e.2, (lkC_iff h.nd).mpr he⟩
theorem Tr.inv : Inv (lkC st) := by
  have k : ∀ {q cs c}, lkC st q = some (.inner cs) → c ∈ cs → (c.2, q) ∈ kids st := fun a b => mem_kids.mpr ⟨_, lkC_mem a, _, b, rfl⟩
  refine ⟨fun a b => h.page (.inr (List.mem_map.mpr ⟨_, k a b, rfl⟩)), fun a a' b b' e => ?_, fun a b e => ?_, h.page (.inl rfl)⟩
  · have h1 := k a b
    have h2 := k a' b'
    rw [← e] at h2
    exact key_one h.kn.1 h1 h2
  · exact h.kn.2 (List.mem_map.mpr ⟨_, k a b, e⟩)
end
/-! ### a root that takes the place of an only child, to the end -/
theorem layAll2 (st : Ps) (a b : Shp) (x : Int) : lkC (layAll st [a, b]) x = if x = b.1 then b.2.2 else if x = a.1 then a.2.2 else lkC st x := by
  show lkC (layC (layC st a) b) x = _
  rw [lkC_lay, lkC_lay]
theorem Inv.shrink {st : Ps} {k : Option Int} {x : Int} {c : Ct} (h : Inv (lkC st)) (h0 : lkC st 0 = some (.inner [(k, x)])) (hx : lkC st x = some c) : Inv (lkC (layAll st [(0, some (.inner [(k, x)]), some c), (x, some c, none)])) := by
  have x0 : x ≠ 0 := h.nz h0 (c := (k, x)) (by simp)
  have lk : ∀ y, lkC (layAll st [(0, some (.inner [(k, x)]), some c), (x, some c, none)]) y = if y = x then none else if y = 0 then some c else lkC st y := fun y => layAll2 st _ _ y
  have og : ∀ {q cs}, lkC (layAll st [(0, some (.inner [(k, x)]), some c), (x, some c, none)]) q = some (.inner cs) → q ≠ x ∧ lkC st (if q = 0 then x else q) = some (.inner cs) := fun {q cs} e => by
    rw [lk] at e
    split at e
    · cases e
    · rename_i hq
      refine ⟨hq, ?_⟩
      by_cases q0 : q = 0
      · rw [if_pos q0] at e ⊢; rw [hx]; exact e
      · rw [if_neg q0] at e ⊢; exact e
  have ne : ∀ {q cs c'}, lkC (layAll st [(0, some (.inner [(k, x)]), some c), (x, some c, none)]) q = some (.inner cs) → c' ∈ cs → c'.2 ≠ x ∧ c'.2 ≠ 0 := fun {q cs c'} e hc => by
    obtain ⟨hq, e⟩ := og e
    refine ⟨fun z => ?_, h.nz e hc⟩
    have := h.par e h0 (c' := (k, x)) hc (by simp) z
    split at this
    · exact x0 this
    · rename_i q0; exact q0 this
  refine ⟨fun {q cs c'} e hc => ?_, fun {q q' cs cs' c1 c2} e e' hc hc' z => ?_, fun e hc => (ne e hc).2, ?_⟩
  · obtain ⟨n1, n2⟩ := ne e hc
    obtain ⟨y, hy⟩ := h.ex (og e).2 hc
    exact ⟨y, by rw [lk, if_neg n1, if_neg n2]; exact hy⟩
  · have := h.par (og e).2 (og e').2 hc hc' z
    have hq := (og e).1
    have hq' := (og e').1
    by_cases a : q = 0 <;> by_cases b : q' = 0
    · rw [a, b]
    · rw [if_pos a, if_neg b] at this; exact absurd this.symm hq'
    · rw [if_neg a, if_pos b] at this; exact absurd this hq
    · rw [if_neg a, if_neg b] at this; exact this
  · exact ⟨c, by rw [lk, if_neg (Ne.symm x0), if_pos rfl]⟩
theorem shr_lt {st : Ps} {k : Option Int} {x : Int} {c : Ct} (x0 : x ≠ 0) (h : lkC st 0 = some (.inner [(k, x)])) (hx : lkC st x = some c) : (layAll st [(0, some (.inner [(k, x)]), some c), (x, some c, none)]).length < st.length := by
  have h1 := dropC_lt h
  have hy : lkC (dropC st 0 ++ [(0, c)]) x = some c := by
    have := lkC_lay st (0, some (.inner [(k, x)]), some c) x
    rw [if_neg x0] at this
    exact this.trans hx
  have h2 := dropC_lt hy
  show (dropC (dropC st 0 ++ [(0, c)]) x).length < _
  rw [List.length_append] at h2
  simp only [List.length_cons, List.length_nil] at h2
  omega
theorem shr_ex : ∀ (N : Nat) (st : Ps), st.length ≤ N → Inv (lkC st) → ∃ n more, n ≤ N ∧ Shr n st more ∧ more.length = 2 * n
  | 0, st, hl, h => by
    obtain ⟨c, hc⟩ := h.root
    have := lkC_mem hc
    have e : st = [] := List.length_eq_zero_iff.mp (by omega)
    rw [e] at this; cases this
  | N + 1, st, hl, h => by
    obtain ⟨c, hc⟩ := h.root
    cases c with
    | leaf es => exact ⟨0, [], by omega, .stop hc (fun cs z => by cases z), rfl⟩
    | inner cs =>
      by_cases h1 : cs.length = 1
      · obtain ⟨⟨k, x⟩, rfl⟩ := List.length_eq_one_iff.mp h1
        obtain ⟨c, hx⟩ := h.ex hc (c := (k, x)) (by simp)
        have x0 : x ≠ 0 := h.nz hc (c := (k, x)) (by simp)
        have hlt := shr_lt x0 hc hx
        obtain ⟨n, more, hn, hs, hm⟩ := shr_ex N _ (by omega) (h.shrink hc hx)
        exact ⟨n + 1, _, by omega, .step hc hx hs, by rw [List.length_append, hm]; simp; omega⟩
      · exact ⟨0, [], by omega, .stop hc (fun cs' z => by cases z; exact h1), rfl⟩
/-! ### the way up -/
theorem UpR.to {st : Ps} (h0 : (0 : Int) ∉ (kids st).map (·.1)) {x : Int} {ts : List Int} (u : UpR st 0 x ts) : Up st x ts := by
  induction u with
  | root => exact .root
  | @step x q ts a _ ih => exact .step (fun e => by subst e; exact h0 (List.mem_map.mpr ⟨_, a, rfl⟩)) a ih
theorem Up.chain {st : Ps} {x : Int} {ts : List Int} (u : Up st x ts) : ts[0]? = some 0 ∧ (∀ j y, ts[j + 1]? = some y → ∃ q, ts[j]? = some q ∧ (y, q) ∈ kids st) ∧ ts.getLast? = some x := by
  induction u with
  | root => exact ⟨rfl, fun j y h => by simp at h, rfl⟩
  | @step x q ts h1 h2 u ih =>
    obtain ⟨a, b, c⟩ := ih
    have hl : 0 < ts.length := by cases ts with | nil => cases a | cons _ _ => simp
    refine ⟨by rw [List.getElem?_append_left hl]; exact a, fun j y h => ?_, by simp⟩
    by_cases hj : j + 1 < ts.length
    · rw [List.getElem?_append_left hj] at h
      obtain ⟨q', e, m⟩ := b j y h
      exact ⟨q', by rw [List.getElem?_append_left (by omega)]; exact e, m⟩
    · have hj2 := (List.getElem?_eq_some_iff.mp h).1
      rw [List.length_append, List.length_singleton] at hj2
      have e : j + 1 = ts.length := by omega
      rw [List.getElem?_append_right (by omega), e, Nat.sub_self] at h
      simp at h
      subst h
      refine ⟨q, ?_, h2⟩
      rw [List.getElem?_append_left (by omega)]
      rw [List.getLast?_eq_getElem?] at c
      rw [← c]; congr 1; omega
end LW

set_option Elab.async false
set_option linter.all false
set_option maxRecDepth 100000
set_option maxHeartbeats 4000000
namespace LW
open PySem PySem.Spec L2 DL
/-! ### freeing a leaf of a drawn tree -/
theorem lkC_gone (st0 : Ps) (y : Int) : ∀ (xs : List Int) (st : Ps), lkC (layAll st (goneS st0 xs)) y = if y ∈ xs then none else lkC st y
  | [], st => by simp [goneS, layAll]
  | x :: r, st => by
    have := lkC_gone st0 y r (layC st (x, lkC st0 x, none))
    show lkC (layAll (layC st (x, lkC st0 x, none)) (goneS st0 r)) y = _
    rw [this, lkC_lay]
    by_cases h1 : y ∈ r <;> by_cases h2 : y = x <;> simp [h1, h2]
def One (st : Ps) (x : Int) : Prop := ∃ ct, lkC st x = some ct ∧ ct.len = 1
theorem at_ex {st : Ps} {ts : List Int} : ∀ a, 1 ≤ a → a < ts.length → (∀ j, a ≤ j → j + 1 < ts.length → ∃ x, ts[j]? = some x ∧ One st x) →
    ∃ b, 1 ≤ b ∧ b ≤ a ∧ (∀ j, b ≤ j → j + 1 < ts.length → ∃ x, ts[j]? = some x ∧ One st x) ∧ (b = 1 ∨ ∀ x, ts[b - 1]? = some x → ¬ One st x)
  | 0, h, _, _ => by omega
  | a + 1, h1, h2, hq => by
    by_cases ha : a = 0
    · subst ha; exact ⟨1, by omega, by omega, hq, .inl rfl⟩
    · obtain ⟨x, hx⟩ : ∃ x, ts[a]? = some x := ⟨_, List.getElem?_eq_getElem (by omega)⟩
      by_cases ho : One st x
      · obtain ⟨b, b1, b2, b3, b4⟩ := at_ex (st := st) (ts := ts) a (by omega) (by omega) fun j hj hj2 => by
          by_cases e : j = a
          · subst e; exact ⟨x, hx, ho⟩
          · exact hq j (by omega) hj2
        exact ⟨b, b1, by omega, b3, b4⟩
      · exact ⟨a + 1, h1, by omega, hq, .inr fun y hy => by
          have : a + 1 - 1 = a := by omega
          rw [this, hx] at hy; cases hy; exact ho⟩
theorem wo_ex {cs : List (Option Int × Int)} {x : Int} (nd : (cs.map (·.2)).Nodup) (h : 2 ≤ cs.length) : ∃ w, wo cs x = some w := by
  unfold wo
  cases e : cs.filter (fun c => decide (c.2 ≠ x)) with
  | cons d r => exact ⟨_, rfl⟩
  | nil =>
    exfalso
    have hall : ∀ c ∈ cs, c.2 = x := fun c hc => by
      have := List.filter_eq_nil_iff.mp e c hc
      simpa using this
    match cs, h, nd, hall with
    | a :: b :: r, _, nd, hall =>
      have h1 := hall a (by simp)
      have h2 := hall b (by simp)
      simp [h1, h2] at nd
theorem wo_sub {cs : List (Option Int × Int)} {x : Int} {w : Ct} (h : wo cs x = some w) : ∃ cs', w = .inner cs' ∧ ∀ c ∈ cs', c.2 ≠ x ∧ ∃ c' ∈ cs, c'.2 = c.2 := by
  unfold wo at h
  have hm : ∀ d ∈ cs.filter (fun c => decide (c.2 ≠ x)), d.2 ≠ x ∧ d ∈ cs := fun d hd => by
    have := List.mem_filter.mp hd
    exact ⟨of_decide_eq_true this.2, this.1⟩
  cases e : cs.filter (fun c => decide (c.2 ≠ x)) with
  | nil => rw [e] at h; cases h
  | cons d r =>
    rw [e] at h hm
    cases h
    refine ⟨_, rfl, fun c hc => ?_⟩
    rcases List.mem_cons.mp hc with rfl | hc
    · have := hm d List.mem_cons_self
      exact ⟨this.1, d, this.2, rfl⟩
    · have := hm c (List.mem_cons_of_mem _ hc)
      exact ⟨this.1, c, this.2, rfl⟩
theorem tr_free {st : Ps} (h : Tr st) {page : Int} (p0 : page ≠ 0) (hl : lkC st page = some (.leaf [])) : ∃ a ts cs pr ch wd n more, FreeE st page a ts cs pr ch wd n more ∧ ts.length ≤ 4 ∧ n ≤ 40 ∧ more.length ≤ 80 := by
  obtain ⟨kn, k0⟩ := h.kn
  have iv := h.inv
  obtain ⟨ts, ur, tl⟩ := h.up page (List.mem_map.mpr ⟨_, lkC_mem hl, rfl⟩)
  have up := ur.to k0
  obtain ⟨c1, c2, c3⟩ := up.chain
  have l2 : 2 ≤ ts.length := by
    match ts, c1, c3 with
    | [x], c1, c3 => simp at c1 c3; omega
    | _ :: _ :: _, _, _ => simp
  obtain ⟨a, a1, a2, a3, a4⟩ := at_ex (st := st) (ts := ts) (ts.length - 1) (by omega) (by omega) fun j h1 h2 => by omega
  obtain ⟨pr, hpr⟩ : ∃ x, ts[a - 1]? = some x := ⟨_, List.getElem?_eq_getElem (by omega)⟩
  obtain ⟨ch, hch⟩ : ∃ x, ts[a]? = some x := ⟨_, List.getElem?_eq_getElem (by omega)⟩
  have e1 : a - 1 + 1 = a := by omega
  have hk : (ch, pr) ∈ kids st := by
    obtain ⟨q, hq, m⟩ := c2 (a - 1) ch (by rw [e1]; exact hch)
    rw [hpr] at hq; cases hq; exact m
  obtain ⟨cs, hcs, c, hc, ec⟩ := mem_kids.mp hk
  have hlk := (lkC_iff h.nd).mpr hcs
  have n2 : a = 1 ∨ cs.length ≠ 1 := a4.imp id fun z e => z pr hpr ⟨_, hlk, e⟩
  have len2 : 2 ≤ cs.length := by
    rcases n2 with rfl | n2
    · rw [show 1 - 1 = 0 from rfl, c1] at hpr
      cases hpr
      exact h.two cs hcs
    · have := List.length_pos_iff.mpr (h.ne pr cs hcs); omega
  obtain ⟨wd, hw⟩ := wo_ex (x := ch) (h.ok _ hcs).kids len2
  have hpg : ∀ j y, ts[j]? = some y → 1 ≤ j → ∃ q, ts[j - 1]? = some q ∧ (y, q) ∈ kids st := fun j y hy hj => c2 (j - 1) y (by rw [show j - 1 + 1 = j by omega]; exact hy)
  have hdr : ∀ b ∈ ts.drop a, ∃ j, a ≤ j ∧ ts[j]? = some b := fun b hb => by
    obtain ⟨i, hi⟩ := List.getElem?_of_mem hb
    rw [List.getElem?_drop] at hi
    exact ⟨a + i, by omega, hi⟩
  have hdr2 : ∀ j b, a ≤ j → ts[j]? = some b → b ∈ ts.drop a := fun j b hj hb => by
    have : (ts.drop a)[j - a]? = some b := by rw [List.getElem?_drop, show a + (j - a) = j by omega]; exact hb
    exact List.mem_of_getElem? this
  obtain ⟨cs', rfl, hsub⟩ := wo_sub hw
  have lk : ∀ y, lkC (layAll st ((pr, some (.inner cs), some (.inner cs')) :: goneS st (ts.drop a))) y = if y ∈ ts.drop a then none else if y = pr then some (.inner cs') else lkC st y := fun y => by
    show lkC (layAll (layC st (pr, some (.inner cs), some (.inner cs'))) (goneS st (ts.drop a))) y = _
    rw [lkC_gone, lkC_lay]
  generalize hst : layAll st ((pr, some (.inner cs), some (.inner cs')) :: goneS st (ts.drop a)) = st1 at lk
  have og : ∀ {q ds}, lkC st1 q = some (.inner ds) → q ∉ ts.drop a ∧ ∃ es, lkC st q = some (.inner es) ∧ (∀ d ∈ ds, ∃ e ∈ es, e.2 = d.2) ∧ (q = pr → ∀ d ∈ ds, d.2 ≠ ch) := fun {q ds} e => by
    rw [lk] at e
    split at e
    · cases e
    · rename_i hq
      refine ⟨hq, ?_⟩
      by_cases qp : q = pr
      · subst qp
        rw [if_pos rfl] at e
        cases e
        exact ⟨cs, hlk, fun d hd => (hsub d hd).2, fun _ d hd => (hsub d hd).1⟩
      · rw [if_neg qp] at e
        exact ⟨ds, e, fun d hd => ⟨d, hd, rfl⟩, fun z => absurd z qp⟩
  have iv1 : Inv (lkC st1) := by
    refine ⟨fun {q ds d} e hd => ?_, fun {q q' ds ds' d d'} e e' hd hd' z => ?_, fun {q ds d} e hd => ?_, ?_⟩
    · obtain ⟨nq, es, he, hs, hp⟩ := og e
      obtain ⟨d', hd', ed⟩ := hs d hd
      have hkq : (d.2, q) ∈ kids st := mem_kids.mpr ⟨es, lkC_mem he, d', hd', ed⟩
      have nd : d.2 ∉ ts.drop a := fun z => by
        obtain ⟨j, hj, hjb⟩ := hdr _ z
        obtain ⟨q2, hq2, m⟩ := hpg j _ hjb (by omega)
        have := key_one kn hkq m
        subst this
        by_cases ja : j = a
        · subst ja
          rw [hpr] at hq2
          cases hq2
          rw [hch] at hjb
          exact hp rfl d hd (Option.some.inj hjb).symm
        · exact nq (hdr2 (j - 1) q (by omega) hq2)
      rw [lk, if_neg nd]
      split
      · exact ⟨_, rfl⟩
      · obtain ⟨x, hx⟩ := iv.ex he hd'
        rw [ed] at hx
        exact ⟨x, hx⟩
    · obtain ⟨_, es, he, hs, _⟩ := og e
      obtain ⟨_, es', he', hs', _⟩ := og e'
      obtain ⟨f, hf, ef⟩ := hs d hd
      obtain ⟨f', hf', ef'⟩ := hs' d' hd'
      exact iv.par he he' hf hf' (by rw [ef, ef']; exact z)
    · obtain ⟨_, es, he, hs, _⟩ := og e
      obtain ⟨f, hf, ef⟩ := hs d hd
      rw [← ef]; exact iv.nz he hf
    · have nd : (0 : Int) ∉ ts.drop a := fun z => by
        obtain ⟨j, hj, hjb⟩ := hdr _ z
        obtain ⟨q2, _, m⟩ := hpg j _ hjb (by omega)
        exact k0 (List.mem_map.mpr ⟨_, m, rfl⟩)
      rw [lk, if_neg nd]
      split
      · exact ⟨_, rfl⟩
      · exact iv.root
  have ll := layAll_len ((pr, some (.inner cs), some (.inner cs')) :: goneS st (ts.drop a)) st
  rw [hst] at ll
  have l4 : ((pr, some (Ct.inner cs), some (Ct.inner cs')) :: goneS st (ts.drop a)).length ≤ 5 := by
    unfold goneS; rw [List.length_cons, List.length_map, List.length_drop]; omega
  obtain ⟨n, more, hn, hs, hm⟩ := shr_ex 40 st1 (by have := h.len; omega) iv1
  refine ⟨a, ts, cs, pr, ch, .inner cs', n, more, ⟨p0, hl, up, a1, by omega, fun j h1 h2 => ?_, n2, hpr, hlk, hch, hw, fun b hb => ?_, by rw [hst]; exact hs⟩, tl, hn, by omega⟩
  · obtain ⟨x, hx, ct, hct, h3⟩ := a3 j h1 h2
    exact ⟨x, ct, hx, hct, h3⟩
  · obtain ⟨j, hj, hjb⟩ := hdr b hb
    obtain ⟨q, _, m⟩ := hpg j b hjb (by omega)
    exact h.page (.inr (List.mem_map.mpr ⟨_, m, rfl⟩))
/-! ### room in a drawn tree -/
theorem tr_room {st : Ps} (h : Tr st) {k : Int} {ts : List Int} {es : List (Int × PyData)} (w : Way (psD st) k 0 ts es) (tl : ts.length ≤ 4) : ∃ shs, RoomE st k ts es shs ∧ shs.length ≤ 12 := by
  by_cases hno : fullO (some (Ct.leaf es)) = false ∨ k ∈ es.map (·.1)
  · exact ⟨[], .inl ⟨hno, rfl⟩, by simp⟩
  · have h1 : fullO (some (Ct.leaf es)) = true := by
      cases e : fullO (some (Ct.leaf es)) with
      | true => rfl
      | false => exact absurd (.inl e) hno
    have h2 : k ∉ es.map (·.1) := fun z => hno (.inr z)
    have l4 : es.length = 4 := by
      have : decide ((es.length : Int) = 4) = true := h1
      have := of_decide_eq_true this; omega
    have mm := lead_le (p := fullN st) (l := ts.reverse)
    rw [List.length_reverse] at mm
    have hm : manyE st ts ≤ ts.length := mm
    have er : ts.take (ts.length - manyE st ts) ++ ts.drop (ts.length - manyE st ts) = ts := List.take_append_drop _ _
    obtain ⟨n, ln, lkn, _, _⟩ := w.last
    have many1 : 1 ≤ manyE st ts := by
      cases e : ts.reverse with
      | nil => rw [List.reverse_eq_nil_iff] at e; rw [e] at ln; cases ln
      | cons y r =>
        have : y = n := by
          rw [← List.head?_reverse, e] at ln; exact Option.some.inj ln
        subst this
        have hfn : fullN st y = true := by unfold fullN; rw [lkC_of (c := .leaf es) lkn]; exact h1
        unfold manyE
        rw [e, lead, hfn]
        simp
    have hfull : ∀ p ∈ ts.drop (ts.length - manyE st ts), ∃ c, lkC st p = some c ∧ Fl c := fun p hp => by
      obtain ⟨i, hi⟩ := List.getElem?_of_mem hp
      have hi2 := (List.getElem?_eq_some_iff.mp hi).1
      rw [List.length_drop] at hi2
      rw [List.getElem?_drop] at hi
      obtain ⟨y, hy, hf⟩ := lead_lt (p := fullN st) (l := ts.reverse) (i := manyE st ts - 1 - i) (by show _ < manyE st ts; omega)
      rw [List.getElem?_reverse (by omega)] at hy
      rw [show ts.length - 1 - (manyE st ts - 1 - i) = ts.length - manyE st ts + i by omega, hi] at hy
      cases hy
      unfold fullN at hf
      cases e : lkC st p with
      | none => rw [e] at hf; cases hf
      | some c =>
        rw [e] at hf
        exact ⟨c, rfl, (h.ok _ (lkC_mem e)).fl hf⟩
    have hlast : ∀ q, (ts.take (ts.length - manyE st ts)).getLast? = some q → ∃ ch, lkC st q = some (.inner ch) ∧ (ch.map (·.2)).Nodup := fun q hq => by
      obtain ⟨pre, e⟩ := List.getLast?_eq_some_iff.mp hq
      obtain ⟨p, r, er2⟩ : ∃ p r, ts.drop (ts.length - manyE st ts) = p :: r := by
        cases e3 : ts.drop (ts.length - manyE st ts) with
        | nil =>
          have := congrArg List.length e3
          rw [List.length_drop] at this
          simp only [List.length_nil] at this
          omega
        | cons p r => exact ⟨p, r, rfl⟩
      rw [e, er2, List.append_assoc] at er
      rw [← er] at w
      obtain ⟨cs, hcs, _, _, _, _⟩ := (Way.suffix (pre := pre) (r := p :: r) w).split
      have hq2 := lkC_of (c := .inner cs) hcs
      exact ⟨cs, hq2, (h.ok _ (lkC_mem hq2)).kids⟩
    obtain ⟨shs, hr, hs⟩ := room_go k (ts.drop (ts.length - manyE st ts)) (ts.take (ts.length - manyE st ts)) 4 st es (by rw [er]; exact w) hfull hlast h.b (by have := h.len; rw [List.length_drop]; omega) (by omega) (by rw [List.length_drop]; omega) (by rw [er, List.length_drop]; omega)
    exact ⟨shs, .inr ⟨l4, h2, hr⟩, by rw [List.length_drop] at hs; omega⟩
end LW

set_option Elab.async false
set_option linter.all false
set_option maxRecDepth 100000
set_option maxHeartbeats 4000000
namespace LW
open PySem PySem.Spec L2 DL
/-! ### shapes are small -/
theorem ShB.mono {m n : Nat} (h : m ≤ n) {s : Shp} (a : ShB m s) : ShB n s := ⟨a.1, fun c e => (a.2.1 c e).mono h, fun c e => (a.2.2 c e).mono h⟩
theorem RoomL.b {k : Int} {m : Nat} {rest : List Int} {st : Ps} {shs : List Shp} (h : RoomL k m rest st shs) (hm : 2 ≤ m) : ∀ s ∈ shs, ShB (m + rest.length) s := by
  induction h with
  | nil => intro s hs; cases hs
  | root _ _ hb hl sp _ ih =>
    intro s hs
    rcases List.mem_append.mp hs with hs | hs
    · exact (sp.b hb hl hm s hs).mono (by rw [List.length_cons]; omega)
    · exact (ih (by omega) s hs).mono (by rw [List.length_cons]; omega)
  | page _ _ _ hb hl _ _ sp _ ih =>
    intro s hs
    rcases List.mem_append.mp hs with hs | hs
    · exact (sp.b hb hl s hs).mono (by rw [List.length_cons]; omega)
    · exact (ih (by omega) s hs).mono (by rw [List.length_cons]; omega)
theorem RoomE.b {st : Ps} {k : Int} {ts : List Int} {es : List (Int × PyData)} {shs : List Shp} (h : RoomE st k ts es shs) (tl : ts.length ≤ 4) : ∀ s ∈ shs, ShB 8 s := by
  rcases h with ⟨_, rfl⟩ | ⟨_, _, h⟩
  · intro s hs; cases hs
  · exact fun s hs => (h.b (by omega) s hs).mono (by rw [List.length_drop]; omega)
theorem Shr.b {m n : Nat} {st : Ps} {shs : List Shp} (h : Shr n st shs) : PsB m st → ∀ s ∈ shs, ShB m s := by
  induction h with
  | stop _ _ => intro _ s hs; cases hs
  | @step n st k x c more h1 h2 _ ih =>
    intro hb
    have hb0 := hb _ (lkC_mem h1)
    have hbx := hb _ (lkC_mem h2)
    have hsh : ∀ s ∈ [((0 : Int), some (Ct.inner [(k, x)]), some c), (x, some c, none)], ShB m s := by
      intro s hs
      simp only [List.mem_cons, List.not_mem_nil, or_false] at hs
      rcases hs with rfl | rfl
      · exact ⟨hb0.1, hb0.2.some, hbx.2.some⟩
      · exact ⟨hbx.1, hbx.2.some, .none⟩
    intro s hs
    rcases List.mem_append.mp hs with hs | hs
    · exact hsh s hs
    · exact ih (hb.lay hsh) s hs
theorem FreeE.b {st : Ps} {page : Int} {a : Nat} {ts : List Int} {cs : List (Option Int × Int)} {pr ch : Int} {wd : Ct} {n : Nat} {more : List Shp} (hb : PsB 4 st) (hf : FreeE st page a ts cs pr ch wd n more) : ∀ s ∈ (pr, some (Ct.inner cs), some wd) :: goneS st (ts.drop a) ++ more, ShB 4 s := by
  have hbs : ∀ s ∈ (pr, some (Ct.inner cs), some wd) :: goneS st (ts.drop a), ShB 4 s := by
    have hbp := hb _ (lkC_mem hf.cc)
    intro s hs
    rcases List.mem_cons.mp hs with rfl | hs
    · exact ⟨hbp.1, hbp.2.some, (wo_b hbp.2 hf.wo).some⟩
    · obtain ⟨b, hbm, rfl⟩ := List.mem_map.mp hs
      obtain ⟨ct, hct⟩ := hf.here b hbm
      have hbb := hb _ (lkC_mem hct)
      rw [hct]
      exact ⟨hbb.1, hbb.2.some, .none⟩
  intro s hs
  rcases List.mem_append.mp hs with hs | hs
  · exact hbs s hs
  · exact hf.shr.b (hb.lay hbs) s hs
/-! ### pages in order tell no more than what each page is -/
theorem sorted_one {A : Type} (f : A → Int) : ∀ {l m : List A}, l.Pairwise (fun a b => f a < f b) → m.Pairwise (fun a b => f a < f b) → (∀ a, a ∈ l ↔ a ∈ m) → l = m
  | [], [], _, _, _ => rfl
  | [], b :: m, _, _, h => absurd ((h b).mpr List.mem_cons_self) (by simp)
  | a :: l, [], _, _, h => absurd ((h a).mp List.mem_cons_self) (by simp)
  | a :: l, b :: m, h1, h2, h => by
    have p1 := List.pairwise_cons.mp h1
    have p2 := List.pairwise_cons.mp h2
    have e : a = b := by
      rcases List.mem_cons.mp ((h a).mp List.mem_cons_self) with e | ha
      · exact e
      · rcases List.mem_cons.mp ((h b).mpr List.mem_cons_self) with e | hb
        · exact e.symm
        · have := p2.1 a ha
          have := p1.1 b hb
          omega
    subst e
    rw [sorted_one f p1.2 p2.2 fun x => ?_]
    constructor
    · intro hx
      rcases List.mem_cons.mp ((h x).mp (List.mem_cons_of_mem _ hx)) with e | hm
      · subst e; have := p1.1 x hx; omega
      · exact hm
    · intro hx
      rcases List.mem_cons.mp ((h x).mpr (List.mem_cons_of_mem _ hx)) with e | hm
      · subst e; have := p2.1 x hx; omega
      · exact hm
abbrev atO (st : Po) (n : Int) : Option Ct := (lkO st n).getD none
theorem lkO_none {st : Po} {n : Int} : lkO st n = none ↔ n ∉ st.map (·.1) := by
  constructor
  · intro h z
    obtain ⟨c, hc⟩ := lkO_some z
    rw [hc] at h; cases h
  · intro h
    cases e : lkO st n with
    | none => rfl
    | some c => exact absurd (List.mem_map.mpr ⟨_, lkO_mem e, rfl⟩) h
theorem mem_pgs {st : Po} {n : Int} {c : Ct} : (n, c) ∈ pgs st ↔ atO st n = some c := by
  unfold pgs
  rw [List.mem_filterMap]
  constructor
  · rintro ⟨k, _, h⟩
    obtain ⟨x, hx, e⟩ := Option.map_eq_some_iff.mp h
    obtain ⟨rfl, rfl⟩ := Prod.mk.inj e
    exact hx
  · intro h
    refine ⟨n, (srtI_perm _).mem_iff.mpr ?_, by rw [show (lkO st n).getD none = some c from h]; rfl⟩
    cases e : lkO st n with
    | none => unfold atO at h; rw [e] at h; cases h
    | some o => exact List.mem_map.mpr ⟨_, lkO_mem e, rfl⟩
theorem pgs_asc {st : Po} (nd : (st.map (·.1)).Nodup) : (pgs st).Pairwise (fun a b => a.1 < b.1) := by
  unfold pgs
  have h1 : (srtI (st.map (·.1))).Pairwise (· < ·) := by
    have h2 := srtI_sorted (st.map (·.1))
    have h3 := (srtI_perm (st.map (·.1))).nodup_iff.mpr nd
    exact (List.pairwise_and_iff.mpr ⟨h2, h3⟩ : List.Pairwise (fun a b => a ≤ b ∧ a ≠ b) _).imp fun ⟨a, b⟩ => by omega
  refine List.pairwise_filterMap.mpr (h1.imp fun {a b} hab x hx y hy => ?_)
  obtain ⟨_, _, rfl⟩ := Option.map_eq_some_iff.mp hx
  obtain ⟨_, _, rfl⟩ := Option.map_eq_some_iff.mp hy
  exact hab
theorem pgs_ext {a b : Po} (na : (a.map (·.1)).Nodup) (nb : (b.map (·.1)).Nodup) (h : ∀ n, atO a n = atO b n) : pgs a = pgs b :=
  sorted_one (·.1) (pgs_asc na) (pgs_asc nb) fun ⟨n, c⟩ => by rw [mem_pgs, mem_pgs, h]
theorem atO_of (st : Ps) (n : Int) : atO (poOf st) n = lkC st n := by
  unfold atO lkO lkC poOf
  rw [List.find?_map]
  cases e : st.find? ((fun e : Int × Option Ct => decide (e.1 = n)) ∘ fun e => (e.1, some e.2)) with
  | none =>
    have : st.find? (fun e => decide (e.1 = n)) = none := e
    rw [this]; rfl
  | some x =>
    have : st.find? (fun e => decide (e.1 = n)) = some x := e
    rw [this]; rfl
theorem poOf_ids (st : Ps) : (poOf st).map (·.1) = st.map (·.1) := by unfold poOf; rw [List.map_map]; rfl
/-- the pages in order are the pages -/
theorem pgs_perm {st : Ps} (nd : (st.map (·.1)).Nodup) : (pgs (poOf st)).Perm st := by
  have n1 : (pgs (poOf st)).Nodup := (pgs_asc (by rw [poOf_ids]; exact nd)).imp fun h e => by subst e; omega
  have n2 : st.Nodup := List.Pairwise.of_map _ (fun a b h e => h (by rw [e])) nd
  refine (List.perm_ext_iff_of_nodup n1 n2).mpr fun ⟨n, c⟩ => ?_
  rw [mem_pgs, atO_of, lkC_iff nd]
/-! ### the law lays shapes in its own way -/
def putO (st : Po) (n : Int) (o : Option Ct) : Po := if n ∈ st.map (·.1) then st.map (fun e => if e.1 = n then (e.1, o) else e) else st ++ [(n, o)]
def putAll (st : Po) (shs : List Shp) : Po := shs.foldl (fun st s => putO st s.1 s.2.2) st
theorem putO_ids (st : Po) (n : Int) (o : Option Ct) : (putO st n o).map (·.1) = if n ∈ st.map (·.1) then st.map (·.1) else st.map (·.1) ++ [n] := by
  unfold putO
  split
  · rw [List.map_map]
    refine List.map_congr_left fun e _ => ?_
    show (if e.1 = n then (e.1, o) else e).1 = e.1
    split <;> rfl
  · rw [List.map_append]; rfl
theorem putO_nd {st : Po} {n : Int} {o : Option Ct} (nd : (st.map (·.1)).Nodup) : ((putO st n o).map (·.1)).Nodup := by
  rw [putO_ids]
  split
  · exact nd
  · rename_i h
    refine List.nodup_append.mpr ⟨nd, by simp, fun a ha b hb e => ?_⟩
    simp at hb; subst hb; subst e; exact h ha
theorem lkO_cons {e : Int × Option Ct} {st : Po} {n : Int} : lkO (e :: st) n = if e.1 = n then some e.2 else lkO st n := by
  unfold lkO
  rw [List.find?_cons]
  by_cases h : e.1 = n <;> simp [h]
theorem lkO_app {a b : Po} {n : Int} : lkO (a ++ b) n = (lkO a n).or (lkO b n) := by
  unfold lkO
  rw [List.find?_append]
  cases a.find? (fun e => decide (e.1 = n)) <;> rfl
theorem lkO_put (n x : Int) (o : Option Ct) (st : Po) : lkO (putO st n o) x = if x = n then some o else lkO st x := by
  unfold putO
  split
  · rename_i h
    induction st with
    | nil => cases h
    | cons e r ih =>
      rw [List.map_cons, lkO_cons, lkO_cons]
      by_cases h1 : e.1 = n
      · rw [if_pos h1]
        by_cases h2 : x = n
        · rw [if_pos (by rw [h1, h2]), if_pos h2]
        · rw [if_neg (by rw [h1]; exact Ne.symm h2), if_neg h2, if_neg (by rw [h1]; exact Ne.symm h2)]
          have : ∀ r : Po, lkO (r.map fun e => if e.1 = n then (e.1, o) else e) x = lkO r x := fun r => by
            induction r with
            | nil => rfl
            | cons e r ih =>
              rw [List.map_cons, lkO_cons, lkO_cons, ih]
              by_cases h3 : e.1 = n
              · rw [if_pos h3, if_neg (by show ¬ e.1 = x; rw [h3]; exact Ne.symm h2), if_neg (by rw [h3]; exact Ne.symm h2)]
              · rw [if_neg h3]
          exact this r
      · have hr : n ∈ r.map (·.1) := by
          rw [List.map_cons] at h
          rcases List.mem_cons.mp h with e1 | h
          · exact absurd e1.symm h1
          · exact h
        rw [if_neg h1, ih hr]
        by_cases h2 : x = n
        · rw [if_pos h2, if_neg (by rw [h2]; exact h1), if_pos h2]
        · rw [if_neg h2]; rw [if_neg h2]
  · rename_i h
    rw [lkO_app, lkO_cons]
    by_cases h2 : x = n
    · subst h2
      rw [lkO_none.mpr h]; simp
    · rw [if_neg (by exact fun e => h2 e.symm), if_neg h2]
      cases lkO st x <;> rfl
theorem put_lay : ∀ (shs : List Shp) (st : Ps) (po : Po), (po.map (·.1)).Nodup → (∀ n, atO po n = lkC st n) → ((putAll po shs).map (·.1)).Nodup ∧ ∀ n, atO (putAll po shs) n = lkC (layAll st shs) n
  | [], st, po, nd, h => ⟨nd, h⟩
  | s :: r, st, po, nd, h => put_lay r (layC st s) (putO po s.1 s.2.2) (putO_nd nd) fun n => by
    unfold atO
    rw [lkO_put, lkC_lay]
    by_cases e : n = s.1
    · rw [if_pos e, if_pos e]; rfl
    · rw [if_neg e, if_neg e]; exact h n
theorem layC_nd {st : Ps} {s : Shp} (nd : (st.map (·.1)).Nodup) : ((layC st s).map (·.1)).Nodup := by
  have h1 : ((dropC st s.1).map (·.1)).Nodup := List.Nodup.sublist (List.Sublist.map _ List.filter_sublist) nd
  unfold layC
  split
  · exact h1
  · rw [List.map_append]
    refine List.nodup_append.mpr ⟨h1, by simp, fun a ha b hb e => ?_⟩
    simp at hb; subst hb; subst e
    obtain ⟨x, hx, e⟩ := List.mem_map.mp ha
    exact of_decide_eq_true (List.mem_filter.mp hx).2 e
theorem layAll_nd : ∀ (shs : List Shp) {st : Ps}, (st.map (·.1)).Nodup → ((layAll st shs).map (·.1)).Nodup
  | [], _, h => h
  | s :: r, st, h => layAll_nd r (st := layC st s) (layC_nd h)
/-- the program's pages behind shapes are the law's -/
theorem due_is {st : Ps} (nd : (st.map (·.1)).Nodup) (shs : List Shp) : pgs (poOf (layAll (pgs (poOf st)) shs)) = pgs (putAll (poOf st) shs) := by
  have p := pgs_perm nd
  have nd' : ((pgs (poOf st)).map (·.1)).Nodup := (p.map _).nodup_iff.mpr nd
  obtain ⟨a, b⟩ := put_lay shs (pgs (poOf st)) (poOf st) (by rw [poOf_ids]; exact nd) fun n => by rw [atO_of, lkC_perm nd p]
  exact pgs_ext (by rw [poOf_ids]; exact layAll_nd shs nd') a fun n => by rw [atO_of, b]
end LW

set_option Elab.async false
set_option linter.all false
set_option maxRecDepth 100000
set_option maxHeartbeats 4000000
namespace LW
open PySem PySem.Spec L2 DL
local macro_rules | `(tactic| walk_at "mem") => `(tactic| ((repeat rw [upM_ne (by assumption)]); first | exact upM_same | assumption))
local macro_rules | `(tactic| walk_at "look") => `(tactic| first | rfl | assumption | exact atI_map0 | exact atI_map1 | walk_at "mem" | (with_reducible apply lsOf_m; walk_at "mem") | (with_reducible apply sqOf_m; walk_at "mem") | (with_reducible apply rlOf_m; walk_at "mem") | (with_reducible apply sqOf'_m; walk_at "mem") | (with_reducible apply tru_l; walk_at "mem") | (with_reducible apply tru_d; walk_at "mem") | ((simp (discharger := assumption) only [sqOf, sqOf', rlOf, lsOf, tru, upM_same, upM_ne]) <;> rfl))
local macro_rules | `(tactic| walk_at "set") => `(tactic| (simp only [wipeD, List.set_cons_zero, List.set_cons_succ, List.set_nil]; rfl))
local macro_rules | `(tactic| walk_at "side") => `(tactic| first | omega | (simp only [List.length_map, List.length_cons, List.length_nil]; omega) | assumption | rfl | decide | exact ⟨by omega, by omega⟩ | exact Nat.le_of_ble_eq_true rfl)
local macro_rules | `(tactic| walk_at "head") => `(tactic| with_reducible conv => whnf)
local macro_rules | `(tactic| walk_at "step") => `(tactic| (walk_at "head"; first
  | ((with_reducible apply gN_go); (focus walk_at "set"))
  | ((with_reducible apply e1s); (focus rfl))
  | ((with_reducible apply e1); (focus walk_at "look"))
  | ((with_reducible apply e2); (focus walk_at "look"); (focus walk_at "look"))
  | ((with_reducible apply l1); (focus walk_at "look"))
  | ((with_reducible apply l2); (focus walk_at "look"); (focus walk_at "look"))
  | ((with_reducible apply e3); (focus walk_at "look"); (focus walk_at "look"); (focus walk_at "look"))
  | ((with_reducible apply e0a); (focus walk_at "look"))
  | ((with_reducible apply And.intro); (focus walk_at "side"))
  | ((with_reducible apply d1); (focus walk_at "look"))
  | ((with_reducible apply d2); (focus walk_at "look"); (focus walk_at "look"))
  | ((with_reducible apply d3); (focus walk_at "look"); (focus walk_at "look"); (focus walk_at "look"))
  | ((with_reducible apply d0); (focus walk_at "look"))
  | ((with_reducible apply lk1); (focus walk_at "look"))
  | with_reducible apply gw2_go
  | with_reducible apply gw3_go
  | with_reducible apply gs_go
  | with_reducible apply gt2_go
  | with_reducible apply gt3_go
  | with_reducible apply gt1_go
  | with_reducible apply gt4_go
  | with_reducible apply gt5_go
  | with_reducible apply gt6_go
  | with_reducible apply gt7_go
  | with_reducible apply gt8_go
  | with_reducible apply ift_go
  | with_reducible apply iff_go
  | ((with_reducible apply ifT_go); (focus rfl))
  | ((with_reducible apply ifF_go); (focus rfl))))
local macro_rules | `(tactic| walk_at "run") => `(tactic| (repeat walk_at "step"); walk_at "head")
local macro_rules | `(tactic| walk_at "start") => `(tactic| simp only [startD, List.map_cons, List.map_nil, List.length_cons, List.length_nil, List.replicate, List.cons_append, List.nil_append, Nat.reduceAdd, Nat.reduceSub, bodyK])
theorem put_po (n : Int) (o : Option Ct) (st : Po) : putS (stS (poD st)) (.inl n) (.d (ctD o)) = stS (poD (putO st n o)) := by
  have hm : ((stS (poD st)).any fun kv => decide (kv.1 = .inl n)) = true ↔ n ∈ st.map (·.1) := by
    rw [List.any_map, List.any_map, List.any_eq_true]
    constructor
    · rintro ⟨x, hx, h⟩
      have : (Sum.inl x.1 : Key) = .inl n := of_decide_eq_true h
      cases this; exact List.mem_map.mpr ⟨x, hx, rfl⟩
    · intro h
      obtain ⟨x, hx, rfl⟩ := List.mem_map.mp h
      exact ⟨x, hx, decide_eq_true rfl⟩
  unfold putS putO
  by_cases h : n ∈ st.map (·.1)
  · rw [if_pos (hm.mpr h), if_pos h]
    simp only [stS, poD, List.map_map]
    refine List.map_congr_left fun e _ => ?_
    by_cases h1 : e.1 = n
    · simp [h1]
    · have : (Sum.inl e.1 : Key) ≠ .inl n := fun z => h1 (Sum.inl.inj z)
      simp [h1, this]
  · rw [if_neg (fun z => h (hm.mp z)), if_neg h]
    simp [stS, poD]
theorem val_po (po : Po) (n : Int) : (valS (stS (poD po)) (.inl n)).getD (Sl.d freeD) = .d (ctD (atO po n)) := by
  rw [valS_st, lkE_poD]
  unfold atO
  cases lkO po n <;> rfl
theorem atO_b {m : Nat} {po : Po} (h : PoB m po) (n : Int) : OcB m (atO po n) := by
  unfold atO
  cases e : lkO po n with
  | none => exact .none
  | some o => exact (h _ (lkO_mem e)).2
theorem putO_b {m : Nat} {po : Po} (h : PoB m po) {n : Int} {o : Option Ct} (hn : IdB n) (ho : OcB m o) : PoB m (putO po n o) := by
  intro e he
  unfold putO at he
  split at he
  · obtain ⟨x, hx, rfl⟩ := List.mem_map.mp he
    split
    · exact ⟨(h x hx).1, ho⟩
    · exact h x hx
  · rcases List.mem_append.mp he with he | he
    · exact h e he
    · simp at he; subst he; exact ⟨hn, ho⟩
theorem putO_len (po : Po) (n : Int) (o : Option Ct) : (putO po n o).length ≤ po.length + 1 := by
  unfold putO
  split
  · rw [List.length_map]; omega
  · rw [List.length_append]; simp
def cn_drawn : Cn := fun rs M R => ∃ b B s st m, rs = [.v (.ref b), .v (.ref s)] ∧ M b = some (Bx.mo B) ∧ Bx.Ok B (m + 30) ∧ M s = some (memP st) ∧ PsB 4 st ∧ st.length ≤ 30 ∧ ∀ (shs : List Shp) B', (∀ x ∈ shs, ShB 8 x) → shs.length ≤ 5 → Bx.Ok B' m → R (.d (.list (shs.map shD))) (upM M b B'.mo)
section
variable {P : Program} {w : World} {K : PySem.W.Frag} {mg : Str → Option Value} {base : Heap}
theorem ok_drawn (T : Tx K mg) (H__law_take : Has P w K mg base 1 "_law_take" s__law_take ["_law_box_here", "_law_below"] cn_take) (H__law_of : Has P w K mg base 2 "_law_of" s__law_of ["_law_box_here", "_law_some"] cn_of) {f : Addr} {fd : FuncData} (Fu : Fun K "_law_drawn" "_law_drawn" s__law_drawn f fd) : FnD P w K mg base 3 f fd ["_law_box_here", "_law_stuffs"] cn_drawn := by
  refine fnD_of Fu sc__law_drawn (fun rs M R h => ?_) fun cdv A outer s H hgd hr => ⟨_, (pdb_cons (pds_par 3 4 rfl sc__law_drawn.nd (by decide) (pda_cons (pd_lstM pda_nil) (pda_cons (pd_callT c_dictD (by rfl) T.z_dict (by decide +kernel) (pda_cons (pd_var 1) pda_nil)) pda_nil)))
      (pdb_cons (pds_for PassesOwn.never rfl (pdi_range1 (by rfl) T.z_range (pda_cons (pd_fn H__law_take hgd (hr.mono (by first | decide | omega)) (by rfl) (pda_cons (pd_var 0) (pda_cons pd_int pda_nil))) pda_nil)) (pdg_name 2 sc__law_drawn.nd) (pdb_cons (pds_set 5 sc__law_drawn.nd (pd_fn H__law_of hgd (hr.mono (by first | decide | omega)) (by rfl) (pda_cons (pd_var 0) (pda_cons (pd_op o_plus (pd_callB (c_sortedD rfl) (by rfl) T.z_sorted (by decide +kernel) (pda_cons (pd_var 4) pda_nil)) (pd_lst (pda_cons (pd_fn H__law_take hgd (hr.mono (by first | decide | omega)) (by rfl) (pda_cons (pd_var 0) (pda_cons pd_int pda_nil))) (pda_cons (pd_fn H__law_take hgd (hr.mono (by first | decide | omega)) (by rfl) (pda_cons (pd_var 0) (pda_cons pd_int pda_nil))) pda_nil)))) pda_nil))))
      (pdb_cons (pds_set 6 sc__law_drawn.nd (pd_lst (pda_cons (pd_tup (pda_cons pd_str pda_nil)) (pda_cons (pd_tup (pda_cons pd_str (pda_cons (pd_tup pda_nil) pda_nil))) (pda_cons (pd_tup (pda_cons pd_str (pda_cons (pd_tup (pda_cons (pd_tup (pda_cons (pd_fn H__law_take hgd (hr.mono (by first | decide | omega)) (by rfl) (pda_cons (pd_var 0) (pda_cons pd_int pda_nil))) (pda_cons pd_str pda_nil))) pda_nil)) pda_nil))) (pda_cons (pd_tup (pda_cons pd_str (pda_cons (pd_tup (pda_cons (pd_tup (pda_cons pd_non (pda_cons pd_int pda_nil))) pda_nil)) pda_nil))) pda_nil))))))
      (pdb_cons (pds_set 7 sc__law_drawn.nd (pd_fn H__law_of hgd (hr.mono (by first | decide | omega)) (by rfl) (pda_cons (pd_var 0) (pda_cons (pd_var 6) pda_nil))))
      (pdb_cons (pds_expr (pd_append (pd_var 3) (pda_cons (pd_tup (pda_cons (pd_var 5) (pda_cons (pd_get2 (hu_of hr) (pd_var 4) (pd_var 5) (pd_tup (pda_cons pd_str pda_nil))) (pda_cons (pd_var 7) pda_nil)))) pda_nil)))
      (pdb_one (pds_dput (hu_of hr) (pd_var 4) (pd_var 5) (pd_var 7))))))))
      (pdb_one (pds_ret (pd_var 3))))), ?_⟩
  · obtain ⟨b, B, s, st, m, rfl, _⟩ := h
    rfl
  · rintro rs M R ⟨b, B, sA, st, m, rfl, hb, ok, hs, hst, hl, k⟩
    have hbs : sA ≠ b := fun e => by subst e; rw [hb] at hs; cases hs
    walk_at "start"
    walk_at "run"
    intro p hp
    have mb := keep (u := .lst []) hb hp
    have ms := keep (u := .lst []) hs hp
    have mp : upM M p (.lst []) p = some (.lst (shS [])) := upM_same
    have kp : Kp [b] M (upM M p (.lst [])) := (Kp.refl _ _).new hp
    have hbp : b ≠ p := neM hb hp
    generalize upM M p (.lst []) = M1 at mb ms mp kp ⊢
    walk_at "run"
    intro q hq
    have hqb : b ≠ q := neM mb hq
    have hqp : p ≠ q := neM mp hq
    have hqM : M q = none := by
      cases e : M q with
      | none => rfl
      | some o => rw [kp q o (by simp; exact Ne.symm hqb) e] at hq; cases hq
    have mb := keep (u := memP st) mb hq
    have ms := keep (u := memP st) ms hq
    have mp := keep (u := memP st) mp hq
    have mq : upM M1 q (memP st) q = some (memO (poOf st)) := by rw [upM_same]; unfold memO; rw [poD_of]
    have kp : Kp [b] M (upM M1 q (memP st)) := kp.upN hqM
    generalize upM M1 q (memP st) = M2 at mb ms mp mq kp ⊢
    simp only [List.set_cons_zero, List.set_cons_succ]
    walk_at "run"
    refine ⟨b, B, _, m + 29, rfl, mb, ok, by decide, by decide, fun v B1 v0 v1 ok1 => ?_⟩
    have mb1 : upM M2 b B1.mo b = some B1.mo := upM_same
    have mp1 : upM M2 b B1.mo p = some (.lst (shS [])) := by rw [upM_ne (Ne.symm hbp)]; exact mp
    have mq1 : upM M2 b B1.mo q = some (memO (poOf st)) := by rw [upM_ne (Ne.symm hqb)]; exact mq
    have kp1 : Kp [b] M (upM M2 b B1.mo) := kp.up (by simp)
    generalize upM M2 b B1.mo = M3 at mb1 mp1 mq1 kp1 ⊢
    walk_at "run"
    refine for_ind (fun rest dl M' => ∃ (B' : Bx) (shs : List Shp) (po : Po) (x2 x5 x6 x7 : Option Sl), M' b = some B'.mo ∧ Bx.Ok B' (m + 5 * rest.length) ∧ M' p = some (.lst (shS shs)) ∧ M' q = some (memO po) ∧ PoB 8 po ∧ po.length + rest.length ≤ 40 ∧ (∀ x ∈ shs, ShB 8 x) ∧ shs.length + rest.length ≤ 5 ∧ Kp [b] M M' ∧ dl = [some (.v (.ref b)), some (.v (.ref sA)), x2, some (.v (.ref p)), some (.v (.ref q)), x5, x6, x7]) ?_ ?_ ⟨B1, [], poOf st, _, _, _, _, mb1, ok1.mono (by simp [rngS]; omega), mp1, mq1, poOf_b (hst.mono (by omega)), by unfold poOf; rw [List.length_map]; simp [rngS]; omega, (by intro x hx; cases hx), by simp [rngS]; omega, kp1, rfl⟩
    · rintro _ M' ⟨B', shs, po, x2, x5, x6, x7, h1, h2, h3, h4, h5, h6, h7, h8, h9, rfl⟩
      refine ⟨trivial, ?_⟩
      walk_at "run"
      refine ⟨_, _, Vw.frz (ds := shs.map shD) h3 (le1 h1 h9) ?_, k shs B' h7 (by simpa using h8) (by simpa using h2)⟩
      rw [upM_ne (Ne.symm hbp)]; exact hp
    · rintro x rest nx _ M' hnx ⟨B', shs, po, x2, x5, x6, x7, h1, h2, h3, h4, h5, h6, h7, h8, h9, rfl⟩
      refine ⟨trivial, ?_⟩
      rw [List.length_cons] at h2 h6 h8
      walk_at "run"
      refine d2 h4 (keysI_po _) ?_
      refine ⟨by rw [List.length_map]; omega, ?_⟩
      walk_at "run"
      refine ⟨b, B', _, m + 5 * rest.length + 4, rfl, h1, h2.mono (by omega), by decide, by decide, fun y1 B2 y10 y11 ok2 => ?_⟩
      walk_at "run"
      refine ⟨b, B2, _, m + 5 * rest.length + 3, rfl, upM_same, ok2.mono (by omega), by decide, by decide, fun y2 B3 y20 y21 ok3 => ?_⟩
      rw [upM_upM]
      walk_at "run"
      have lS : (srtI (po.map (·.1))).length = po.length := by rw [(srtI_perm _).length_eq, List.length_map]
      refine ⟨_, _, _, rfl, rfl, by rw [← List.map_append]; exact datOf_map _, by simp [sizeLine_eq, lS]; omega, ?_⟩
      walk_at "run"
      refine ⟨b, B3, _, m + 5 * rest.length + 2, rfl, upM_same, ok3.mono (by omega), by simp, by simp [lS]; omega, fun d B4 hd ok4 => ?_⟩
      obtain ⟨n, rfl, hn⟩ : ∃ n, d = .int n ∧ IdB n := by
        rcases List.mem_append.mp hd with hd | hd
        · obtain ⟨n, hn, rfl⟩ := List.mem_map.mp hd
          obtain ⟨e, he, rfl⟩ := List.mem_map.mp ((srtI_perm _).mem_iff.mp hn)
          exact ⟨_, rfl, (h5 e he).1⟩
        · simp only [List.mem_cons, List.not_mem_nil, or_false] at hd
          rcases hd with rfl | rfl
          · exact ⟨_, rfl, by omega, by omega⟩
          · exact ⟨_, rfl, by omega, by omega⟩
      rw [upM_upM]
      walk_at "run"
      refine ⟨b, B4, _, m + 5 * rest.length + 1, rfl, upM_same, ok4.mono (by omega), by decide, by decide, fun y3 B5 y30 y31 ok5 => ?_⟩
      rw [upM_upM]
      walk_at "run"
      refine ⟨b, B5, _, m + 5 * rest.length, rfl, upM_same, ok5.mono (by omega), by simp, by simp, fun d B6 hd ok6 => ?_⟩
      obtain ⟨o, rfl, ho⟩ : ∃ o, d = ctD o ∧ OcB 8 o := by
        simp only [List.mem_cons, List.not_mem_nil, or_false] at hd
        rcases hd with rfl | rfl | rfl | rfl
        · exact ⟨none, rfl, .none⟩
        · exact ⟨some (.leaf []), rfl, (CtB.leaf (by simp) (by simp)).some⟩
        · refine ⟨some (.leaf [(y3, .str "ghost")]), rfl, (CtB.leaf (by simp) fun e he => ?_).some⟩
          simp at he; subst he
          exact ⟨⟨y30, by show y3 < 10000000; omega⟩, .inl rfl⟩
        · refine ⟨some (.inner [(none, 7)]), rfl, (CtB.inner (by simp) fun e he => ?_).some⟩
          simp at he; subst he
          exact ⟨(fun k hk => by cases hk), by decide, by decide⟩
      rw [upM_upM]
      have g1 : upM M' b B6.mo b = some B6.mo := upM_same
      have g3 : upM M' b B6.mo p = some (.lst (shS shs)) := by rw [upM_ne (Ne.symm hbp)]; exact h3
      have g4 : upM M' b B6.mo q = some (memO po) := by rw [upM_ne (Ne.symm hqb)]; exact h4
      have g9 : Kp [b] M (upM M' b B6.mo) := h9.up (by simp)
      generalize upM M' b B6.mo = M4 at g1 g3 g4 g9 ⊢
      walk_at "run"
      refine ⟨[.int n, ctD (atO po n), ctD o], by
        show datOf [Sl.d (.int n), (valS (stS (poD po)) (.inl n)).getD (Sl.d freeD), Sl.d (ctD o)] = _
        rw [val_po]; rfl, by simp [sizeLine_eq], ?_⟩
      walk_at "run"
      refine ⟨by rw [shS, List.length_map, List.length_map, sizeLine_eq]; omega, ?_⟩
      have es : shS shs ++ [Sl.d (.tuple [.int n, ctD (atO po n), ctD o])] = shS (shs ++ [(n, atO po n, o)]) := by unfold shS; simp
      rw [es]
      have k1 := g1
      have k3 : upM M4 p (.lst (shS (shs ++ [(n, atO po n, o)]))) p = some (.lst (shS (shs ++ [(n, atO po n, o)]))) := upM_same
      have k1 : upM M4 p (.lst (shS (shs ++ [(n, atO po n, o)]))) b = some B6.mo := by rw [upM_ne hbp]; exact g1
      have k4 : upM M4 p (.lst (shS (shs ++ [(n, atO po n, o)]))) q = some (memO po) := by rw [upM_ne (Ne.symm hqp)]; exact g4
      have k9 : Kp [b] M (upM M4 p (.lst (shS (shs ++ [(n, atO po n, o)])))) := g9.upN hp
      generalize upM M4 p (.lst (shS (shs ++ [(n, atO po n, o)]))) = M5 at k1 k3 k4 k9 ⊢
      walk_at "run"
      refine ⟨by rw [List.length_map, List.length_map, sizeLine_eq]; omega, ?_⟩
      rw [put_po]
      have pl := putO_len po n o
      refine hnx _ _ ⟨B6, shs ++ [(n, atO po n, o)], putO po n o, _, _, _, _, ?_, ok6, ?_, upM_same, putO_b h5 hn ho, by omega, fun y hy => ?_, by rw [List.length_append, List.length_singleton]; omega, k9.upN hqM, rfl⟩
      · rw [upM_ne hqb]; exact k1
      · rw [upM_ne hqp]; exact k3
      · rcases List.mem_append.mp hy with hy | hy
        · exact h7 y hy
        · rw [List.mem_singleton] at hy; subst hy
          exact ⟨hn, atO_b h5 n, ho⟩
end
end LW

set_option Elab.async false
set_option linter.all false
set_option maxRecDepth 100000
set_option maxHeartbeats 4000000
namespace LW
open PySem PySem.Spec L2 DL
local macro_rules | `(tactic| walk_at "mem") => `(tactic| ((repeat rw [upM_ne (by assumption)]); first | exact upM_same | assumption))
local macro_rules | `(tactic| walk_at "look") => `(tactic| first | rfl | assumption | exact atI_map0 | exact atI_map1 | walk_at "mem" | (with_reducible apply lsOf_m; walk_at "mem") | (with_reducible apply sqOf_m; walk_at "mem") | (with_reducible apply rlOf_m; walk_at "mem") | (with_reducible apply sqOf'_m; walk_at "mem") | (with_reducible apply tru_l; walk_at "mem") | (with_reducible apply tru_d; walk_at "mem") | ((simp (discharger := assumption) only [sqOf, sqOf', rlOf, lsOf, tru, upM_same, upM_ne]) <;> rfl))
local macro_rules | `(tactic| walk_at "set") => `(tactic| (simp only [wipeD, List.set_cons_zero, List.set_cons_succ, List.set_nil]; rfl))
local macro_rules | `(tactic| walk_at "side") => `(tactic| first | omega | (simp only [List.length_map, List.length_cons, List.length_nil]; omega) | assumption | rfl | decide | exact ⟨by omega, by omega⟩ | exact Nat.le_of_ble_eq_true rfl)
local macro_rules | `(tactic| walk_at "head") => `(tactic| with_reducible conv => whnf)
local macro_rules | `(tactic| walk_at "step") => `(tactic| (walk_at "head"; first
  | ((with_reducible apply gN_go); (focus walk_at "set"))
  | ((with_reducible apply e1s); (focus rfl))
  | ((with_reducible apply e1); (focus walk_at "look"))
  | ((with_reducible apply e2); (focus walk_at "look"); (focus walk_at "look"))
  | ((with_reducible apply l1); (focus walk_at "look"))
  | ((with_reducible apply l2); (focus walk_at "look"); (focus walk_at "look"))
  | ((with_reducible apply e3); (focus walk_at "look"); (focus walk_at "look"); (focus walk_at "look"))
  | ((with_reducible apply e0a); (focus walk_at "look"))
  | ((with_reducible apply And.intro); (focus walk_at "side"))
  | ((with_reducible apply d1); (focus walk_at "look"))
  | ((with_reducible apply d2); (focus walk_at "look"); (focus walk_at "look"))
  | ((with_reducible apply d3); (focus walk_at "look"); (focus walk_at "look"); (focus walk_at "look"))
  | ((with_reducible apply d0); (focus walk_at "look"))
  | ((with_reducible apply lk1); (focus walk_at "look"))
  | with_reducible apply gw2_go
  | with_reducible apply gw3_go
  | with_reducible apply gs_go
  | with_reducible apply gt2_go
  | with_reducible apply gt3_go
  | with_reducible apply gt1_go
  | with_reducible apply gt4_go
  | with_reducible apply gt5_go
  | with_reducible apply gt6_go
  | with_reducible apply gt7_go
  | with_reducible apply gt8_go
  | with_reducible apply ift_go
  | with_reducible apply iff_go
  | ((with_reducible apply ifT_go); (focus rfl))
  | ((with_reducible apply ifF_go); (focus rfl))))
local macro_rules | `(tactic| walk_at "run") => `(tactic| (repeat walk_at "step"); walk_at "head")
local macro_rules | `(tactic| walk_at "start") => `(tactic| simp only [startD, List.map_cons, List.map_nil, List.length_cons, List.length_nil, List.replicate, List.cons_append, List.nil_append, Nat.reduceAdd, Nat.reduceSub, bodyK])
abbrev dS (ds : List PyData) : List Sl := ds.map Sl.d
theorem eqv_nilD (ds : List PyData) : PyData.eqv (.list ds) (.list []) = ds.isEmpty := by
  cases ds <;> simp [PyData.eqv, PyData.eqvAll]
def cn_strewnD : Cn := fun rs M R => ∃ b B a ds m, rs = [.v (.ref b), .v (.ref a)] ∧ M b = some (Bx.mo B) ∧ Bx.Ok B (m + ds.length) ∧ M a = some (.lst (dS ds)) ∧ (∀ es, (∀ d ∈ es, d ∈ ds) → es.length ≤ ds.length → SeqAt.shaped (.list es) = true) ∧ ds.length ≤ 1000 ∧ ∀ es B', es.Perm ds → Bx.Ok B' m → R (.d (.list es)) (upM M b B'.mo)
section
variable {P : Program} {w : World} {K : PySem.W.Frag} {mg : Str → Option Value} {base : Heap}
theorem ok_strewnD (T : Tx K mg) (H__law_take : Has P w K mg base 1 "_law_take" s__law_take ["_law_box_here", "_law_below"] cn_take) {f : Addr} {fd : FuncData} (Fu : Fun K "_law_strewn" "_law_strewn" s__law_strewn f fd) : FnD P w K mg base 2 f fd ["_law_box_here", "_law_some"] cn_strewnD := by
  refine fnD_of Fu sc__law_strewn (fun rs M R h => ?_) fun cdv A outer s H hgd hr => ⟨_, (pdb_cons (pds_par 2 3 rfl sc__law_strewn.nd (by decide) (pda_cons (pd_callT c_listM (by rfl) T.z_list (by decide +kernel) (pda_cons (pd_var 1) pda_nil)) (pda_cons (pd_lstM pda_nil) pda_nil)))
      (pdb_cons (pds_while PassesOwn.never (pdt_cmp (o_ne hr.units) (pd_var 2) (pd_lst pda_nil) (nomark _)) (pdb_one (pds_expr (pd_append (pd_var 3) (pda_cons (pd_popAt (pd_var 2) (pda_cons (pd_fn H__law_take hgd (hr.mono (by first | decide | omega)) (by rfl) (pda_cons (pd_var 0) (pda_cons (pd_callB c_len (by rfl) T.z_len (by decide +kernel) (pda_cons (pd_var 2) pda_nil)) pda_nil))) pda_nil)) pda_nil)))))
      (pdb_one (pds_ret (pd_var 3))))), ?_⟩
  · obtain ⟨b, B, a, ds, m, rfl, _⟩ := h
    rfl
  · rintro rs M R ⟨b, B, a, ds, m, rfl, hb, ok, ha, sm, hl, k⟩
    walk_at "start"
    walk_at "run"
    intro p hp
    walk_at "run"
    intro q hq
    have hpq : q ≠ p := fun e => by subst e; rw [upM_same] at hq; cases hq
    rw [upM_ne hpq] at hq
    have hbp : b ≠ p := neM hb hp
    have hbq : b ≠ q := neM hb hq
    simp only [List.set_cons_zero, List.set_cons_succ]
    walk_at "run"
    refine while_ind1 (n := ds.length) (fun n dl M' => ∃ left found B', dl = [some (.v (.ref b)), some (.v (.ref a)), some (.v (.ref p)), some (.v (.ref q))] ∧ M' b = some (Bx.mo B') ∧ Bx.Ok B' (m + n) ∧ M' p = some (.lst (dS left)) ∧ M' q = some (.lst (dS found)) ∧ left.length = n ∧ (found ++ left).Perm ds ∧ Kp [b] M M') ?_ ?_ ⟨ds, [], B, rfl, ?_, ok, ?_, ?_, rfl, List.Perm.refl _, ?_⟩
    · rintro nx dl M' ⟨left, found, B', rfl, h1, h2, h3, h4, h5, h6, h7⟩
      have e := List.length_eq_zero_iff.mp h5
      subst e
      rw [List.append_nil] at h6
      walk_at "run"
      refine ⟨_, _, Vw.frz (ds := found) h4 (le1 h1 h7) ?_, k found B' h6 h2⟩
      rw [upM_ne (Ne.symm hbq)]; exact hq
    · rintro n nx dl M' hnx ⟨left, found, B', rfl, h1, h2, h3, h4, h5, h6, h7⟩
      have hm : M' = upM (upM (upM M' b B'.mo) p (.lst (dS left))) q (.lst (dS found)) := by rw [upM_self h1, upM_self h3, upM_self h4]
      have hqp := hpq
      have hpq := Ne.symm hqp
      have hpb := Ne.symm hbp
      have hqb := Ne.symm hbq
      have sl : SeqAt.shaped (.list left) = true := sm left (fun x hx => h6.mem_iff.mp (List.mem_append_right _ hx)) (by have := h6.length_eq; rw [List.length_append] at this; omega)
      have ll : left.length ≤ 1000 := by have := h6.length_eq; rw [List.length_append] at this; omega
      rw [hm]
      walk_at "run"
      refine ⟨_, left, by walk_at "look", datOf_map left, sl, by decide +kernel, ?_⟩
      rw [eqv_nilD]
      have hne : left.isEmpty = false := by cases left with | nil => cases h5 | cons _ _ => rfl
      rw [hne]
      walk_at "run"
      simp only [List.length_map]
      refine ⟨b, B', _, m + n, rfl, by walk_at "look", h2, by omega, by omega, fun v B2 v0 v1 ok2 => ?_⟩
      walk_at "run"
      have hv : v.toNat < left.length := by omega
      refine ⟨_, .d left[v.toNat], by walk_at "look", v0, by omega, ?_, ?_⟩
      · rw [List.getElem?_map, List.getElem?_eq_getElem hv]; rfl
      walk_at "run"
      refine ⟨by rw [List.length_map, sizeLine_eq]; have := h6.length_eq; rw [List.length_append] at this; omega, ?_⟩
      walk_at "head"
      refine hnx _ _ ⟨left.eraseIdx v.toNat, found ++ [left[v.toNat]], B2, rfl, by walk_at "look", ok2, ?_, ?_, ?_, ?_, ?_⟩
      · rw [upM_ne hpq, upM_same, map_erase]
      · rw [upM_same]; unfold dS; rw [List.map_append]; rfl
      · rw [List.length_eraseIdx_of_lt hv]; omega
      · refine List.Perm.trans ?_ h6
        rw [List.append_assoc]
        exact (erase_perm (List.getElem?_eq_getElem hv)).append_left found
      · exact (((((h7.up (by simp)).upN hp).upN hq).up (by simp)).upN hp).upN hq
    · rw [upM_ne hbq, upM_ne hbp]; exact hb
    · rw [upM_ne (Ne.symm hpq), upM_same]
    · rw [upM_same]; rfl
    · exact (Kp.new (Kp.refl _ _) hp).new (by rw [upM_ne hpq]; exact hq)
end
end LW

set_option Elab.async false
set_option linter.all false
set_option maxRecDepth 100000
set_option maxHeartbeats 4000000
namespace LW
open PySem PySem.Spec L2 DL
/-! ### sizes -/
theorem en_sm {m : Nat} {e : Int × Ct} (h : IdB e.1 ∧ CtB m e.2) : Sm (90 * m + 120) 5 (enE (e.1, e.2.d)) := by
  have a := h.2.sm
  have a1 := a.size
  have a2 := a.dep
  have h1 := h.1.ab
  refine ⟨?_, ?_, ?_⟩
  · simp only [DL.sz, szs]; rw [if_pos h1]; omega
  · simp only [PyData.depth, PyData.depthAll]; omega
  · show tupOs [.int e.1, e.2.d] = true
    rw [tupOs, tupOs, a.to]; rfl
theorem sh_sm {m : Nat} {s : Shp} (h : ShB m s) : Sm (180 * m + 200) 5 (shD s) := by
  have a := h.2.1.sm
  have a1 := a.size
  have a2 := a.dep
  have b := h.2.2.sm
  have b1 := b.size
  have b2 := b.dep
  have h1 := h.1.ab
  refine ⟨?_, ?_, ?_⟩
  · simp only [DL.sz, szs]; rw [if_pos h1]; omega
  · simp only [PyData.depth, PyData.depthAll]; omega
  · show tupOs [.int s.1, ctD s.2.1, ctD s.2.2] = true
    rw [tupOs, tupOs, tupOs, a.to, b.to]; rfl
theorem pg_sm {m : Nat} {st : Ps} (h : PsB m st) : Sm (4 + (90 * m + 122) * st.length) 6 (.tuple ((psD st).map enE)) := by
  have e : (psD st).map enE = st.map fun e => enE (e.1, e.2.d) := by unfold psD; rw [List.map_map]; rfl
  obtain ⟨a, b, c⟩ := sms (l := st) (f := fun e => enE (e.1, e.2.d)) (b := 90 * m + 120) (d := 5) fun e he => en_sm (h e he)
  rw [e]
  rw [show 90 * m + 120 + 2 = 90 * m + 122 by omega] at a
  exact ⟨by rw [DL.sz]; omega, by simp only [PyData.depth]; omega, by rw [tupO]; exact c⟩
structure ShL (m : Nat) (fs : List Shp) : Prop where
  size : szs WD (fs.map shD) ≤ (180 * m + 202) * fs.length
  dep : PyData.depthAll (fs.map shD) ≤ 5
  to : tupOs (fs.map shD) = true
theorem shl_of {m : Nat} {fs : List Shp} (h : ∀ s ∈ fs, ShB m s) : ShL m fs := by
  obtain ⟨a, b, c⟩ := sms (l := fs) (f := shD) (b := 180 * m + 200) (d := 5) fun e he => sh_sm (h e he)
  exact ⟨a, b, c⟩
theorem ShL.list {m : Nat} {fs : List Shp} (h : ShL m fs) (hm : m ≤ 8) (hl : fs.length ≤ 1000) : ShIn (.list (fs.map shD)) fs ∧ ShIn (lsD (.list (fs.map shD))) fs ∧ ShIn (.tuple (fs.map shD)) fs := by
  have a := h.size
  have b := h.dep
  have c : (180 * m + 202) * fs.length ≤ 1642 * 1000 := Nat.mul_le_mul (by omega) hl
  have s1 : sz WD (.list (fs.map shD)) ≤ 16777216 := by rw [DL.sz]; omega
  have d1 : (PyData.list (fs.map shD)).depth ≤ 20 := by simp only [PyData.depth]; omega
  refine ⟨⟨by rw [tpD, tps_id h.to], d1, s1⟩, ⟨by rw [lsD, tpD, tps_ls h.to], by rw [dep_ls]; exact d1, by rw [sz_ls]; exact s1⟩, ⟨by rw [tpD, tps_id h.to], by simp only [PyData.depth]; omega, by rw [DL.sz]; omega⟩⟩
abbrev mvD (mv : List (List Shp)) : List PyData := mv.map fun fs => PyData.list (fs.map shD)
/-- what stays: the draws, the table -/
structure Hd (M : Mem) (b s : Addr) (st : Ps) (B : Bx) (M' : Mem) : Prop where
  mb : M' b = some B.mo
  ms : M' s = some (memP st)
  kp : Kp [b] M M'
section
variable {M : Mem} {b s : Addr} {st : Ps} {B : Bx} {M' : Mem} (h : Hd M b s st B M')
include h
theorem Hd.ne : s ≠ b := fun e => by have := h.ms; rw [e, h.mb] at this; cases this
theorem Hd.new {p : Addr} {o : MO} (hp : M' p = none) : Hd M b s st B (upM M' p o) := ⟨keep h.mb hp, keep h.ms hp, h.kp.new hp⟩
theorem Hd.box {B' : Bx} : Hd M b s st B' (upM M' b B'.mo) := ⟨upM_same, by rw [upM_ne h.ne]; exact h.ms, h.kp.up (by simp)⟩
theorem Hd.fresh {p : Addr} (hp : M' p = none) : b ≠ p ∧ s ≠ p ∧ M p = none := by
  refine ⟨neM h.mb hp, neM h.ms hp, ?_⟩
  cases e : M p with
  | none => rfl
  | some o => rw [h.kp p o (by simp; exact Ne.symm (neM h.mb hp)) e] at hp; cases hp
theorem Hd.put {p : Addr} {o : MO} (hp : b ≠ p ∧ s ≠ p ∧ M p = none) : Hd M b s st B (upM M' p o) := ⟨by rw [upM_ne hp.1]; exact h.mb, by rw [upM_ne hp.2.1]; exact h.ms, h.kp.upN hp.2.2⟩
end
end LW

set_option Elab.async false
set_option linter.all false
set_option maxRecDepth 100000
set_option maxHeartbeats 4000000
namespace LW
open PySem PySem.Spec L2 DL
local macro_rules | `(tactic| walk_at "mem") => `(tactic| ((repeat rw [upM_ne (by assumption)]); first | exact upM_same | assumption))
local macro_rules | `(tactic| walk_at "look") => `(tactic| first | rfl | assumption | exact atI_map0 | exact atI_map1 | walk_at "mem" | (with_reducible apply lsOf_m; walk_at "mem") | (with_reducible apply sqOf_m; walk_at "mem") | (with_reducible apply rlOf_m; walk_at "mem") | (with_reducible apply sqOf'_m; walk_at "mem") | (with_reducible apply tru_l; walk_at "mem") | (with_reducible apply tru_d; walk_at "mem") | ((simp (discharger := assumption) only [sqOf, sqOf', rlOf, lsOf, tru, upM_same, upM_ne]) <;> rfl))
local macro_rules | `(tactic| walk_at "set") => `(tactic| (simp only [wipeD, List.set_cons_zero, List.set_cons_succ, List.set_nil]; rfl))
local macro_rules | `(tactic| walk_at "side") => `(tactic| first | omega | (simp only [List.length_map, List.length_cons, List.length_nil]; omega) | assumption | rfl | decide | exact ⟨by omega, by omega⟩ | exact Nat.le_of_ble_eq_true rfl)
local macro_rules | `(tactic| walk_at "head") => `(tactic| with_reducible conv => whnf)
local macro_rules | `(tactic| walk_at "step") => `(tactic| (walk_at "head"; first
  | ((with_reducible apply gN_go); (focus walk_at "set"))
  | ((with_reducible apply e1s); (focus rfl))
  | ((with_reducible apply e1); (focus walk_at "look"))
  | ((with_reducible apply e2); (focus walk_at "look"); (focus walk_at "look"))
  | ((with_reducible apply l1); (focus walk_at "look"))
  | ((with_reducible apply l2); (focus walk_at "look"); (focus walk_at "look"))
  | ((with_reducible apply e3); (focus walk_at "look"); (focus walk_at "look"); (focus walk_at "look"))
  | ((with_reducible apply e0a); (focus walk_at "look"))
  | ((with_reducible apply And.intro); (focus walk_at "side"))
  | ((with_reducible apply d1); (focus walk_at "look"))
  | ((with_reducible apply d2); (focus walk_at "look"); (focus walk_at "look"))
  | ((with_reducible apply d3); (focus walk_at "look"); (focus walk_at "look"); (focus walk_at "look"))
  | ((with_reducible apply d0); (focus walk_at "look"))
  | ((with_reducible apply lk1); (focus walk_at "look"))
  | with_reducible apply gw2_go
  | with_reducible apply gw3_go
  | with_reducible apply gs_go
  | with_reducible apply gt2_go
  | with_reducible apply gt3_go
  | with_reducible apply gt1_go
  | with_reducible apply gt4_go
  | with_reducible apply gt5_go
  | with_reducible apply gt6_go
  | with_reducible apply gt7_go
  | with_reducible apply gt8_go
  | with_reducible apply ift_go
  | with_reducible apply iff_go
  | ((with_reducible apply ifT_go); (focus rfl))
  | ((with_reducible apply ifF_go); (focus rfl))))
local macro_rules | `(tactic| walk_at "run") => `(tactic| (repeat walk_at "step"); walk_at "head")
local macro_rules | `(tactic| walk_at "start") => `(tactic| simp only [startD, List.map_cons, List.map_nil, List.length_cons, List.length_nil, List.replicate, List.cons_append, List.nil_append, Nat.reduceAdd, Nat.reduceSub, bodyK])
def cn_right : Cn := fun rs M R => ∃ b B m, rs = [.v (.ref b)] ∧ M b = some (Bx.mo B) ∧ Bx.Ok B (m + 6000) ∧ ∀ B', Bx.Ok B' m → R (.b true) (upM M b B'.mo)
theorem mv_of {mv : List (List Shp)} : ∀ {es : List PyData}, (∀ d ∈ es, ∃ fs ∈ mv, d = .list (fs.map shD)) → ∃ mv2 : List (List Shp), es = mvD mv2 ∧ ∀ fs ∈ mv2, fs ∈ mv
  | [], _ => ⟨[], rfl, (by intro fs h; cases h)⟩
  | d :: r, h => by
    obtain ⟨fs, hfs, rfl⟩ := h d List.mem_cons_self
    obtain ⟨mv2, rfl, h2⟩ := mv_of (mv := mv) fun x hx => h x (List.mem_cons_of_mem _ hx)
    exact ⟨fs :: mv2, rfl, fun x hx => by rcases List.mem_cons.mp hx with rfl | hx; exact hfs; exact h2 x hx⟩
theorem szs_all {b d : Nat} : ∀ {es : List PyData}, (∀ x ∈ es, sz WD x ≤ b ∧ x.depth ≤ d) → szs WD es ≤ (b + 2) * es.length ∧ PyData.depthAll es ≤ d
  | [], _ => ⟨by simp [szs], by simp [PyData.depthAll]⟩
  | x :: r, h => by
    obtain ⟨a, c⟩ := szs_all (b := b) (d := d) (es := r) fun y hy => h y (List.mem_cons_of_mem _ hy)
    obtain ⟨e, f⟩ := h x List.mem_cons_self
    refine ⟨?_, ?_⟩
    · rw [szs, List.length_cons, Nat.mul_add]; omega
    · simp only [PyData.depthAll]; omega
theorem es_shaped {m : Nat} {es : List (Int × PyData)} (h : CtB m (.leaf es)) (hm : m ≤ 100 := by omega) : SeqAt.shaped (.tuple (es.map enE)) = true := by
  cases h with
  | leaf hl he =>
    obtain ⟨a, b, c⟩ := sms (l := es) (f := enE) (b := 100) (d := 2) fun e hm => by
      obtain ⟨x, y⟩ := he e hm
      obtain ⟨z1, z2, z3⟩ := y.sz
      refine ⟨?_, ?_, ?_⟩
      · simp only [DL.sz, szs]; rw [if_pos x.ab]; omega
      · simp only [PyData.depth, PyData.depthAll]; omega
      · show tupOs [.int e.1, e.2] = true
        rw [tupOs, tupOs, z3]; rfl
    have : (100 + 2) * es.length ≤ 102 * 100 := Nat.mul_le_mul (by omega) (by omega)
    exact shaped_of wds (by rw [DL.sz]; omega) (by simp only [PyData.depth]; omega)
section
variable {P : Program} {w : World} {K : PySem.W.Frag} {mg : Str → Option Value} {base : Heap}
theorem ok_right (T : Tx K mg) (H__law_tree : Has P w K mg base 7 "_law_tree" s__law_tree ["_law_box_here"] cn_tree) (H__law_take : Has P w K mg base 1 "_law_take" s__law_take ["_law_box_here", "_law_below"] cn_take) (H__law_pairs : Has P w K mg base 1 "_law_pairs" s__law_pairs ["_law_stuffs"] cn_pgs)
    (H__law_drawn : Has P w K mg base 3 "_law_drawn" s__law_drawn ["_law_box_here", "_law_stuffs"] cn_drawn) (H__law_strewn : Has P w K mg base 2 "_law_strewn" s__law_strewn ["_law_box_here", "_law_some"] cn_strewnD) (H__law_lists : Has P w K mg base 21 "_law_lists" s__law_lists ["_law_matter"] (cn_deep lsD 20)) (H__law_same : Has P w K mg base 1 "_law_same" s__law_same ["_law_found", "_law_due_so"] cn_same)
    (H_room : Has P w K mg base 23 "room" s_room ["pages", "key"] cn_room) (H_freeing : Has P w K mg base 23 "freeing" s_freeing ["pages", "page"] cn_freeing) (H_shaped : Has P w K mg base 23 "shaped" s_shaped ["pages", "shapes"] cn_shaped)
    {f : Addr} {fd : FuncData} (Fu : Fun K "_law_right" "_law_right" s__law_right f fd) : FnD P w K mg base 24 f fd ["_law_box_here"] cn_right := by
  refine fnD_of Fu sc__law_right (fun rs M R h => ?_) fun cdv A outer s H hgd hr => ⟨_, (pdb_cons (pds_for PassesOwn.never rfl (pdi_range1 (by rfl) T.z_range (pda_cons pd_int pda_nil)) (pdg_name 1 sc__law_right.nd) (pdb_cons (pds_set 2 sc__law_right.nd (pd_fn H__law_tree hgd (hr.mono (by first | decide | omega)) (by rfl) (pda_cons (pd_var 0) pda_nil)))
      (pdb_cons (pds_par 6 7 rfl sc__law_right.nd (by decide) (pda_cons (pd_fn H__law_pairs hgd (hr.mono (by first | decide | omega)) (by rfl) (pda_cons (pd_var 2) pda_nil)) (pda_cons (pd_lstM (pda_cons (pd_fn H__law_drawn hgd (hr.mono (by first | decide | omega)) (by rfl) (pda_cons (pd_var 0) (pda_cons (pd_var 2) pda_nil))) (pda_cons (pd_lst pda_nil) pda_nil))) pda_nil)))
      (pdb_cons (pds_for PassesOwn.never rfl (pdi_seq (pd_callB (c_sortedD rfl) (by rfl) T.z_sorted (by decide +kernel) (pda_cons (pd_var 2) pda_nil))) (pdg_name 3 sc__law_right.nd) (pdb_cons (pds_asg (pd_dget (hu_of hr) (pd_var 2) (pd_var 3)) (pdg_tup (n := 2) rfl (pdgs_cons (pdg_name 10 sc__law_right.nd) (pdgs_cons (pdg_name 11 sc__law_right.nd) pdgs_nil))))
      (pdb_cons (pds_if (PDW.t (pdw_and (pdt_cmp (o_eq hr.units) (pd_var 10) pd_str (nomark _)) (pdw_and1 (pdt_cmp (o_eq hr.units) (pd_callB c_len (by rfl) T.z_len (by decide +kernel) (pda_cons (pd_var 11) pda_nil)) pd_int (nomark _))))) (pdb_one (pds_expr (pd_append (pd_var 7) (pda_cons (pd_fn H_room hgd (hr.mono (by first | decide | omega)) (by rfl) (pda_cons (pd_var 6) (pda_cons (pd_op o_plusD (pd_ix (pd_ix (pd_var 11) pd_int) pd_int) pd_int) pda_nil))) pda_nil)))) pdb_nil)
      (pdb_one (pds_if (PDW.t (pdw_and (pdt_cmp (o_eq hr.units) (pd_var 10) pd_str (nomark _)) (pdw_and (pdt_cmp (o_eq hr.units) (pd_var 11) (pd_tup pda_nil) (nomark _)) (pdw_and1 (pdt_cmp (o_ne hr.units) (pd_var 3) pd_int (nomark _)))))) (pdb_one (pds_expr (pd_append (pd_var 7) (pda_cons (pd_fn H_freeing hgd (hr.mono (by first | decide | omega)) (by rfl) (pda_cons (pd_var 6) (pda_cons (pd_var 3) pda_nil))) pda_nil)))) pdb_nil)))))
      (pdb_cons (pds_set 4 sc__law_right.nd (pd_fn H__law_lists hgd (hr.mono (by first | decide | omega)) (by rfl) (pda_cons (pd_var 6) pda_nil)))
      (pdb_one (pds_for PassesOwn.never rfl (pdi_seq (pd_slice (pd_fn H__law_strewn hgd (hr.mono (by first | decide | omega)) (by rfl) (pda_cons (pd_var 0) (pda_cons (pd_var 7) pda_nil))) pdo_none (pdo_some pd_int))) (pdg_name 5 sc__law_right.nd) (pdb_cons (pds_set 8 sc__law_right.nd (pd_slice (pd_var 5) pdo_none (pdo_some (pd_fn H__law_take hgd (hr.mono (by first | decide | omega)) (by rfl) (pda_cons (pd_var 0) (pda_cons (pd_op o_plusD (pd_callB c_len (by rfl) T.z_len (by decide +kernel) (pda_cons (pd_var 5) pda_nil)) pd_int) pda_nil))))))
      (pdb_one (pds_for PassesOwn.never rfl (pdi_seq (pd_tup (pda_cons (pd_var 8) (pda_cons (pd_var 5) pda_nil)))) (pdg_name 9 sc__law_right.nd) (pdb_cons (pds_par 14 15 rfl sc__law_right.nd (by decide) (pda_cons (pd_callT c_dictD (by rfl) T.z_dict (by decide +kernel) (pda_cons (pd_var 2) pda_nil)) (pda_cons (pd_callB (c_repr hgd hr.units) (by rfl) T.z_repr (by decide +kernel) (pda_cons (pd_lst (pda_cons (pd_var 6) (pda_cons (pd_var 9) pda_nil))) pda_nil)) pda_nil)))
      (pdb_cons (pds_for PassesOwn.never rfl (pdi_seq (pd_var 9)) (pdg_tup (n := 3) rfl (pdgs_cons (pdg_name 3 sc__law_right.nd) (pdgs_cons (pdg_name 16 sc__law_right.nd) (pdgs_cons (pdg_name 17 sc__law_right.nd) pdgs_nil)))) (pdb_one (pds_dput (hu_of hr) (pd_var 14) (pd_var 3) (pd_var 17))))
      (pdb_cons (pds_set 12 sc__law_right.nd (pd_fn H__law_pairs hgd (hr.mono (by first | decide | omega)) (by rfl) (pda_cons (pd_var 14) pda_nil)))
      (pdb_cons (pds_set 13 sc__law_right.nd (pd_lst (pda_cons (pd_fn H_shaped hgd (hr.mono (by first | decide | omega)) (by rfl) (pda_cons (pd_var 6) (pda_cons (pd_var 9) pda_nil))) (pda_cons (pd_fnK pmSwap H_shaped hgd (hr.mono (by first | decide | omega)) (by rfl) (pdk_cons (pd_fn H__law_lists hgd (hr.mono (by first | decide | omega)) (by rfl) (pda_cons (pd_var 9) pda_nil)) (pdk_cons (pd_var 4) pdk_nil)) kb_shaped_Swap pmSwap_p pmSwap_a) (pda_cons (pd_fn H_shaped hgd (hr.mono (by first | decide | omega)) (by rfl) (pda_cons (pd_var 4) (pda_cons (pd_callT c_tuple (by rfl) T.z_tuple (by decide +kernel) (pda_cons (pd_var 9) pda_nil)) pda_nil))) pda_nil)))))
      (pdb_one (pds_if (PDW.t (pdw_or (pdt_not (pdt_tru (pd_fn H__law_same hgd (hr.mono (by first | decide | omega)) (by rfl) (pda_cons (pd_var 13) (pda_cons (pd_op o_times (pd_lst (pda_cons (pd_var 12) pda_nil)) pd_int) pda_nil))))) (pdw_or (pdt_cmp (o_ne hr.units) (pd_callB (c_repr hgd hr.units) (by rfl) T.z_repr (by decide +kernel) (pda_cons (pd_lst (pda_cons (pd_var 6) (pda_cons (pd_var 9) pda_nil))) pda_nil)) (pd_var 15) (nomark _)) (pdw_or1 (pdt_cmp (o_ne hr.units) (pd_var 4) (pd_fn H__law_lists hgd (hr.mono (by first | decide | omega)) (by rfl) (pda_cons (pd_var 6) pda_nil)) (nomark _)))))) (pdb_one (pds_ret pd_bl)) pdb_nil))))))))))))))))
      (pdb_one (pds_ret pd_bl))), ?_⟩
  · obtain ⟨b, B, m, rfl, _⟩ := h
    rfl
  · rintro rs M R ⟨b, B, m, rfl, hb, ok, k⟩
    walk_at "start"
    walk_at "run"
    refine for_ind (fun rest dl M' => ∃ (B' : Bx) (x1 x2 x3 x4 x5 x6 x7 x8 x9 x10 x11 x12 x13 x14 x15 x16 x17 : Option Sl), M' b = some B'.mo ∧ Bx.Ok B' (m + 1500 * rest.length) ∧ Kp [b] M M' ∧ dl = [some (.v (.ref b)), x1, x2, x3, x4, x5, x6, x7, x8, x9, x10, x11, x12, x13, x14, x15, x16, x17]) ?_ ?_ ⟨B, _, _, _, _, _, _, _, _, _, _, _, _, _, _, _, _, _, hb, ok.mono (by simp [rngS]), Kp.refl _ _, rfl⟩
    · rintro _ M' ⟨B', x1, x2, x3, x4, x5, x6, x7, x8, x9, x10, x11, x12, x13, x14, x15, x16, x17, h1, h2, h3, rfl⟩
      refine ⟨trivial, ?_⟩
      walk_at "run"
      exact upR.le (k B' (by simpa using h2)) (le1 h1 h3)
    · rintro x0 rest0 nx0 _ M0 hnx0 ⟨B0, x1, x2, x3, x4, x5, x6, x7, x8, x9, x10, x11, x12, x13, x14, x15, x16, x17, hb0, ok0, kp0, rfl⟩
      refine ⟨trivial, ?_⟩
      rw [List.length_cons] at ok0
      walk_at "run"
      refine ⟨b, B0, m + 1500 * rest0.length + 200, rfl, hb0, ok0.mono (by omega), fun sA B2 stD ht hsA ok2 => ?_⟩
      obtain ⟨rg, lds⟩ := ht.leads
      have ndD := ht.facts.1
      obtain ⟨st, rfl, tr⟩ := ht.tr
      have hsb : sA ≠ b := fun e => by subst e; rw [hb0] at hsA; cases hsA
      have hd : Hd M b sA st B2 (upM (upM M0 b B2.mo) sA (memP st)) := ⟨by rw [upM_ne (Ne.symm hsb)]; exact upM_same, upM_same, (kp0.up (by simp)).new (by rw [upM_ne hsb]; exact hsA)⟩
      generalize upM (upM M0 b B2.mo) sA (memP st) = M1 at hd ⊢
      have sb := tr.b
      have lst := tr.len
      walk_at "run"
      refine ⟨sA, poOf st, 4, rfl, by rw [hd.ms]; unfold memO; rw [poD_of], poOf_b sb, by omega, by unfold poOf; rw [List.length_map]; omega, ?_⟩
      unfold pgsD
      have pm := pgs_perm tr.nd
      have due := fun fs => due_is tr.nd fs
      have trp := tr.of_perm pm
      have wys : ∀ k, ∃ ts es, Way (psD (pgs (poOf st))) k 0 ts es ∧ ts.length ≤ 4 := fun k => by
        obtain ⟨ts, es, L⟩ := lds k
        exact ⟨ts, es, L.way.way ndD fun n => by rw [lkE_psD, lkE_psD, lkC_perm tr.nd pm], L.len⟩
      have lkp := lkC_perm tr.nd pm
      have spb := trp.b
      have spl := trp.len
      have spn := trp.nd
      have smD := pg_sm spb
      generalize pgs (poOf st) = sp at due trp wys lkp spb spl spn smD ⊢
      have l2 : (90 * 4 + 122) * sp.length ≤ 482 * 30 := Nat.mul_le_mul (by omega) spl
      have hDs : sz WD (.tuple ((psD sp).map enE)) ≤ 20000 := by have := smD.size; omega
      have hDd : (PyData.tuple ((psD sp).map enE)).depth ≤ 6 := smD.dep
      have hDt := smD.to
      have ids : (psD sp).map (·.1) = sp.map (·.1) := by unfold psD; rw [List.map_map]; rfl
      have pg1 : PgIn (.tuple ((psD sp).map enE)) (psD sp) := ⟨tp_id hDt, by rw [ids]; exact spn, by omega, by omega⟩
      have pg2 : PgIn (lsD (.tuple ((psD sp).map enE))) (psD sp) := ⟨tp_ls hDt, by rw [ids]; exact spn, by rw [dep_ls]; omega, by rw [sz_ls]; omega⟩
      obtain ⟨xsD, hls⟩ : ∃ xs, lsD (.tuple ((psD sp).map enE)) = .list xs := ⟨_, rfl⟩
      have shl : SeqAt.shaped (lsD (.tuple ((psD sp).map enE))) = true := shaped_of wds (by rw [sz_ls]; omega) (by rw [dep_ls]; omega)
      have shl2 : (lsD (.tuple ((psD sp).map enE))).canLay0 = true := (sz_ok wds _ (by rw [sz_ls]; omega)).1
      obtain ⟨zsD, hzD⟩ : ∃ xs, PyData.tuple ((psD sp).map enE) = .tuple xs := ⟨_, rfl⟩
      generalize hD : PyData.tuple ((psD sp).map enE) = D at hDs hDd pg1 pg2 hls shl shl2 hzD ⊢
      walk_at "run"
      refine ⟨b, B2, sA, st, m + 1500 * rest0.length + 150, rfl, hd.mb, ok2.mono (by omega), hd.ms, sb, by omega, fun shs0 B3 hs0 hl0 ok3 => ?_⟩
      have hd := hd.box (B' := B3)
      generalize upM M1 b B3.mo = M2 at hd ⊢
      walk_at "run"
      intro q hq
      have hq' := hd.fresh hq
      have hd := hd.new (o := .lst (dS (mvD [shs0, []]))) hq
      have mq : upM M2 q (.lst (dS (mvD [shs0, []]))) q = some (.lst (dS (mvD [shs0, []]))) := upM_same
      show wNil _ (upM M2 q (.lst (dS (mvD [shs0, []])))) _
      generalize upM M2 q (.lst (dS (mvD [shs0, []]))) = M3 at hd mq ⊢
      walk_at "run"
      simp only [List.set_cons_zero, List.set_cons_succ]
      have ki : keysI (stS (psD st)) = some (st.map (·.1)) := by have := keysI_po (poOf st); rw [poD_of, poOf_ids] at this; exact this
      have ls30 : (srtI (st.map (·.1))).length ≤ 30 := by rw [(srtI_perm _).length_eq, List.length_map]; exact lst
      refine d2 hd.ms ki ⟨by rw [List.length_map]; omega, ?_⟩
      walk_at "run"
      rw [← mapI]
      have mem30 : ∀ n ∈ srtI (st.map (·.1)), n ∈ st.map (·.1) := fun n hn => (srtI_perm _).mem_iff.mp hn
      generalize srtI (st.map (·.1)) = S0 at ls30 mem30 ⊢
      refine for_ind (fun rest dl M' => ∃ (S : List Int) (mv : List (List Shp)) (y3 y10 y11 : Option Sl), rest = S.map (fun n => Sl.i n) ∧ (∀ n ∈ S, n ∈ st.map (·.1)) ∧ (∀ fs ∈ mv, (∀ s ∈ fs, ShB 8 s) ∧ fs.length ≤ 300) ∧ mv.length + S.length ≤ 32 ∧ M' q = some (.lst (dS (mvD mv))) ∧ Hd M b sA st B3 M' ∧ dl = [some (.v (.ref b)), some x0, some (.v (.ref sA)), y3, x4, x5, some (.d D), some (.v (.ref q)), x8, x9, y10, y11, x12, x13, x14, x15, x16, x17]) ?_ ?_ ⟨S0, [shs0, []], _, _, _, rfl, mem30, ?_, by simp; omega, mq, hd, rfl⟩
      · rintro _ M4 ⟨S, mv, y3, y10, y11, _, _, hmv, lmv, mq, hd, rfl⟩
        refine ⟨trivial, ?_⟩
        walk_at "run"
        refine ⟨D, rfl, by omega, by omega, ?_⟩
        walk_at "run"
        refine ⟨b, B3, q, mvD mv, m + 1500 * rest0.length + 50, rfl, hd.mb, ok3.mono (by simp; omega), mq, ?_, by simp; omega, fun es B4 hes ok4 => ?_⟩
        · intro es hes hle
          rw [List.length_map] at hle
          obtain ⟨a, c⟩ := szs_all (b := 492604) (d := 6) (es := es) fun d hd => by
            obtain ⟨fs, hfs, rfl⟩ := List.mem_map.mp (hes d hd)
            obtain ⟨x, y⟩ := hmv fs hfs
            have z := shl_of x
            have z1 := z.size
            have z2 := z.dep
            have z3 : (180 * 8 + 202) * fs.length ≤ 1642 * 300 := Nat.mul_le_mul (by omega) y
            exact ⟨by rw [DL.sz]; omega, by simp only [PyData.depth]; omega⟩
          have a2 : (492604 + 2) * es.length ≤ 492606 * 32 := Nat.mul_le_mul (by omega) (by omega)
          exact shaped_of wds (by rw [DL.sz]; omega) (by simp only [PyData.depth]; omega)
        have hd := hd.box (B' := B4)
        generalize upM M4 b B4.mo = M5 at hd ⊢
        walk_at "run"
        refine e2 rfl (by rw [cutA_to (by decide), ← List.map_take]; exact datOf_map _) ?_
        obtain ⟨mv2, e6, hm6⟩ : ∃ mv2 : List (List Shp), List.take (Int.toNat 6) es = mvD mv2 ∧ ∀ fs ∈ mv2, fs ∈ mv := mv_of fun d hd => by
          obtain ⟨fs, hfs, e⟩ := List.mem_map.mp (hes.mem_iff.mp (List.mem_of_mem_take hd))
          exact ⟨fs, hfs, e.symm⟩
        have l6 : mv2.length ≤ 6 := by
          have := congrArg List.length e6
          rw [List.length_map, List.length_take] at this
          have e : Int.toNat 6 = 6 := rfl
          omega
        rw [e6]
        walk_at "run"
        refine for_ind (fun rest dl M' => ∃ (mv3 : List (List Shp)) (B' : Bx) (y3 y5 y8 y9 y12 y13 y14 y15 y16 y17 : Option Sl), rest = (mvD mv3).map Sl.d ∧ (∀ fs ∈ mv3, fs ∈ mv) ∧ Bx.Ok B' (m + 1500 * rest0.length + mv3.length) ∧ Hd M b sA st B' M' ∧ dl = [some (.v (.ref b)), some x0, some (.v (.ref sA)), y3, some (.d (lsD D)), y5, some (.d D), some (.v (.ref q)), y8, y9, y10, y11, y12, y13, y14, y15, y16, y17]) ?_ ?_ ⟨mv2, B4, _, _, _, _, _, _, _, _, _, _, rfl, hm6, ok4.mono (by omega), hd, rfl⟩
        · rintro _ M6 ⟨mv3, B', y3, y5, y8, y9, y12, y13, y14, y15, y16, y17, _, _, ok5, hd, rfl⟩
          refine ⟨trivial, ?_⟩
          exact hnx0 _ _ ⟨B', _, _, _, _, _, _, _, _, _, _, _, _, _, _, _, _, _, hd.mb, ok5.mono (by omega), hd.kp, rfl⟩
        · rintro x rest nx _ M6 hnx ⟨mv3, B', y3, y5, y8, y9, y12, y13, y14, y15, y16, y17, e3, h3, ok5, hd, rfl⟩
          refine ⟨trivial, ?_⟩
          obtain ⟨fs, r, rfl⟩ : ∃ n r, mv3 = n :: r := by cases mv3 with | nil => cases e3 | cons a b => exact ⟨a, b, rfl⟩
          have e3' : x :: rest = Sl.d (.list (fs.map shD)) :: (mvD r).map Sl.d := e3
          clear e3
          cases e3'
          rw [List.length_cons] at ok5
          obtain ⟨hfs, lfs⟩ := hmv fs (h3 fs List.mem_cons_self)
          walk_at "run"
          simp only [List.length_map]
          refine ⟨b, B', _, m + 1500 * rest0.length + r.length, rfl, hd.mb, ok5.mono (by omega), by omega, by omega, fun v B5 v0 v1 ok6 => ?_⟩
          have hd := hd.box (B' := B5)
          generalize upM M6 b B5.mo = M7 at hd ⊢
          walk_at "run"
          refine e2 rfl (by rw [cutA_to v0, ← List.map_take, ← List.map_take]; exact datOf_map _) ?_
          walk_at "run"
          refine for_ind (fun rest dl M' => ∃ (mv4 : List (List Shp)) (y3 y9 y12 y13 y14 y15 y16 y17 : Option Sl), rest = (mvD mv4).map Sl.d ∧ (∀ fs ∈ mv4, (∀ s ∈ fs, ShB 8 s) ∧ fs.length ≤ 300) ∧ Hd M b sA st B5 M' ∧ dl = [some (.v (.ref b)), some x0, some (.v (.ref sA)), y3, some (.d (lsD D)), some (.d (.list (fs.map shD))), some (.d D), some (.v (.ref q)), some (.d (.list ((fs.take v.toNat).map shD))), y9, y10, y11, y12, y13, y14, y15, y16, y17]) ?_ ?_ ⟨[fs.take v.toNat, fs], _, _, _, _, _, _, _, _, rfl, ?_, hd, rfl⟩
          · rintro _ M8 ⟨mv4, y3, y9, y12, y13, y14, y15, y16, y17, _, _, hd, rfl⟩
            refine ⟨trivial, ?_⟩
            exact hnx _ _ ⟨r, B5, _, _, _, _, _, _, _, _, _, _, rfl, fun y hy => h3 y (List.mem_cons_of_mem _ hy), ok6, hd, rfl⟩
          · clear hfs lfs v1
            rintro x rest' nx' _ M8 hnx' ⟨mv4, y3, y9, y12, y13, y14, y15, y16, y17, e4, h4, hd, rfl⟩
            refine ⟨trivial, ?_⟩
            obtain ⟨gs, r4, rfl⟩ : ∃ n r, mv4 = n :: r := by cases mv4 with | nil => cases e4 | cons a b => exact ⟨a, b, rfl⟩
            have e4' : x :: rest' = Sl.d (.list (gs.map shD)) :: (mvD r4).map Sl.d := e4
            clear e4
            cases e4'
            obtain ⟨hgs, lgs⟩ := h4 gs List.mem_cons_self
            have hm := hd.ms
            walk_at "run"
            intro wk hwk
            have hwk' := hd.fresh hwk
            have hd := hd.new (o := memP st) hwk
            have mwk : upM M8 wk (memP st) wk = some (memO (poOf st)) := by rw [upM_same]; unfold memO; rw [poD_of]
            generalize upM M8 wk (memP st) = M9 at hd mwk ⊢
            walk_at "run"
            have sg := shl_of hgs
            have sz1 := sg.size
            have sd1 := sg.dep
            have sl2 : (180 * 8 + 202) * gs.length ≤ 1642 * 300 := Nat.mul_le_mul (by omega) lgs
            have shw1 : Shw (.list [D, .list (gs.map shD)]) := shw_of wds (by simp only [DL.sz, szs]; omega) (by simp only [PyData.depth, PyData.depthAll]; omega)
            refine ⟨shw1, ?_⟩
            walk_at "run"
            simp only [List.set_cons_zero, List.set_cons_succ]
            walk_at "run"
            refine for_ind (fun rest dl M' => ∃ (g1 g2 : List Shp) (z3 z16 z17 : Option Sl), gs = g1 ++ g2 ∧ rest = (g2.map shD).map Sl.d ∧ M' wk = some (memO (putAll (poOf st) g1)) ∧ PoB 8 (putAll (poOf st) g1) ∧ (putAll (poOf st) g1).length + g2.length ≤ 330 ∧ Hd M b sA st B5 M' ∧ dl = [some (.v (.ref b)), some x0, some (.v (.ref sA)), z3, some (.d (lsD D)), some (.d (.list (fs.map shD))), some (.d D), some (.v (.ref q)), some (.d (.list ((fs.take v.toNat).map shD))), some (.d (.list (gs.map shD))), y10, y11, y12, y13, some (.v (.ref wk)), some (Sl.s (PyData.shown (.list [D, .list (gs.map shD)]))), z16, z17]) ?_ ?_ ⟨[], gs, _, _, _, rfl, rfl, mwk, poOf_b (sb.mono (by omega)), by show (poOf st).length + _ ≤ _; unfold poOf; rw [List.length_map]; omega, hd, rfl⟩
            · rintro _ M10 ⟨g1, g2, z3, z16, z17, eg, e0, mw, pob, pol, hd, rfl⟩
              have : g2 = [] := by cases g2 with | nil => rfl | cons _ _ => cases e0
              subst this
              rw [List.append_nil] at eg
              subst eg
              refine ⟨trivial, ?_⟩
              walk_at "run"
              refine ⟨wk, putAll (poOf st) gs, 8, rfl, mw, pob, by omega, by simp at pol; omega, ?_⟩
              have hdue := due gs
              unfold pgsD
              have hpb : PsB 8 (pgs (putAll (poOf st) gs)) := fun e he => by
                have h1 := mem_pgs.mp (show (e.1, e.2) ∈ _ from he)
                have h2 : IdB e.1 := by
                  unfold atO at h1
                  cases e3 : lkO (putAll (poOf st) gs) e.1 with
                  | none => rw [e3] at h1; cases h1
                  | some o => exact (pob _ (lkO_mem e3)).1
                exact ⟨h2, atO_b pob e.1 e.2 h1⟩
              have hpl : (pgs (putAll (poOf st) gs)).length ≤ 330 := by
                have h1 : (pgs (putAll (poOf st) gs)).length ≤ (srtI ((putAll (poOf st) gs).map (·.1))).length := List.length_filterMap_le _ _
                rw [(srtI_perm _).length_eq, List.length_map] at h1
                simp at pol; omega
              have smE := pg_sm hpb
              have sl3 : (90 * 8 + 122) * (pgs (putAll (poOf st) gs)).length ≤ 842 * 330 := Nat.mul_le_mul (by omega) hpl
              have hEs : sz WD (.tuple ((psD (pgs (putAll (poOf st) gs))).map enE)) ≤ 300000 := by have := smE.size; omega
              have hEd : (PyData.tuple ((psD (pgs (putAll (poOf st) gs))).map enE)).depth ≤ 6 := smE.dep
              generalize pgs (putAll (poOf st) gs) = due2 at hdue hEs hEd ⊢
              obtain ⟨si1, si2, si3⟩ := sg.list (by omega) (by omega)
              have lg : sp.length + gs.length ≤ 900 := by omega
              have sp8 : PsB 8 sp := spb.mono (by omega)
              have shg : (PyData.list (gs.map shD)).depth ≤ 20 ∧ sz WD (.list (gs.map shD)) ≤ 16777216 := ⟨si1.dep, si1.size⟩
              walk_at "run"
              refine ⟨D, .list (gs.map shD), sp, gs, 8, rfl, pg1, si1, sp8, hgs, by omega, lg, ?_⟩
              unfold pgsD
              rw [hdue]
              walk_at "run"
              refine ⟨.list (gs.map shD), rfl, shg.1, shg.2, ?_⟩
              walk_at "run"
              refine ⟨lsD D, lsD (.list (gs.map shD)), sp, gs, 8, rfl, pg2, si2, sp8, hgs, by omega, lg, ?_⟩
              unfold pgsD
              rw [hdue]
              walk_at "run"
              refine e2 rfl (datOf_map _) ?_
              walk_at "run"
              refine ⟨lsD D, .tuple (gs.map shD), sp, gs, 8, rfl, pg2, si3, sp8, hgs, by omega, lg, ?_⟩
              unfold pgsD
              rw [hdue]
              generalize hE : PyData.tuple ((psD due2).map enE) = E at hEs hEd ⊢
              have shw3 : Shw (.list [E, E, E]) := shw_of wds (by simp only [DL.sz, szs]; omega) (by simp only [PyData.depth, PyData.depthAll]; omega)
              walk_at "run"
              refine ⟨_, _, .list [E, E, E], rfl, .d, .d, shw3, ?_⟩
              walk_at "run"
              apply ifF_go
              · simp
              walk_at "run"
              refine ⟨D, rfl, by omega, by omega, ?_⟩
              rw [hls] at shl shl2 ⊢
              walk_at "run"
              apply ifF_go
              · rw [eqv_self shl2]; rfl
              walk_at "run"
              exact hnx' _ _ ⟨r4, _, _, _, _, _, _, _, _, rfl, fun y hy => h4 y (List.mem_cons_of_mem _ hy), hd, by rw [hls]⟩
            · rintro x xs nx2 _ M10 hnx2 ⟨g1, g2, z3, z16, z17, eg, e0, mw, pob, pol, hd, rfl⟩
              obtain ⟨sh, g3, rfl⟩ : ∃ s r, g2 = s :: r := by cases g2 with | nil => cases e0 | cons a b => exact ⟨a, b, rfl⟩
              rw [List.map_cons, List.map_cons] at e0
              cases e0
              rw [List.length_cons] at pol
              refine ⟨trivial, ?_⟩
              have hsh := hgs sh (by rw [eg]; simp)
              obtain ⟨n, bf, af⟩ := sh
              have ep : putAll (poOf st) (g1 ++ [(n, bf, af)]) = putO (putAll (poOf st) g1) n af := by unfold putAll; rw [List.foldl_append]; rfl
              have pl := putO_len (putAll (poOf st) g1) n af
              have pb := putO_b pob hsh.1 hsh.2.2
              have hpp := put_po n af (putAll (poOf st) g1)
              rw [← ep] at pl pb hpp
              generalize putAll (poOf st) g1 = po at *
              walk_at "run"
              refine ⟨by rw [List.length_map, List.length_map, sizeLine_eq]; omega, ?_⟩
              rw [hpp]
              refine hnx2 _ _ ⟨g1 ++ [(n, bf, af)], g3, _, _, _, by rw [eg]; simp, rfl, upM_same, pb, by omega, hd.put hwk', rfl⟩
          · intro gs hgs
            simp only [List.mem_cons, List.not_mem_nil, or_false] at hgs
            rcases hgs with rfl | rfl
            · exact ⟨fun s hs => hfs s (List.mem_of_mem_take hs), by rw [List.length_take]; omega⟩
            · exact ⟨hfs, lfs⟩
      · rintro x rest nx _ M4 hnx ⟨S, mv, y3, y10, y11, eS, hS, hmv, lmv, mq, hd, rfl⟩
        refine ⟨trivial, ?_⟩
        obtain ⟨n, r, rfl⟩ : ∃ n r, S = n :: r := by cases S with | nil => cases eS | cons a b => exact ⟨a, b, rfl⟩
        rw [List.map_cons] at eS
        cases eS
        rw [List.length_cons] at lmv
        have hm := hd.ms
        obtain ⟨e, he, en⟩ := List.mem_map.mp (hS n List.mem_cons_self)
        have hlk : lkC st n = some e.2 := (lkC_iff tr.nd).mpr (by rw [← en]; exact he)
        have hv : valS (stS (psD st)) (.inl n) = some (.d e.2.d) := by rw [valS_ps, hlk]; rfl
        generalize e.2 = ct at hlk hv
        cases ct with
        | leaf es =>
          have s0 : SeqAt.shaped (.tuple []) = true := by decide +kernel
          have sE : SeqAt.shaped (.tuple (es.map enE)) = true := es_shaped (sb _ (lkC_mem hlk)).2
          by_cases h4 : es.length = 4
          · obtain ⟨e1, e2, e3, e4, rfl⟩ : ∃ e1 e2 e3 e4, es = [e1, e2, e3, e4] := by
              match es, h4 with
              | [e1, e2, e3, e4], _ => exact ⟨_, _, _, _, rfl⟩
            obtain ⟨ts, es', wy, tl⟩ := wys (e1.1 + 1)
            obtain ⟨shs, hre, hsl⟩ := tr_room trp wy tl
            have hsb := hre.b tl
            walk_at "run"
            refine ⟨D, sp, e1.1 + 1, ts, es', shs, rfl, pg1, wy, by omega, spb, by omega, hre, by omega, ?_⟩
            walk_at "run"
            refine ⟨by rw [List.length_map, List.length_map, sizeLine_eq]; omega, ?_⟩
            rw [show dS (mvD mv) ++ [Sl.d (.list (shs.map shD))] = dS (mvD (mv ++ [shs])) by simp]
            walk_at "run"
            refine hnx _ _ ⟨r, mv ++ [shs], _, _, _, rfl, fun y hy => hS y (List.mem_cons_of_mem _ hy), fun fs hfs => ?_, by rw [List.length_append, List.length_singleton]; omega, upM_same, hd.put hq', rfl⟩
            rcases List.mem_append.mp hfs with hfs | hfs
            · exact hmv fs hfs
            · rw [List.mem_singleton] at hfs; subst hfs
              exact ⟨hsb, by omega⟩
          · by_cases h0 : es = []
            · subst h0
              by_cases n0 : n = 0
              · subst n0
                walk_at "run"
                exact hnx _ _ ⟨r, mv, _, _, _, rfl, fun y hy => hS y (List.mem_cons_of_mem _ hy), hmv, by omega, mq, hd, rfl⟩
              · obtain ⟨a, ts, cs, pr, ch, wd, n1, more, fe, tl, ln, lm⟩ := tr_free trp n0 (by rw [lkp]; exact hlk)
                have fb := fe.b spb
                have kk := trp.kn.1
                have kl : (kids sp).length ≤ 10000 := by
                  have := trp.perm.length_eq
                  simp only [List.length_cons, List.length_map] at this
                  omega
                have gl : (((pr, some (Ct.inner cs), some wd) :: goneS sp (ts.drop a)) ++ more).length ≤ 300 := by
                  unfold goneS; rw [List.length_append, List.length_cons, List.length_map, List.length_drop]; omega
                walk_at "run"
                apply ifT_go
                · rw [decide_eq_false n0]; rfl
                walk_at "run"
                refine ⟨D, sp, n, a, ts, cs, pr, ch, wd, n1, more, rfl, pg1, spb, by omega, kk, kl, by omega, by omega, fe, by omega, ?_⟩
                generalize (pr, some (Ct.inner cs), some wd) :: goneS sp (ts.drop a) ++ more = shs at fb gl ⊢
                walk_at "run"
                refine ⟨by rw [List.length_map, List.length_map, sizeLine_eq]; omega, ?_⟩
                rw [show dS (mvD mv) ++ [Sl.d (.list (shs.map shD))] = dS (mvD (mv ++ [shs])) by simp]
                walk_at "run"
                refine hnx _ _ ⟨r, mv ++ [shs], _, _, _, rfl, fun y hy => hS y (List.mem_cons_of_mem _ hy), fun fs hfs => ?_, by rw [List.length_append, List.length_singleton]; omega, upM_same, hd.put hq', rfl⟩
                rcases List.mem_append.mp hfs with hfs | hfs
                · exact hmv fs hfs
                · rw [List.mem_singleton] at hfs; subst hfs
                  exact ⟨fun s hs => (fb s hs).mono (by omega), gl⟩
            · obtain ⟨e1, er, rfl⟩ : ∃ a r, es = a :: r := by cases es with | nil => exact absurd rfl h0 | cons a r => exact ⟨a, r, rfl⟩
              walk_at "run"
              apply ifF_go
              · rw [List.length_map, List.length_map]; exact decide_eq_false (by omega)
              walk_at "run"
              exact hnx _ _ ⟨r, mv, _, _, _, rfl, fun y hy => hS y (List.mem_cons_of_mem _ hy), hmv, by omega, mq, hd, rfl⟩
        | inner cs =>
          walk_at "run"
          exact hnx _ _ ⟨r, mv, _, _, _, rfl, fun y hy => hS y (List.mem_cons_of_mem _ hy), hmv, by omega, mq, hd, rfl⟩
      · intro fs hfs
        simp only [List.mem_cons, List.not_mem_nil, or_false] at hfs
        rcases hfs with rfl | rfl
        · exact ⟨hs0, by omega⟩
        · exact ⟨(by intro s hs; cases hs), by simp⟩
end
end LW

set_option Elab.async false
set_option linter.all false
set_option maxRecDepth 100000
set_option maxHeartbeats 4000000
namespace LW
open PySem PySem.Spec L2 DL
local macro_rules | `(tactic| walk_at "mem") => `(tactic| ((repeat rw [upM_ne (by assumption)]); first | exact upM_same | assumption))
local macro_rules | `(tactic| walk_at "look") => `(tactic| first | rfl | assumption | exact atI_map0 | exact atI_map1 | walk_at "mem" | (with_reducible apply lsOf_m; walk_at "mem") | (with_reducible apply sqOf_m; walk_at "mem") | (with_reducible apply rlOf_m; walk_at "mem") | (with_reducible apply sqOf'_m; walk_at "mem") | (with_reducible apply tru_l; walk_at "mem") | (with_reducible apply tru_d; walk_at "mem") | ((simp (discharger := assumption) only [sqOf, sqOf', rlOf, lsOf, tru, upM_same, upM_ne]) <;> rfl))
local macro_rules | `(tactic| walk_at "set") => `(tactic| (simp only [wipeD, List.set_cons_zero, List.set_cons_succ, List.set_nil]; rfl))
local macro_rules | `(tactic| walk_at "side") => `(tactic| first | omega | (simp only [List.length_map, List.length_cons, List.length_nil]; omega) | assumption | rfl | decide | exact ⟨by omega, by omega⟩ | exact Nat.le_of_ble_eq_true rfl)
local macro_rules | `(tactic| walk_at "head") => `(tactic| with_reducible conv => whnf)
local macro_rules | `(tactic| walk_at "step") => `(tactic| (walk_at "head"; first
  | ((with_reducible apply gN_go); (focus walk_at "set"))
  | ((with_reducible apply e1s); (focus rfl))
  | ((with_reducible apply e1); (focus walk_at "look"))
  | ((with_reducible apply e2); (focus walk_at "look"); (focus walk_at "look"))
  | ((with_reducible apply l1); (focus walk_at "look"))
  | ((with_reducible apply l2); (focus walk_at "look"); (focus walk_at "look"))
  | ((with_reducible apply e3); (focus walk_at "look"); (focus walk_at "look"); (focus walk_at "look"))
  | ((with_reducible apply e0a); (focus walk_at "look"))
  | ((with_reducible apply And.intro); (focus walk_at "side"))
  | ((with_reducible apply d1); (focus walk_at "look"))
  | ((with_reducible apply d2); (focus walk_at "look"); (focus walk_at "look"))
  | ((with_reducible apply d3); (focus walk_at "look"); (focus walk_at "look"); (focus walk_at "look"))
  | ((with_reducible apply d0); (focus walk_at "look"))
  | ((with_reducible apply lk1); (focus walk_at "look"))
  | with_reducible apply gw2_go
  | with_reducible apply gw3_go
  | with_reducible apply gs_go
  | with_reducible apply gt2_go
  | with_reducible apply gt3_go
  | with_reducible apply gt1_go
  | with_reducible apply gt4_go
  | with_reducible apply gt5_go
  | with_reducible apply gt6_go
  | with_reducible apply gt7_go
  | with_reducible apply gt8_go
  | with_reducible apply ift_go
  | with_reducible apply iff_go
  | ((with_reducible apply ifT_go); (focus rfl))
  | ((with_reducible apply ifF_go); (focus rfl))))
local macro_rules | `(tactic| walk_at "run") => `(tactic| (repeat walk_at "step"); walk_at "head")
local macro_rules | `(tactic| walk_at "start") => `(tactic| simp only [startD, List.map_cons, List.map_nil, List.length_cons, List.length_nil, List.replicate, List.cons_append, List.nil_append, Nat.reduceAdd, Nat.reduceSub, bodyK])
section
variable {P : Program} {w : World} {K : PySem.W.Frag} {mg : Str → Option Value} {base : Heap}
def cn_law : Cn := fun rs M R => ∃ ns : List Int, rs = [.r ns] ∧ R (.b true) M
theorem bls_true : ∀ {acc : List Sl}, (∀ y ∈ acc, y = .b true) → ∃ n, datOf acc = some ((List.replicate n true).map PyData.bool)
  | [], _ => ⟨0, rfl⟩
  | y :: r, h => by
    obtain ⟨n, e⟩ := bls_true (fun z hz => h z (List.mem_cons_of_mem _ hz))
    rw [h y List.mem_cons_self]
    exact ⟨n + 1, by simp only [datOf, e, Option.map_some]; rfl⟩
theorem ok_law (T : Tx K mg) (H__law_cells : Has P w K mg base 1 "_law_cells" s__law_cells ["_law_script", "_law_most"] cn_cells) (H__law_box : Has P w K mg base 1 "_law_box" s__law_box ["_law_script", "_law_k"] cn_box) (H__law_right : Has P w K mg base 24 "_law_right" s__law_right ["_law_box_here"] cn_right)
    {f : Addr} {fd : FuncData} (Fu : Fun K "law" "law" s_law f fd) : FnD P w K mg base 25 f fd ["_law_script"] cn_law := by
  refine fnD_of Fu sc_law (fun rs M R h => ?_) fun cdv A outer s H hgd hr => ⟨_, (pdb_cons (pds_set 1 sc_law.nd (pd_fn H__law_cells hgd (hr.mono (by first | decide | omega)) (by rfl) (pda_cons (pd_var 0) (pda_cons pd_int pda_nil))))
      (pdb_cons (pds_for PassesOwn.never rfl (pdi_range1 (by rfl) T.z_range (pda_cons (pd_callB c_len (by rfl) T.z_len (by decide +kernel) (pda_cons (pd_var 1) pda_nil)) pda_nil)) (pdg_name 2 sc_law.nd) (pdb_cons (pds_set 3 sc_law.nd (pd_fn H__law_box hgd (hr.mono (by first | decide | omega)) (by rfl) (pda_cons (pd_var 1) (pda_cons (pd_var 2) pda_nil))))
      (pdb_one (pds_if (pdt_not (pdt_tru (pd_callB (c_all rfl) (by rfl) T.z_all (by decide +kernel) (pda_cons (pd_lc (own := [("_law_turn", 4)]) rfl sc_law.nd (pdi_range1 (by rfl) T.z_range (pda_cons pd_int pda_nil)) (blkOk_by (N := N_law) (sc := defScope s_law) (by decide +kernel)) (fun _ _ _ _ _ => (pdgw_name 4 sc_law.nd)) (fun _ _ _ _ _ => pdts_nil) (fun _ _ _ _ _ => (pd_fn H__law_right hgd (hr.mono (by first | decide | omega)) (by rfl) (pda_cons (pd_var 3) pda_nil)))) pda_nil)))) (pdb_one (pds_ret pd_bl)) pdb_nil))))
      (pdb_one (pds_ret pd_bl)))), ?_⟩
  · obtain ⟨ns, rfl, _⟩ := h
    rfl
  · rintro rs M R ⟨ns, rfl, k⟩
    walk_at "start"
    walk_at "run"
    refine ⟨ns, _, rfl, by decide, by decide, fun cs c0 c1 => ?_⟩
    walk_at "run"
    refine for_ind (fun rest dl M' => ∃ (x2 x3 x4 : Option Sl), (∀ x ∈ rest, ∃ i : Int, x = .i i ∧ 0 ≤ i ∧ i < 100) ∧ Le M M' ∧ dl = [some (.r ns), some (.d (intD cs)), x2, x3, x4]) ?_ ?_ ⟨_, _, _, fun x hx => ?_, Le.refl M, rfl⟩
    · rintro _ M' ⟨_, _, _, _, le, rfl⟩
      refine ⟨trivial, ?_⟩
      walk_at "run"
      exact upR.le k le
    · rintro x xs nx _ M' hnx ⟨_, _, _, hx, le, rfl⟩
      obtain ⟨i, rfl, i0, i1⟩ := hx x List.mem_cons_self
      refine ⟨trivial, ?_⟩
      walk_at "run"
      refine ⟨cs, i, rfl, i0, i1, fun b B hb ok => ?_⟩
      walk_at "run"
      refine lc_box 0 6000 (fun y => y = .b true) (by simp [rngS, sizeLine_eq]) (ok.mono (by simp [rngS])) (fun y hy B' m' nx2 k0 okx hnx2 => ?_) fun acc B2 hl hE ok2 => ?_
      · walk_at "run"
        refine ⟨b, B', m', rfl, upM_same, okx, fun B3 ok3 => ?_⟩
        rw [upM_upM]
        exact hnx2 _ B3 rfl ok3
      · obtain ⟨n, e⟩ := bls_true hE
        refine e1 e ?_
        walk_at "head"
        refine e2 rfl (blsOf_map _) ?_
        rw [show (List.replicate n true).all id = true by simp]
        walk_at "run"
        exact hnx _ _ ⟨_, _, _, fun y hy => hx y (List.mem_cons_of_mem _ hy), fun a o h => by rw [upM_ne (neM (le a o h) hb)]; exact le a o h, rfl⟩
    · unfold rngS at hx
      obtain ⟨i, hi, rfl⟩ := List.mem_map.mp hx
      have := List.mem_range.mp hi
      simp at this
      exact ⟨_, rfl, by omega, by omega⟩
end
end LW

set_option Elab.async false
set_option linter.all false
set_option maxRecDepth 100000
set_option maxHeartbeats 4000000
namespace LW
open PySem PySem.Spec L2 DL
theorem mk_FREE {K : PySem.W.Frag} {h : Heap} {mg : Str → Option Value} {f : Addr} {n : Nat} {sl : Array (Option Value)} {ws : Array Value} (X : K.In h) (G : h.Ns mainGlobals mg) (a : PySem.W.nsIn K mainGlobals "FREE" = some (some (.ref f))) (l : K.lookup f = some ⟨.type "tuple", none, .seq ws n, sl⟩) (v : Vals [V.str "free"] ws.toList) (c : ws.size ≤ sizeLine) : GD K mg "FREE" (.tuple [(.str "free")]) := gd_strs ["free"] (PySem.W.mg_of X G a) l v c
theorem asm {P : Program} {w : World} {K : PySem.W.Frag} {mg : Str → Option Value} {fa : Addr} (hfa : mg "law" = some (.ref fa)) (T : Tx K mg)  (d_tupled : DefAt K mg "tupled" s_tupled) (d_is_full : DefAt K mg "is_full" s_is_full) (d_contents_of : DefAt K mg "contents_of" s_contents_of) (d_pages_of : DefAt K mg "pages_of" s_pages_of) (d_content_in : DefAt K mg "content_in" s_content_in) (d_children_with_ranges : DefAt K mg "children_with_ranges" s_children_with_ranges) (d_is_within : DefAt K mg "is_within" s_is_within) (d_way_in : DefAt K mg "way_in" s_way_in) (d_least_free : DefAt K mg "least_free" s_least_free) (d_lay_shapes : DefAt K mg "lay_shapes" s_lay_shapes) (d_halves : DefAt K mg "halves" s_halves) (d_root_split : DefAt K mg "root_split" s_root_split) (d_page_split : DefAt K mg "page_split" s_page_split) (d_room_in : DefAt K mg "room_in" s_room_in) (d_way_to : DefAt K mg "way_to" s_way_to) (d_without_child : DefAt K mg "without_child" s_without_child) (d_shrinking : DefAt K mg "shrinking" s_shrinking) (d_freeing_in : DefAt K mg "freeing_in" s_freeing_in) (d_room : DefAt K mg "room" s_room) (d_freeing : DefAt K mg "freeing" s_freeing) (d_shaped : DefAt K mg "shaped" s_shaped) (d__law_box : DefAt K mg "_law_box" s__law_box) (d__law_take : DefAt K mg "_law_take" s__law_take) (d__law_cells : DefAt K mg "_law_cells" s__law_cells) (d__law_of : DefAt K mg "_law_of" s__law_of) (d__law_same : DefAt K mg "_law_same" s__law_same) (d__law_lists : DefAt K mg "_law_lists" s__law_lists) (d__law_strewn : DefAt K mg "_law_strewn" s__law_strewn) (d__law_grown : DefAt K mg "_law_grown" s__law_grown) (d__law_tree : DefAt K mg "_law_tree" s__law_tree) (d__law_pairs : DefAt K mg "_law_pairs" s__law_pairs) (d__law_drawn : DefAt K mg "_law_drawn" s__law_drawn) (d__law_right : DefAt K mg "_law_right" s__law_right) (d_law : DefAt K mg "law" s_law) :
    ∃ fd : FuncData, (∀ (s : Shared) (u : Value), BindsTo s fd ⟨[u], []⟩ [("_law_script", u)]) ∧ ∀ base : Heap, FnD P w K mg base 25 fa fd ["_law_script"] cn_law := by
  obtain ⟨_, _, m_tupled, F_tupled⟩ := d_tupled
  obtain ⟨_, _, m_is_full, F_is_full⟩ := d_is_full
  obtain ⟨_, _, m_contents_of, F_contents_of⟩ := d_contents_of
  obtain ⟨_, _, m_pages_of, F_pages_of⟩ := d_pages_of
  obtain ⟨_, _, m_content_in, F_content_in⟩ := d_content_in
  obtain ⟨_, _, m_children_with_ranges, F_children_with_ranges⟩ := d_children_with_ranges
  obtain ⟨_, _, m_is_within, F_is_within⟩ := d_is_within
  obtain ⟨_, _, m_way_in, F_way_in⟩ := d_way_in
  obtain ⟨_, _, m_least_free, F_least_free⟩ := d_least_free
  obtain ⟨_, _, m_lay_shapes, F_lay_shapes⟩ := d_lay_shapes
  obtain ⟨_, _, m_halves, F_halves⟩ := d_halves
  obtain ⟨_, _, m_root_split, F_root_split⟩ := d_root_split
  obtain ⟨_, _, m_page_split, F_page_split⟩ := d_page_split
  obtain ⟨_, _, m_room_in, F_room_in⟩ := d_room_in
  obtain ⟨_, _, m_way_to, F_way_to⟩ := d_way_to
  obtain ⟨_, _, m_without_child, F_without_child⟩ := d_without_child
  obtain ⟨_, _, m_shrinking, F_shrinking⟩ := d_shrinking
  obtain ⟨_, _, m_freeing_in, F_freeing_in⟩ := d_freeing_in
  obtain ⟨_, _, m_room, F_room⟩ := d_room
  obtain ⟨_, _, m_freeing, F_freeing⟩ := d_freeing
  obtain ⟨_, _, m_shaped, F_shaped⟩ := d_shaped
  obtain ⟨_, _, m__law_box, F__law_box⟩ := d__law_box
  obtain ⟨_, _, m__law_take, F__law_take⟩ := d__law_take
  obtain ⟨_, _, m__law_cells, F__law_cells⟩ := d__law_cells
  obtain ⟨_, _, m__law_of, F__law_of⟩ := d__law_of
  obtain ⟨_, _, m__law_same, F__law_same⟩ := d__law_same
  obtain ⟨_, _, m__law_lists, F__law_lists⟩ := d__law_lists
  obtain ⟨_, _, m__law_strewn, F__law_strewn⟩ := d__law_strewn
  obtain ⟨_, _, m__law_grown, F__law_grown⟩ := d__law_grown
  obtain ⟨_, _, m__law_tree, F__law_tree⟩ := d__law_tree
  obtain ⟨_, _, m__law_pairs, F__law_pairs⟩ := d__law_pairs
  obtain ⟨_, _, m__law_drawn, F__law_drawn⟩ := d__law_drawn
  obtain ⟨_, _, m__law_right, F__law_right⟩ := d__law_right
  obtain ⟨_, fd, m_law, F_law⟩ := d_law
  cases hfa.symm.trans m_law
  refine ⟨fd, fun s u => ?_, fun base => ?_⟩
  · obtain ⟨oc, od, kV, doc, pm, an, cdv, ct, osl, rfl, lk, hcd⟩ := F_law.ex
    exact .of_eq rfl
  have h__law_take := Has.of (P := P) (w := w) (base := base) m__law_take F__law_take hb__law_take (ok_take T F__law_take)
  have h__law_box := Has.of (P := P) (w := w) (base := base) m__law_box F__law_box hb__law_box (ok_box T F__law_box)
  have h__law_cells := Has.of (P := P) (w := w) (base := base) m__law_cells F__law_cells hb__law_cells (ok_cells T F__law_cells)
  have h__law_of := Has.of (P := P) (w := w) (base := base) m__law_of F__law_of hb__law_of (ok_of T h__law_take F__law_of)
  have h__law_same := Has.of (P := P) (w := w) (base := base) m__law_same F__law_same hb__law_same (ok_same T F__law_same)
  have h__law_lists := Has.of (P := P) (w := w) (base := base) m__law_lists F__law_lists hb__law_lists (ok_lists T m__law_lists F__law_lists 20)
  have h_tupled := Has.of (P := P) (w := w) (base := base) m_tupled F_tupled hb_tupled (ok_tupled T m_tupled F_tupled 20)
  have h_is_full := Has.of (P := P) (w := w) (base := base) m_is_full F_is_full hb_is_full (ok_full T F_is_full)
  have h_contents_of := Has.of (P := P) (w := w) (base := base) m_contents_of F_contents_of hb_contents_of (ok_contents T h_tupled F_contents_of)
  have h_pages_of := Has.of (P := P) (w := w) (base := base) m_pages_of F_pages_of hb_pages_of (ok_pages_of T F_pages_of)
  have h_content_in := Has.of (P := P) (w := w) (base := base) m_content_in F_content_in hb_content_in (ok_content_in T F_content_in)
  have h_children_with_ranges := Has.of (P := P) (w := w) (base := base) m_children_with_ranges F_children_with_ranges hb_children_with_ranges (ok_ranges T F_children_with_ranges)
  have h_is_within := Has.of (P := P) (w := w) (base := base) m_is_within F_is_within hb_is_within (ok_within T F_is_within)
  have h_way_in := Has.of (P := P) (w := w) (base := base) m_way_in F_way_in hb_way_in (ok_way_in T h_content_in h_children_with_ranges h_is_within F_way_in)
  have h_least_free := Has.of (P := P) (w := w) (base := base) m_least_free F_least_free hb_least_free (ok_least T h_content_in F_least_free)
  have h_lay_shapes := Has.of (P := P) (w := w) (base := base) m_lay_shapes F_lay_shapes hb_lay_shapes (ok_lay T F_lay_shapes)
  have h_layM := Has.of (P := P) (w := w) (base := base) m_lay_shapes F_lay_shapes hb_lay_shapes (ok_layM T F_lay_shapes)
  have h_halves := Has.of (P := P) (w := w) (base := base) m_halves F_halves hb_halves (ok_halves T F_halves)
  have h_root_split := Has.of (P := P) (w := w) (base := base) m_root_split F_root_split hb_root_split (ok_rsplit T h_halves h_least_free F_root_split)
  have h_page_split := Has.of (P := P) (w := w) (base := base) m_page_split F_page_split hb_page_split (ok_psplit T h_halves h_least_free F_page_split)
  have h_room_in := Has.of (P := P) (w := w) (base := base) m_room_in F_room_in hb_room_in (ok_room_in T h_way_in h_is_full h_root_split h_page_split h_lay_shapes F_room_in)
  have h_way_to := Has.of (P := P) (w := w) (base := base) m_way_to F_way_to hb_way_to (ok_way_to T F_way_to)
  have h_without_child := Has.of (P := P) (w := w) (base := base) m_without_child F_without_child hb_without_child (ok_wo T F_without_child)
  have h_shrinking := Has.of (P := P) (w := w) (base := base) m_shrinking F_shrinking hb_shrinking (ok_shr T h_lay_shapes F_shrinking)
  have h_freeing_in := Has.of (P := P) (w := w) (base := base) m_freeing_in F_freeing_in hb_freeing_in (ok_freeing_in T h_content_in h_way_to h_without_child h_layM h_shrinking F_freeing_in)
  have h_room := Has.of (P := P) (w := w) (base := base) m_room F_room hb_room (ok_room T h_contents_of h_room_in F_room)
  have h_freeing := Has.of (P := P) (w := w) (base := base) m_freeing F_freeing hb_freeing (ok_freeing T h_contents_of h_freeing_in F_freeing)
  have h_shaped := Has.of (P := P) (w := w) (base := base) m_shaped F_shaped hb_shaped (ok_shaped T h_contents_of h_lay_shapes h_tupled h_pages_of F_shaped)
  have h__law_strewn := Has.of (P := P) (w := w) (base := base) m__law_strewn F__law_strewn hb__law_strewn (ok_strewn T h__law_take F__law_strewn)
  have h_strewnD := Has.of (P := P) (w := w) (base := base) m__law_strewn F__law_strewn hb__law_strewn (ok_strewnD T h__law_take F__law_strewn)
  have g := ok_grown (P := P) (w := w) (base := base) T h__law_take h__law_of m__law_grown F__law_grown
  have g2 : FnD P w K mg base 6 _ _ ["_law_box_here", "_law_world", "_law_low", "_law_high", "_law_depth"] fun rs M R => ∃ d, d ≤ 3 ∧ cn_grown d rs M R := ⟨fun rs M R ⟨d, _, h⟩ => (g d).len rs M R h, fun A outer s H args us vs Q hg hr he hb hv ⟨F, M, rs, R, a, b, ⟨d, hd, c⟩, po⟩ => (g d).run A outer s H args us vs Q hg (hr.mono (by omega)) he hb hv ⟨F, M, rs, R, a, b, c, po⟩⟩
  have h__law_grown := Has.of (P := P) (w := w) (base := base) m__law_grown F__law_grown hb__law_grown g2
  have h__law_tree := Has.of (P := P) (w := w) (base := base) m__law_tree F__law_tree hb__law_tree (ok_tree T h__law_of h__law_strewn h__law_grown F__law_tree)
  have h__law_pairs := Has.of (P := P) (w := w) (base := base) m__law_pairs F__law_pairs hb__law_pairs (ok_pairs T F__law_pairs)
  have h__law_drawn := Has.of (P := P) (w := w) (base := base) m__law_drawn F__law_drawn hb__law_drawn (ok_drawn T h__law_take h__law_of F__law_drawn)
  have h__law_right := Has.of (P := P) (w := w) (base := base) m__law_right F__law_right hb__law_right (ok_right T h__law_tree h__law_take h__law_pairs h__law_drawn h_strewnD h__law_lists h__law_same h_room h_freeing h_shaped F__law_right)
  exact ok_law T h__law_cells h__law_box h__law_right F_law
end LW
open PySem PySem.W PyProof.Rows
set_option maxRecDepth 100000 in
set_option maxHeartbeats 0 in
theorem PySem.Challenge.cw_splitstays_k15_pages_behind_shapes_holds : PySem.Challenge.rw_splitstays_k15_pages_behind_shapes.Holds := by
  w_on; o_law; k_head; (case hw => w_witness2)
  k_fill
  refine DL.law_end (l := PySem.Challenge.rw_splitstays_k15_pages_behind_shapes) (n := 63) (lv := 25) (x := "_law_script") (cn := LW.cn_law) rfl (by decide) rfl ⟨rfl, by decide, by decide⟩ (fun w h Y => PySem.W.kIn_of Y) ?F fun ns _ => ⟨ns, rfl, rfl⟩
  case F =>
    intro w mg fa h KX G hmg
    have z_abs : mg "abs" = none := by refine' PySem.W.mg_none_of KX G ?a; (case a => k_is)
    have z_all : mg "all" = none := by refine' PySem.W.mg_none_of KX G ?a; (case a => k_is)
    have z_dict : mg "dict" = none := by refine' PySem.W.mg_none_of KX G ?a; (case a => k_is)
    have z_enumerate : mg "enumerate" = none := by refine' PySem.W.mg_none_of KX G ?a; (case a => k_is)
    have z_int : mg "int" = none := by refine' PySem.W.mg_none_of KX G ?a; (case a => k_is)
    have z_isinstance : mg "isinstance" = none := by refine' PySem.W.mg_none_of KX G ?a; (case a => k_is)
    have z_len : mg "len" = none := by refine' PySem.W.mg_none_of KX G ?a; (case a => k_is)
    have z_list : mg "list" = none := by refine' PySem.W.mg_none_of KX G ?a; (case a => k_is)
    have z_range : mg "range" = none := by refine' PySem.W.mg_none_of KX G ?a; (case a => k_is)
    have z_repr : mg "repr" = none := by refine' PySem.W.mg_none_of KX G ?a; (case a => k_is)
    have z_set : mg "set" = none := by refine' PySem.W.mg_none_of KX G ?a; (case a => k_is)
    have z_sorted : mg "sorted" = none := by refine' PySem.W.mg_none_of KX G ?a; (case a => k_is)
    have z_tuple : mg "tuple" = none := by refine' PySem.W.mg_none_of KX G ?a; (case a => k_is)
    have z_zip : mg "zip" = none := by refine' PySem.W.mg_none_of KX G ?a; (case a => k_is)
    refine' (have c_FREE := LW.mk_FREE KX G ?a ?b ?v ?c; ?nx14)
    (case a => k_is); (case b => k_is); (case v => exact (.cons ⟨_, rfl⟩ .nil)); (case c => exact Nat.le_of_ble_eq_true rfl)
    refine' (have c_FULL := DL.const_mk (x := "FULL") KX G ?a; ?nx15)
    (case a => k_is)
    refine' (have c_INNER := DL.const_mk (x := "INNER") KX G ?a; ?nx16)
    (case a => k_is)
    refine' (have c_KEPT := DL.const_mk (x := "KEPT") KX G ?a; ?nx17)
    (case a => k_is)
    refine' (have c_LEAF := DL.const_mk (x := "LEAF") KX G ?a; ?nx18)
    (case a => k_is)
    refine' (have c_ROOT := DL.const_mk (x := "ROOT") KX G ?a; ?nx19)
    (case a => k_is)
    refine' (have d_tupled := DL.def_mk (x := "tupled") (st := LW.s_tupled) KX G ?a ?l ?c ?k; ?nx20)
    (case a => k_is); (case l => k_is); (case c => k_is); (case k => k_is)
    refine' (have d_is_full := DL.def_mk (x := "is_full") (st := LW.s_is_full) KX G ?a ?l ?c ?k; ?nx21)
    (case a => k_is); (case l => k_is); (case c => k_is); (case k => k_is)
    refine' (have d_contents_of := DL.def_mk (x := "contents_of") (st := LW.s_contents_of) KX G ?a ?l ?c ?k; ?nx22)
    (case a => k_is); (case l => k_is); (case c => k_is); (case k => k_is)
    refine' (have d_pages_of := DL.def_mk (x := "pages_of") (st := LW.s_pages_of) KX G ?a ?l ?c ?k; ?nx23)
    (case a => k_is); (case l => k_is); (case c => k_is); (case k => k_is)
    refine' (have d_content_in := DL.def_mk (x := "content_in") (st := LW.s_content_in) KX G ?a ?l ?c ?k; ?nx24)
    (case a => k_is); (case l => k_is); (case c => k_is); (case k => k_is)
    refine' (have d_children_with_ranges := DL.def_mk (x := "children_with_ranges") (st := LW.s_children_with_ranges) KX G ?a ?l ?c ?k; ?nx25)
    (case a => k_is); (case l => k_is); (case c => k_is); (case k => k_is)
    refine' (have d_is_within := DL.def_mk (x := "is_within") (st := LW.s_is_within) KX G ?a ?l ?c ?k; ?nx26)
    (case a => k_is); (case l => k_is); (case c => k_is); (case k => k_is)
    refine' (have d_way_in := DL.def_mk (x := "way_in") (st := LW.s_way_in) KX G ?a ?l ?c ?k; ?nx27)
    (case a => k_is); (case l => k_is); (case c => k_is); (case k => k_is)
    refine' (have d_least_free := DL.def_mk (x := "least_free") (st := LW.s_least_free) KX G ?a ?l ?c ?k; ?nx28)
    (case a => k_is); (case l => k_is); (case c => k_is); (case k => k_is)
    refine' (have d_lay_shapes := DL.def_mk (x := "lay_shapes") (st := LW.s_lay_shapes) KX G ?a ?l ?c ?k; ?nx29)
    (case a => k_is); (case l => k_is); (case c => k_is); (case k => k_is)
    refine' (have d_halves := DL.def_mk (x := "halves") (st := LW.s_halves) KX G ?a ?l ?c ?k; ?nx30)
    (case a => k_is); (case l => k_is); (case c => k_is); (case k => k_is)
    refine' (have d_root_split := DL.def_mk (x := "root_split") (st := LW.s_root_split) KX G ?a ?l ?c ?k; ?nx31)
    (case a => k_is); (case l => k_is); (case c => k_is); (case k => k_is)
    refine' (have d_page_split := DL.def_mk (x := "page_split") (st := LW.s_page_split) KX G ?a ?l ?c ?k; ?nx32)
    (case a => k_is); (case l => k_is); (case c => k_is); (case k => k_is)
    refine' (have d_room_in := DL.def_mk (x := "room_in") (st := LW.s_room_in) KX G ?a ?l ?c ?k; ?nx33)
    (case a => k_is); (case l => k_is); (case c => k_is); (case k => k_is)
    refine' (have d_way_to := DL.def_mk (x := "way_to") (st := LW.s_way_to) KX G ?a ?l ?c ?k; ?nx34)
    (case a => k_is); (case l => k_is); (case c => k_is); (case k => k_is)
    refine' (have d_without_child := DL.def_mk (x := "without_child") (st := LW.s_without_child) KX G ?a ?l ?c ?k; ?nx35)
    (case a => k_is); (case l => k_is); (case c => k_is); (case k => k_is)
    refine' (have d_shrinking := DL.def_mk (x := "shrinking") (st := LW.s_shrinking) KX G ?a ?l ?c ?k; ?nx36)
    (case a => k_is); (case l => k_is); (case c => k_is); (case k => k_is)
    refine' (have d_freeing_in := DL.def_mk (x := "freeing_in") (st := LW.s_freeing_in) KX G ?a ?l ?c ?k; ?nx37)
    (case a => k_is); (case l => k_is); (case c => k_is); (case k => k_is)
    refine' (have d_room := DL.def_mk (x := "room") (st := LW.s_room) KX G ?a ?l ?c ?k; ?nx38)
    (case a => k_is); (case l => k_is); (case c => k_is); (case k => k_is)
    refine' (have d_freeing := DL.def_mk (x := "freeing") (st := LW.s_freeing) KX G ?a ?l ?c ?k; ?nx39)
    (case a => k_is); (case l => k_is); (case c => k_is); (case k => k_is)
    refine' (have d_shaped := DL.def_mk (x := "shaped") (st := LW.s_shaped) KX G ?a ?l ?c ?k; ?nx40)
    (case a => k_is); (case l => k_is); (case c => k_is); (case k => k_is)
    refine' (have d__law_box := DL.def_mk (x := "_law_box") (st := LW.s__law_box) KX G ?a ?l ?c ?k; ?nx41)
    (case a => k_is); (case l => k_is); (case c => k_is); (case k => k_is)
    refine' (have d__law_take := DL.def_mk (x := "_law_take") (st := LW.s__law_take) KX G ?a ?l ?c ?k; ?nx42)
    (case a => k_is); (case l => k_is); (case c => k_is); (case k => k_is)
    refine' (have d__law_cells := DL.def_mk (x := "_law_cells") (st := LW.s__law_cells) KX G ?a ?l ?c ?k; ?nx43)
    (case a => k_is); (case l => k_is); (case c => k_is); (case k => k_is)
    refine' (have d__law_of := DL.def_mk (x := "_law_of") (st := LW.s__law_of) KX G ?a ?l ?c ?k; ?nx44)
    (case a => k_is); (case l => k_is); (case c => k_is); (case k => k_is)
    refine' (have d__law_same := DL.def_mk (x := "_law_same") (st := LW.s__law_same) KX G ?a ?l ?c ?k; ?nx45)
    (case a => k_is); (case l => k_is); (case c => k_is); (case k => k_is)
    refine' (have d__law_lists := DL.def_mk (x := "_law_lists") (st := LW.s__law_lists) KX G ?a ?l ?c ?k; ?nx46)
    (case a => k_is); (case l => k_is); (case c => k_is); (case k => k_is)
    refine' (have d__law_strewn := DL.def_mk (x := "_law_strewn") (st := LW.s__law_strewn) KX G ?a ?l ?c ?k; ?nx47)
    (case a => k_is); (case l => k_is); (case c => k_is); (case k => k_is)
    refine' (have d__law_grown := DL.def_mk (x := "_law_grown") (st := LW.s__law_grown) KX G ?a ?l ?c ?k; ?nx48)
    (case a => k_is); (case l => k_is); (case c => k_is); (case k => k_is)
    refine' (have d__law_tree := DL.def_mk (x := "_law_tree") (st := LW.s__law_tree) KX G ?a ?l ?c ?k; ?nx49)
    (case a => k_is); (case l => k_is); (case c => k_is); (case k => k_is)
    refine' (have d__law_pairs := DL.def_mk (x := "_law_pairs") (st := LW.s__law_pairs) KX G ?a ?l ?c ?k; ?nx50)
    (case a => k_is); (case l => k_is); (case c => k_is); (case k => k_is)
    refine' (have d__law_drawn := DL.def_mk (x := "_law_drawn") (st := LW.s__law_drawn) KX G ?a ?l ?c ?k; ?nx51)
    (case a => k_is); (case l => k_is); (case c => k_is); (case k => k_is)
    refine' (have d__law_right := DL.def_mk (x := "_law_right") (st := LW.s__law_right) KX G ?a ?l ?c ?k; ?nx52)
    (case a => k_is); (case l => k_is); (case c => k_is); (case k => k_is)
    refine' (have d_law := DL.def_mk (x := "law") (st := LW.s_law) KX G ?a ?l ?c ?k; ?nx53)
    (case a => k_is); (case l => k_is); (case c => k_is); (case k => k_is)
    exact LW.asm hmg ⟨z_abs, z_all, z_dict, z_enumerate, z_int, z_isinstance, z_len, z_list, z_range, z_repr, z_set, z_sorted, z_tuple, z_zip, c_FREE, ⟨_, c_FULL⟩, ⟨_, c_INNER⟩, ⟨_, c_KEPT⟩, ⟨_, c_LEAF⟩, ⟨_, c_ROOT⟩⟩ d_tupled d_is_full d_contents_of d_pages_of d_content_in d_children_with_ranges d_is_within d_way_in d_least_free d_lay_shapes d_halves d_root_split d_page_split d_room_in d_way_to d_without_child d_shrinking d_freeing_in d_room d_freeing d_shaped d__law_box d__law_take d__law_cells d__law_of d__law_same d__law_lists d__law_strewn d__law_grown d__law_tree d__law_pairs d__law_drawn d__law_right d_law
