import PyProof.Rows.All
import Wide.All
import OpenK.AllK
import Wide.FinOn
import PySem.Challenge.RW_pileups_k33_tables_refused
import HandS.ForMost
import HandS.Flow
import HandS.Wide
import HandS.IsInst
import HandS.Steps
import HandS.Codes
import HandS.Style
import HandS.Zip
import HandS.DictComp
import HandS.Conv
import HandS.ListItems
import HandS.FStr
import HandS.Defaults
import HandS.MakeKw
import HandS.SortInts
import HandS.Strs
import HandS.SetFor
import HandS.OwnEq
import HandS.Exc
import HandS.ExcInit
import HandS.TryMany
import HandS.ExcField
import HandS.TryOnly
import KE.KDictCopyH
import HandS.TupAny
import HandS.MapJoin
import HandS.Star
import KE.KEqNest
import PyProof.EqKinds
import PyProof.NeKinds
import HandS.Finally
import KE.GoesMore
import KE.GoesEnum
import KE.KDictZip
import PyProof.ExcClass
import PyProof.RulesRaise
import PyProof.FactsTree
import PyProof.ExcBaseAll.LookupError
import PyProof.ExcBaseAll.ValueError
import KE.KExcInit
import HandS.WordsExc
set_option Elab.async false
set_option linter.all false
set_option maxRecDepth 100000
set_option maxHeartbeats 4000000
namespace L3
open PySem L2

/-- the written part, the program, the world -/
structure Kn where
  K : PySem.W.Frag
  P : Program
  w : World
instance : Coe Kn PySem.W.Frag := ⟨Kn.K⟩
abbrev _root_.L2.Cx.kn (X : Cx) : Kn := ⟨X.K, X.prog, X.w⟩
/-- a key that is a tuple of flat things -/
abbrev LK := List Leaf
def lkH (K : Kn) : HeapKind K.P K.w LK := tupleKind (leafKind K.P K.w)
/-- a dict whose keys are such tuples -/
def dcnO (K : Kn) (a : Addr) (xs : List (LK × Addr × V)) : HO := .ext fun h => xs.length ≤ sizeLine ∧ (a == sysModules) = false ∧ (xs.map (·.1)).Nodup ∧ ∃ (ys : List (LK × Addr × Value)) (o : Obj) (es : Array DictEntry) (ep : Nat),
  Paired (fun (p : LK × Addr × V) (q : LK × Addr × Value) => p.1 = q.1 ∧ p.2.1 = q.2.1 ∧ RelV p.2.2 q.2.2) xs ys ∧ h.get? a = some o ∧ o.ExactDict ∧ o.data = .dict es ep ∧ es.toList = ys.map (entryOfKey (lkH K))
/-- the class of a name -/
def clsA (K : Kn) (n : Str) (C : Addr) : Prop := PySem.W.nsIn K.K mainGlobals n = some (some (.ref C))
theorem clsA.inj {K : Kn} {n : Str} {C C' : Addr} (h : clsA K n C) (h' : clsA K n C') : C = C' := by
  unfold clsA at h h'
  rw [h] at h'
  cases h'
  rfl
def leafV : Leaf → V
  | .none => .non
  | .num i => .int i
  | .text x => .str x
/-- data as trees; an address stands for an object that is tracked by itself -/
inductive D where
  | non | bl (b : Bool) | int (i : Int) | str (x : Str) | ty (n : String) | ref (a : Addr)
  | tup (xs : List D) | lst (xs : List D) | dct (kvs : List (Key × D)) | obj (C : Str) (fs : List (Str × D))
  /-- a class of the program -/
  | cls (n : Str)
  /-- a dict whose keys are tuples of flat things -/
  | dcn (kvs : List (LK × D))
  /-- a list that is only read (the script) -/
  | scr (xs : List D)
/-- what stands at a tracked address -/
inductive MO where
  | lst (xs : List D) | dct (kvs : List (Key × D)) | dcn (kvs : List (LK × D)) | ins (C : Str) (fs : List (Str × D))
abbrev Mu := Addr → Option MO
def mset (μ : Mu) (a : Addr) (o : MO) : Mu := fun b => if b = a then some o else μ b
theorem mset_same {μ : Mu} {a : Addr} {o : MO} : mset μ a o a = some o := by unfold mset; rw [if_pos rfl]
theorem mset_ne {μ : Mu} {a b : Addr} {o : MO} (h : b ≠ a) : mset μ a o b = μ b := by unfold mset; rw [if_neg h]
def keyD : Key → D
  | .inl i => .int i
  | .inr x => .str x
/-- a list of the written part -/
def KL (K : Kn) (a : Addr) (xs : List V) : Prop :=
  ∃ (o : Obj) (its : Array Value) (n : Nat), K.K.lookup a = some o ∧ o.cls = .type "list" ∧ o.dict = none ∧ o.data = .seq its n ∧ its.size ≤ sizeLine ∧ Vals xs its.toList
def FL (K : Kn) (F : Addr → Prop) (H : Hp) (a : Addr) (vs : List V) : Prop := (F a ∧ Rd H a (.lst vs)) ∨ KL K a vs
mutual
inductive Rp (K : Kn) (F : Addr → Prop) (H : Hp) : D → V → Prop
  | non : Rp K F H .non .non
  | bl (b : Bool) : Rp K F H (.bl b) (.bl b)
  | int (i : Int) : Rp K F H (.int i) (.int i)
  | str (x : Str) : Rp K F H (.str x) (.str x)
  | ty (n : String) : Rp K F H (.ty n) (.ty n)
  | ref (a : Addr) : Rp K F H (.ref a) (.ref a)
  | cls {n : Str} {C : Addr} : clsA K n C → Rp K F H (.cls n) (.ref C)
  | tup {xs : List D} {vs : List V} {a : Addr} : F a → H a = some (.tup vs) → Rps K F H xs vs → Rp K F H (.tup xs) (.ref a)
  | scr {xs : List D} {vs : List V} {a : Addr} : FL K F H a vs → Rps K F H xs vs → Rp K F H (.scr xs) (.ref a)
  | lst {xs : List D} {vs : List V} {a : Addr} : F a → H a = some (.lst vs) → Rps K F H xs vs → Rp K F H (.lst xs) (.ref a)
  | dct {kvs : List (Key × D)} {ks : List (Key × V)} {a : Addr} : F a → Rd H a (.dK ks) → Rpk K F H kvs ks → Rp K F H (.dct kvs) (.ref a)
  | obj {n : Str} {C : Addr} {fs : List (Str × D)} {gs : List (Str × V)} {a dx : Addr} : clsA K n C → F a → H a = some (.ins C dx gs) → Rpf K F H fs gs → Rp K F H (.obj n fs) (.ref a)
  | dcn {kvs : List (LK × D)} {ks : List (LK × Addr × V)} {a : Addr} : F a → H a = some (dcnO K a ks) → Rpn K F H kvs ks → Rp K F H (.dcn kvs) (.ref a)
inductive Rps (K : Kn) (F : Addr → Prop) (H : Hp) : List D → List V → Prop
  | nil : Rps K F H [] []
  | cons {d : D} {v : V} {ds : List D} {vs : List V} : Rp K F H d v → Rps K F H ds vs → Rps K F H (d :: ds) (v :: vs)
inductive Rpk (K : Kn) (F : Addr → Prop) (H : Hp) : List (Key × D) → List (Key × V) → Prop
  | nil : Rpk K F H [] []
  | cons {k : Key} {d : D} {v : V} {ds : List (Key × D)} {vs : List (Key × V)} : Rp K F H d v → Rpk K F H ds vs → Rpk K F H ((k, d) :: ds) ((k, v) :: vs)
inductive Rpn (K : Kn) (F : Addr → Prop) (H : Hp) : List (LK × D) → List (LK × Addr × V) → Prop
  | nil : Rpn K F H [] []
  | cons {k : LK} {b : Addr} {d : D} {v : V} {ds : List (LK × D)} {vs : List (LK × Addr × V)} : F b → H b = some (.tup (k.map leafV)) → Rp K F H d v → Rpn K F H ds vs → Rpn K F H ((k, d) :: ds) ((k, b, v) :: vs)
inductive Rpf (K : Kn) (F : Addr → Prop) (H : Hp) : List (Str × D) → List (Str × V) → Prop
  | nil : Rpf K F H [] []
  | cons {f : Str} {d : D} {v : V} {ds : List (Str × D)} {vs : List (Str × V)} : Rp K F H d v → Rpf K F H ds vs → Rpf K F H ((f, d) :: ds) ((f, v) :: vs)
end
def isD : HO → Bool
  | .dK _ => true
  | _ => false
/-- the frozen part only grows, and stays -/
structure Grow (F : Addr → Prop) (H : Hp) (F' : Addr → Prop) (H' : Hp) : Prop where
  mono : ∀ a, F a → F' a
  rd : ∀ a u, F a → Rd H a u → Rd H' a u
  fix : ∀ a u, F a → isD u = false → H a = some u → H' a = some u
section
variable {K : Kn} {F F' F'' : Addr → Prop} {H H' H'' : Hp} {d : D} {v : V}
theorem Grow.refl : Grow F H F H := ⟨fun _ h => h, fun _ _ _ h => h, fun _ _ _ _ h => h⟩
theorem Grow.trans (a : Grow F H F' H') (b : Grow F' H' F'' H'') : Grow F H F'' H'' :=
  ⟨fun x h => b.mono x (a.mono x h), fun x u f h => b.rd x u (a.mono x f) (a.rd x u f h), fun x u f i h => b.fix x u (a.mono x f) i (a.fix x u f i h)⟩
theorem FL.grow {a : Addr} {vs : List V} (g : Grow F H F' H') (h : FL K F H a vs) : FL K F' H' a vs := h.imp (fun ⟨f, r⟩ => ⟨g.mono a f, g.rd a _ f r⟩) id
theorem FL.sq {a : Addr} {vs : List V} (h : FL K F H a vs) : SqL K H a vs := h.imp (fun ⟨_, r⟩ => r) id
mutual
theorem Rp.grow {d : D} {v : V} (g : Grow F H F' H') : Rp K F H d v → Rp K F' H' d v
  | .non => .non
  | .bl b => .bl b
  | .int i => .int i
  | .str x => .str x
  | .ty n => .ty n
  | .ref a => .ref a
  | .cls c => .cls c
  | .tup f h r => .tup (g.mono _ f) (g.fix _ _ f rfl h) (Rps.grow g r)
  | .scr h r => .scr (h.grow g) (Rps.grow g r)
  | .lst f h r => .lst (g.mono _ f) (g.fix _ _ f rfl h) (Rps.grow g r)
  | .dct f h r => .dct (g.mono _ f) (g.rd _ _ f h) (Rpk.grow g r)
  | .obj c f h r => .obj c (g.mono _ f) (g.fix _ _ f rfl h) (Rpf.grow g r)
  | .dcn f h r => .dcn (g.mono _ f) (g.fix _ _ f rfl h) (Rpn.grow g r)
theorem Rps.grow {ds : List D} {vs : List V} (g : Grow F H F' H') : Rps K F H ds vs → Rps K F' H' ds vs
  | .nil => .nil
  | .cons h r => .cons (Rp.grow g h) (Rps.grow g r)
theorem Rpk.grow {ds : List (Key × D)} {vs : List (Key × V)} (g : Grow F H F' H') : Rpk K F H ds vs → Rpk K F' H' ds vs
  | .nil => .nil
  | .cons h r => .cons (Rp.grow g h) (Rpk.grow g r)
theorem Rpn.grow {ds : List (LK × D)} {vs : List (LK × Addr × V)} (g : Grow F H F' H') : Rpn K F H ds vs → Rpn K F' H' ds vs
  | .nil => .nil
  | .cons f e h r => .cons (g.mono _ f) (g.fix _ _ f rfl e) (Rp.grow g h) (Rpn.grow g r)
theorem Rpf.grow {ds : List (Str × D)} {vs : List (Str × V)} (g : Grow F H F' H') : Rpf K F H ds vs → Rpf K F' H' ds vs
  | .nil => .nil
  | .cons h r => .cons (Rp.grow g h) (Rpf.grow g r)
end
theorem Rps.length {ds : List D} {vs : List V} : Rps K F H ds vs → ds.length = vs.length
  | .nil => rfl
  | .cons _ r => by rw [List.length_cons, List.length_cons, Rps.length r]
theorem Rps.get {ds : List D} {vs : List V} : ∀ {i : Nat} {d : D}, Rps K F H ds vs → ds[i]? = some d → ∃ v, vs[i]? = some v ∧ Rp K F H d v
  | _, _, .nil, e => by simp at e
  | 0, _, .cons h _, e => by simp at e; subst e; exact ⟨_, rfl, h⟩
  | i + 1, _, .cons _ r, e => by
    obtain ⟨v, e1, h⟩ := Rps.get (i := i) r (by simpa using e)
    exact ⟨v, by simpa using e1, h⟩
theorem Rps.back {ds : List D} {vs : List V} : ∀ {i : Nat} {v : V}, Rps K F H ds vs → vs[i]? = some v → ∃ d, ds[i]? = some d ∧ Rp K F H d v
  | _, _, .nil, e => by simp at e
  | 0, _, .cons h _, e => by simp at e; subst e; exact ⟨_, rfl, h⟩
  | i + 1, _, .cons _ r, e => by
    obtain ⟨v, e1, h⟩ := Rps.back (i := i) r (by simpa using e)
    exact ⟨v, by simpa using e1, h⟩
theorem Rps.append : ∀ {ds es : List D} {vs us : List V}, Rps K F H ds vs → Rps K F H es us → Rps K F H (ds ++ es) (vs ++ us)
  | _, _, _, _, .nil, s => s
  | _, _, _, _, .cons h r, s => .cons h (Rps.append r s)
theorem Rps.set {d : D} {v : V} (h : Rp K F H d v) : ∀ {ds : List D} {vs : List V} (i : Nat), Rps K F H ds vs → Rps K F H (ds.set i d) (vs.set i v)
  | _, _, _, .nil => .nil
  | _, _, 0, .cons _ t => .cons h t
  | _, _, i + 1, .cons q t => .cons q (Rps.set h i t)
theorem Rps.take : ∀ {ds : List D} {vs : List V} (n : Nat), Rps K F H ds vs → Rps K F H (ds.take n) (vs.take n)
  | _, _, 0, _ => .nil
  | _, _, _ + 1, .nil => .nil
  | _, _, n + 1, .cons r t => .cons r (Rps.take n t)
theorem Rps.drop : ∀ {ds : List D} {vs : List V} (n : Nat), Rps K F H ds vs → Rps K F H (ds.drop n) (vs.drop n)
  | _, _, 0, r => r
  | _, _, _ + 1, .nil => .nil
  | _, _, n + 1, .cons _ t => Rps.drop n t
theorem Rps.dropLast {ds : List D} {vs : List V} (h : Rps K F H ds vs) : Rps K F H ds.dropLast vs.dropLast := by
  rw [List.dropLast_eq_take, List.dropLast_eq_take, h.length]
  exact h.take _
theorem Rps.reverse : ∀ {ds : List D} {vs : List V}, Rps K F H ds vs → Rps K F H ds.reverse vs.reverse
  | _, _, .nil => .nil
  | _, _, .cons h t => by
    rw [List.reverse_cons, List.reverse_cons]
    exact (Rps.reverse t).append (.cons h .nil)

def MoOk (K : Kn) (F : Addr → Prop) (H : Hp) (a : Addr) : MO → Prop
  | .lst xs => ∃ vs, H a = some (.lst vs) ∧ Rps K F H xs vs
  | .dct kvs => ∃ ks, H a = some (.dK ks) ∧ Rpk K F H kvs ks
  | .dcn kvs => ∃ ks, H a = some (dcnO K a ks) ∧ Rpn K F H kvs ks
  | .ins n fs => ∃ C dx gs, clsA K n C ∧ H a = some (.ins C dx gs) ∧ Rpf K F H fs gs
structure Sim0 (K : Kn) (F : Addr → Prop) (H : Hp) (μ : Mu) : Prop where
  dom : ∀ a, F a → ∃ u, H a = some u
  obj : ∀ a o, μ a = some o → ¬ F a ∧ MoOk K F H a o
abbrev St3 := List (Option D)
structure Sl (K : Kn) (F : Addr → Prop) (H : Hp) (σ : St) (δ : St3) : Prop where
  len : σ.length = δ.length
  at_ : ∀ (i : Nat) (d : D), δ[i]? = some (some d) → ∃ v, σ[i]? = some (some v) ∧ Rp K F H d v
theorem Sl.grow {σ : St} {δ : St3} (g : Grow F H F' H') (s : Sl K F H σ δ) : Sl K F' H' σ δ :=
  ⟨s.len, fun i d e => let ⟨v, e1, r⟩ := s.at_ i d e; ⟨v, e1, r.grow g⟩⟩
theorem Sl.set {σ : St} {δ : St3} {d : D} {v : V} (s : Sl K F H σ δ) (i : Nat) (r : Rp K F H d v) : Sl K F H (σ.set i (some v)) (δ.set i (some d)) := by
  refine ⟨by simpa using s.len, fun j e h => ?_⟩
  by_cases hj : i = j
  · subst hj
    by_cases hl : i < δ.length
    · rw [List.getElem?_set_self hl] at h
      cases h
      exact ⟨v, List.getElem?_set_self (by rw [s.len]; exact hl), r⟩
    · rw [List.getElem?_eq_none_iff.mpr (by simpa using hl)] at h
      cases h
  · rw [List.getElem?_set_ne hj] at h
    obtain ⟨u, e1, r1⟩ := s.at_ j e h
    exact ⟨u, by rw [List.getElem?_set_ne hj]; exact e1, r1⟩
/-- a new object at p, tracked in H -/
theorem Sim0.new {μ : Mu} {p : Addr} {o : HO} (s : Sim0 K F H μ) (hp : H p = none) : Grow F H F (upd H p o) ∧ Sim0 K F (upd H p o) μ := by
  have ne : ∀ a, F a → a ≠ p := fun a f e => by
    obtain ⟨u, h⟩ := s.dom a f
    rw [e, hp] at h
    cases h
  have g : Grow F H F (upd H p o) := by
    refine ⟨fun _ h => h, fun a u f h => ?_, fun a u f _ h => by rw [upd_ne (ne a f)]; exact h⟩
    rcases h with h | ⟨ob, h⟩
    · exact .inl (by rw [upd_ne (ne a f)]; exact h)
    · exact .inr ⟨ob, by rw [upd_ne (ne a f)]; exact h⟩
  refine ⟨g, fun a f => ?_, fun a o' h => ?_⟩
  · rw [upd_ne (ne a f)]; exact s.dom a f
  · obtain ⟨nf, m⟩ := s.obj a o' h
    refine ⟨nf, ?_⟩
    have neA : ∀ u, H a = some u → a ≠ p := fun u hu e => by rw [e, hp] at hu; cases hu
    cases o' with
    | lst xs => obtain ⟨vs, e, r⟩ := m; exact ⟨vs, by rw [upd_ne (neA _ e)]; exact e, r.grow g⟩
    | dct kvs => obtain ⟨vs, e, r⟩ := m; exact ⟨vs, by rw [upd_ne (neA _ e)]; exact e, r.grow g⟩
    | dcn kvs => obtain ⟨vs, e, r⟩ := m; exact ⟨vs, by rw [upd_ne (neA _ e)]; exact e, r.grow g⟩
    | ins n fs => obtain ⟨C, dx, vs, c, e, r⟩ := m; exact ⟨C, dx, vs, c, by rw [upd_ne (neA _ e)]; exact e, r.grow g⟩
/-- .. and frozen -/
theorem Sim0.frz {μ : Mu} {p : Addr} {o : HO} (s : Sim0 K F H μ) (hp : H p = none) : Grow F H (fun a => F a ∨ a = p) (upd H p o) ∧ Sim0 K (fun a => F a ∨ a = p) (upd H p o) μ := by
  obtain ⟨g, s1⟩ := s.new (o := o) hp
  have g1 : Grow F (upd H p o) (fun a => F a ∨ a = p) (upd H p o) := ⟨fun _ h => .inl h, fun _ _ _ h => h, fun _ _ _ _ h => h⟩
  refine ⟨g.trans g1, fun a f => ?_, fun a o' h => ?_⟩
  · rcases f with f | rfl
    · exact s1.dom a f
    · exact ⟨o, upd_same⟩
  · obtain ⟨nf, m⟩ := s1.obj a o' h
    refine ⟨fun f => ?_, ?_⟩
    · rcases f with f | rfl
      · exact nf f
      · obtain ⟨_, m0⟩ := s.obj a o' h
        cases o' with
        | lst xs => obtain ⟨vs, e, r⟩ := m0; rw [hp] at e; cases e
        | dct kvs => obtain ⟨vs, e, r⟩ := m0; rw [hp] at e; cases e
        | dcn kvs => obtain ⟨vs, e, r⟩ := m0; rw [hp] at e; cases e
        | ins n fs => obtain ⟨C, dx, vs, c, e, r⟩ := m0; rw [hp] at e; cases e
    · cases o' with
      | lst xs => obtain ⟨vs, e, r⟩ := m; exact ⟨vs, e, r.grow g1⟩
      | dct kvs => obtain ⟨vs, e, r⟩ := m; exact ⟨vs, e, r.grow g1⟩
      | dcn kvs => obtain ⟨vs, e, r⟩ := m; exact ⟨vs, e, r.grow g1⟩
      | ins n fs => obtain ⟨C, dx, vs, c, e, r⟩ := m; exact ⟨C, dx, vs, c, e, r.grow g1⟩
theorem Sim0.free {μ : Mu} {p : Addr} (s : Sim0 K F H μ) (hp : H p = none) : μ p = none := by
  cases h : μ p with
  | none => rfl
  | some o =>
    obtain ⟨_, m⟩ := s.obj p o h
    cases o with
    | lst xs => obtain ⟨vs, e, r⟩ := m; rw [hp] at e; cases e
    | dct kvs => obtain ⟨vs, e, r⟩ := m; rw [hp] at e; cases e
    | dcn kvs => obtain ⟨vs, e, r⟩ := m; rw [hp] at e; cases e
    | ins n fs => obtain ⟨C, dx, vs, c, e, r⟩ := m; rw [hp] at e; cases e
/-- .. and tracked -/
theorem Sim0.trk {μ : Mu} {p : Addr} {o : HO} {m : MO} (s : Sim0 K F H μ) (hp : H p = none) (ok : ∀ {F' : Addr → Prop} {H' : Hp}, Grow F H F' H' → H' p = some o → MoOk K F' H' p m) :
    Grow F H F (upd H p o) ∧ Sim0 K F (upd H p o) (mset μ p m) := by
  obtain ⟨g, s1⟩ := s.new (o := o) hp
  refine ⟨g, s1.dom, fun a o' h => ?_⟩
  by_cases e : a = p
  · subst e
    rw [mset_same] at h
    cases h
    refine ⟨fun f => ?_, ok g upd_same⟩
    obtain ⟨u, hu⟩ := s.dom a f
    rw [hp] at hu
    cases hu
  · rw [mset_ne e] at h
    exact s1.obj a o' h
/-- a tracked object is changed -/
theorem Sim0.put {μ : Mu} {p : Addr} {o : HO} {m m0 : MO} (s : Sim0 K F H μ) (h0 : μ p = some m0) (ok : ∀ {F' : Addr → Prop} {H' : Hp}, Grow F H F' H' → H' p = some o → MoOk K F' H' p m) :
    Grow F H F (upd H p o) ∧ Sim0 K F (upd H p o) (mset μ p m) := by
  have ne : ∀ a, F a → a ≠ p := fun a f e => (s.obj p m0 h0).1 (e ▸ f)
  have g : Grow F H F (upd H p o) := by
    refine ⟨fun _ h => h, fun a u f h => ?_, fun a u f _ h => by rw [upd_ne (ne a f)]; exact h⟩
    rcases h with h | ⟨ob, h⟩
    · exact .inl (by rw [upd_ne (ne a f)]; exact h)
    · exact .inr ⟨ob, by rw [upd_ne (ne a f)]; exact h⟩
  refine ⟨g, fun a f => by rw [upd_ne (ne a f)]; exact s.dom a f, fun a o' h => ?_⟩
  by_cases e : a = p
  · subst e
    rw [mset_same] at h
    cases h
    exact ⟨(s.obj a m0 h0).1, ok g upd_same⟩
  · rw [mset_ne e] at h
    obtain ⟨nf, m⟩ := s.obj a o' h
    refine ⟨nf, ?_⟩
    cases o' with
    | lst xs => obtain ⟨vs, q, r⟩ := m; exact ⟨vs, by rw [upd_ne e]; exact q, r.grow g⟩
    | dct kvs => obtain ⟨vs, q, r⟩ := m; exact ⟨vs, by rw [upd_ne e]; exact q, r.grow g⟩
    | dcn kvs => obtain ⟨vs, q, r⟩ := m; exact ⟨vs, by rw [upd_ne e]; exact q, r.grow g⟩
    | ins n fs => obtain ⟨C, dx, vs, c, q, r⟩ := m; exact ⟨C, dx, vs, c, by rw [upd_ne e]; exact q, r.grow g⟩
/-- what is neither tracked nor new stays, and is not frozen meanwhile -/
def Fm (F : Addr → Prop) (μ : Mu) (H : Hp) (F' : Addr → Prop) (μ' : Mu) (H' : Hp) : Prop := ∀ a u, H a = some u → μ a = none → ¬ F a → μ' a = none ∧ H' a = some u ∧ ¬ F' a
theorem Fm.refl {μ : Mu} : Fm F μ H F μ H := fun _ _ h n z => ⟨n, h, z⟩
theorem Fm.trans {μ μ1 μ2 : Mu} {H1 H2 : Hp} {F1 F2 : Addr → Prop} (a : Fm F μ H F1 μ1 H1) (b : Fm F1 μ1 H1 F2 μ2 H2) : Fm F μ H F2 μ2 H2 := fun x u h n z =>
  let ⟨n1, h1, f1⟩ := a x u h n z
  b x u h1 n1 f1
theorem Fm.new {μ : Mu} {p : Addr} {o : HO} (hp : H p = none) : Fm F μ H F μ (upd H p o) := fun a u h n z => ⟨n, by rw [upd_ne (ne_of_none h hp)]; exact h, z⟩
theorem Fm.frz {μ : Mu} {p : Addr} {o : HO} (hp : H p = none) : Fm F μ H (fun a => F a ∨ a = p) μ (upd H p o) := fun a u h n z => ⟨n, by rw [upd_ne (ne_of_none h hp)]; exact h, fun q => q.elim z fun e => absurd e (ne_of_none h hp)⟩
theorem Fm.trk {μ : Mu} {p : Addr} {o : HO} {m : MO} (hp : H p = none) : Fm F μ H F (mset μ p m) (upd H p o) := fun a u h n z => ⟨by rw [mset_ne (ne_of_none h hp)]; exact n, by rw [upd_ne (ne_of_none h hp)]; exact h, z⟩
theorem Fm.put {μ : Mu} {p : Addr} {o : HO} {m m0 : MO} (h0 : μ p = some m0) : Fm F μ H F (mset μ p m) (upd H p o) := fun a u h n z => by
  have ne : a ≠ p := fun e => by rw [e, h0] at n; cases n
  exact ⟨by rw [mset_ne ne]; exact n, by rw [upd_ne ne]; exact h, z⟩
/-- what is told of each state of a def's run, whatever it does -/
structure Zn (K : Kn) where
  his : (Addr → Prop) → Hp → Mu → Prop
  mono : ∀ {F H μ F' H' μ'}, Grow F H F' H' → Fm F μ H F' μ' H' → Sim0 K F' H' μ' → his F H μ → his F' H' μ'
def Zn.top (K : Kn) : Zn K := ⟨fun _ _ _ => True, fun _ _ _ _ => trivial⟩
structure Sim {K : Kn} (Z : Zn K) (F : Addr → Prop) (H : Hp) (μ : Mu) : Prop where
  raw : Sim0 K F H μ
  his : Z.his F H μ
variable {Z : Zn K}
theorem Sim.dom {μ : Mu} (s : Sim Z F H μ) : ∀ a, F a → ∃ u, H a = some u := s.raw.dom
theorem Sim.obj {μ : Mu} (s : Sim Z F H μ) : ∀ a o, μ a = some o → ¬ F a ∧ MoOk K F H a o := s.raw.obj
theorem Sim.free {μ : Mu} {p : Addr} (s : Sim Z F H μ) (hp : H p = none) : μ p = none := s.raw.free hp
structure Step {K : Kn} (Z : Zn K) (F : Addr → Prop) (H : Hp) (μ : Mu) (F' : Addr → Prop) (H' : Hp) (μ' : Mu) : Prop where
  grow : Grow F H F' H'
  fm : Fm F μ H F' μ' H'
  sim : Sim Z F' H' μ'
theorem Sim.step {μ μ' : Mu} (s : Sim Z F H μ) (g : Grow F H F' H') (m : Fm F μ H F' μ' H') (z : Sim0 K F' H' μ') : Step Z F H μ F' H' μ' := ⟨g, m, z, Z.mono g m z s.his⟩
theorem Sim.up {μ : Mu} (s : Sim Z F H μ) : Sim (Zn.top K) F H μ := ⟨s.raw, trivial⟩
theorem Step.on {μ μ' : Mu} {Y : Zn K} (g : Step Y F H μ F' H' μ') (s : Sim Z F H μ) : Step Z F H μ F' H' μ' := s.step g.grow g.fm g.sim.raw
theorem Step.refl {μ : Mu} (s : Sim Z F H μ) : Step Z F H μ F H μ := ⟨.refl, .refl, s⟩
theorem Step.trans {μ μ' μ'' : Mu} (a : Step Z F H μ F' H' μ') (b : Step Z F' H' μ' F'' H'' μ'') : Step Z F H μ F'' H'' μ'' := ⟨a.grow.trans b.grow, a.fm.trans b.fm, b.sim⟩
/-- a private object (neither frozen nor tracked, made since) is changed -/
theorem Sim0.priv {μ : Mu} {p : Addr} {o : HO} (s : Sim0 K F H μ) (nF : ¬ F p) (nμ : μ p = none) : Grow F H F (upd H p o) ∧ Sim0 K F (upd H p o) μ := by
  have ne : ∀ a, F a → a ≠ p := fun a f e => nF (e ▸ f)
  have g : Grow F H F (upd H p o) := by
    refine ⟨fun _ h => h, fun a u f h => ?_, fun a u f _ h => by rw [upd_ne (ne a f)]; exact h⟩
    rcases h with h | ⟨ob, h⟩
    · exact .inl (by rw [upd_ne (ne a f)]; exact h)
    · exact .inr ⟨ob, by rw [upd_ne (ne a f)]; exact h⟩
  refine ⟨g, fun a f => by rw [upd_ne (ne a f)]; exact s.dom a f, fun a o' h => ?_⟩
  have e : a ≠ p := fun e => by rw [e, nμ] at h; cases h
  obtain ⟨nf, m⟩ := s.obj a o' h
  refine ⟨nf, ?_⟩
  cases o' with
  | lst xs => obtain ⟨vs, q, r⟩ := m; exact ⟨vs, by rw [upd_ne e]; exact q, r.grow g⟩
  | dct kvs => obtain ⟨vs, q, r⟩ := m; exact ⟨vs, by rw [upd_ne e]; exact q, r.grow g⟩
  | dcn kvs => obtain ⟨vs, q, r⟩ := m; exact ⟨vs, by rw [upd_ne e]; exact q, r.grow g⟩
  | ins n fs => obtain ⟨C, dx, vs, c, q, r⟩ := m; exact ⟨C, dx, vs, c, by rw [upd_ne e]; exact q, r.grow g⟩
theorem Step.priv {μ μ' : Mu} {p : Addr} {o : HO} (s0 : Sim Z F H μ) (s : Step Z F H μ F' H' μ') (hp : H p = none) (nF : ¬ F' p) (nμ : μ' p = none) : Step Z F H μ F' (upd H' p o) μ' := by
  obtain ⟨g, z⟩ := s.sim.raw.priv (o := o) nF nμ
  refine s0.step (s.grow.trans g) (fun a u h n z' => ?_) z
  obtain ⟨n1, h1, f1⟩ := s.fm a u h n z'
  exact ⟨n1, by rw [upd_ne (ne_of_none h hp)]; exact h1, f1⟩
/-- .. and frozen at last -/
theorem Step.shut {μ μ' : Mu} {p : Addr} {o : HO} (s0 : Sim Z F H μ) (s : Step Z F H μ F' H' μ') (hp : H p = none) (nμ : μ' p = none) (e : H' p = some o) : Step Z F H μ (fun a => F' a ∨ a = p) H' μ' := by
  have g1 : Grow F' H' (fun a => F' a ∨ a = p) H' := ⟨fun _ h => .inl h, fun _ _ _ h => h, fun _ _ _ _ h => h⟩
  refine s0.step (s.grow.trans g1) (fun a u h n z' => ?_) ⟨fun a f => ?_, fun a o' h => ?_⟩
  · obtain ⟨n1, h1, f1⟩ := s.fm a u h n z'
    exact ⟨n1, h1, fun z => z.elim f1 fun e => absurd e (ne_of_none h hp)⟩
  · rcases f with f | rfl
    · exact s.sim.dom a f
    · exact ⟨o, e⟩
  · obtain ⟨nf, m⟩ := s.sim.obj a o' h
    refine ⟨fun f => f.elim nf (fun e => by rw [e, nμ] at h; cases h), ?_⟩
    cases o' with
    | lst xs => obtain ⟨vs, e, r⟩ := m; exact ⟨vs, e, r.grow g1⟩
    | dct kvs => obtain ⟨vs, e, r⟩ := m; exact ⟨vs, e, r.grow g1⟩
    | dcn kvs => obtain ⟨vs, e, r⟩ := m; exact ⟨vs, e, r.grow g1⟩
    | ins n fs => obtain ⟨C, dx, vs, c, e, r⟩ := m; exact ⟨C, dx, vs, c, e, r.grow g1⟩
theorem Rp.st {μ μ' : Mu} (r : Rp K F H d v) (s : Step Z F H μ F' H' μ') : Rp K F' H' d v := r.grow s.grow
theorem Rps.st {μ μ' : Mu} {ds : List D} {vs : List V} (r : Rps K F H ds vs) (s : Step Z F H μ F' H' μ') : Rps K F' H' ds vs := r.grow s.grow
theorem Rpk.st {μ μ' : Mu} {ds : List (Key × D)} {vs : List (Key × V)} (r : Rpk K F H ds vs) (s : Step Z F H μ F' H' μ') : Rpk K F' H' ds vs := r.grow s.grow
theorem Rpn.st {μ μ' : Mu} {ds : List (LK × D)} {vs : List (LK × Addr × V)} (r : Rpn K F H ds vs) (s : Step Z F H μ F' H' μ') : Rpn K F' H' ds vs := r.grow s.grow
theorem Rpf.st {μ μ' : Mu} {ds : List (Str × D)} {vs : List (Str × V)} (r : Rpf K F H ds vs) (s : Step Z F H μ F' H' μ') : Rpf K F' H' ds vs := r.grow s.grow
theorem Sl.st {μ μ' : Mu} {σ : St} {δ : St3} (r : Sl K F H σ δ) (s : Step Z F H μ F' H' μ') : Sl K F' H' σ δ := r.grow s.grow
theorem Sim.frzS {μ : Mu} {p : Addr} {o : HO} (s : Sim Z F H μ) (hp : H p = none) : Step Z F H μ (fun a => F a ∨ a = p) (upd H p o) μ := let ⟨g, z⟩ := s.raw.frz hp; s.step g (Fm.frz hp) z
theorem Sim.newS {μ : Mu} {p : Addr} {o : HO} (s : Sim Z F H μ) (hp : H p = none) : Step Z F H μ F (upd H p o) μ := let ⟨g, z⟩ := s.raw.new hp; s.step g (Fm.new hp) z
theorem Sim.trkS {μ : Mu} {p : Addr} {o : HO} {m : MO} (s : Sim Z F H μ) (hp : H p = none) (ok : ∀ {F' : Addr → Prop} {H' : Hp}, Grow F H F' H' → H' p = some o → MoOk K F' H' p m) :
    Step Z F H μ F (upd H p o) (mset μ p m) := let ⟨g, z⟩ := s.raw.trk hp ok; s.step g (Fm.trk hp) z
theorem Sim.putS {μ : Mu} {p : Addr} {o : HO} {m m0 : MO} (s : Sim Z F H μ) (h0 : μ p = some m0) (ok : ∀ {F' : Addr → Prop} {H' : Hp}, Grow F H F' H' → H' p = some o → MoOk K F' H' p m) :
    Step Z F H μ F (upd H p o) (mset μ p m) := let ⟨g, z⟩ := s.raw.put h0 ok; s.step g (Fm.put h0) z
end
end L3

namespace L3
open PySem L2
abbrev DK := D → Mu → Prop
abbrev TE3 := St3 → Mu → DK → Prop
abbrev TT3 := St3 → Mu → (Bool → Mu → Prop) → Prop
abbrev TA3 := St3 → Mu → (List D → Mu → Prop) → Prop
structure Ends3 where
  nx : St3 → Mu → Prop
  rt : DK
  bk : St3 → Mu → Prop := fun _ _ => False
  ct : St3 → Mu → Prop := fun _ _ => False
abbrev TS3 := Ends3 → St3 → Mu → Prop
def low {K : Kn} (Z : Zn K) (t : TE3) : TE := fun σ H Q => ∃ (F : Addr → Prop) (δ : St3) (μ : Mu) (R : DK), Sim Z F H μ ∧ Sl K F H σ δ ∧ t δ μ R ∧
  ∀ F' v H' d μ', Step Z F H μ F' H' μ' → Rp K F' H' d v → R d μ' → Q v H'
def lowT {K : Kn} (Z : Zn K) (t : TT3) : TT := fun σ H Q => ∃ (F : Addr → Prop) (δ : St3) (μ : Mu) (R : Bool → Mu → Prop), Sim Z F H μ ∧ Sl K F H σ δ ∧ t δ μ R ∧
  ∀ F' b H' μ', Step Z F H μ F' H' μ' → R b μ' → Q b H'
def lowA {K : Kn} (Z : Zn K) (t : TA3) : TA := fun σ H Q => ∃ (F : Addr → Prop) (δ : St3) (μ : Mu) (R : List D → Mu → Prop), Sim Z F H μ ∧ Sl K F H σ δ ∧ t δ μ R ∧
  ∀ F' vs H' ds μ', Step Z F H μ F' H' μ' → Rps K F' H' ds vs → R ds μ' → Q vs H'
structure EndsOk {K : Kn} (Z : Zn K) (F : Addr → Prop) (H : Hp) (μ : Mu) (D3 : Ends3) (D : Ends) : Prop where
  nx : ∀ F' σ' H' δ' μ', Step Z F H μ F' H' μ' → Sl K F' H' σ' δ' → D3.nx δ' μ' → D.nx σ' H'
  bk : ∀ F' σ' H' δ' μ', Step Z F H μ F' H' μ' → Sl K F' H' σ' δ' → D3.bk δ' μ' → D.bk σ' H'
  ct : ∀ F' σ' H' δ' μ', Step Z F H μ F' H' μ' → Sl K F' H' σ' δ' → D3.ct δ' μ' → D.ct σ' H'
  rt : ∀ F' v H' d μ', Step Z F H μ F' H' μ' → Rp K F' H' d v → D3.rt d μ' → D.rt v H'
theorem EndsOk.st {K : Kn} {Z : Zn K} {F F' : Addr → Prop} {H H' : Hp} {μ μ' : Mu} {D3 : Ends3} {D : Ends} (e : EndsOk Z F H μ D3 D) (g : Step Z F H μ F' H' μ') : EndsOk Z F' H' μ' D3 D :=
  ⟨fun a b c d m g' => e.nx a b c d m (g.trans g'), fun a b c d m g' => e.bk a b c d m (g.trans g'), fun a b c d m g' => e.ct a b c d m (g.trans g'), fun a b c d m g' => e.rt a b c d m (g.trans g')⟩
def lowS {K : Kn} (Z : Zn K) (t : TS3) : TS := fun D σ H => ∃ (F : Addr → Prop) (δ : St3) (μ : Mu) (D3 : Ends3), Sim Z F H μ ∧ Sl K F H σ δ ∧ t D3 δ μ ∧ EndsOk Z F H μ D3 D
def E3 (X : Cx) (Z : Zn X.kn) (e : Expr) (t : TE3) : Prop := PE X e (low Z t)
def T3 (X : Cx) (Z : Zn X.kn) (e : Expr) (t : TT3) : Prop := PT X e (lowT Z t)
def W3 (X : Cx) (Z : Zn X.kn) (e : Expr) (t : TT3) : Prop := PW X e (lowT Z t)
def A3 (X : Cx) (Z : Zn X.kn) (es : List Expr) (t : TA3) : Prop := PA X es (lowA Z t)
def S3 (X : Cx) (Z : Zn X.kn) (st : Stmt) (t : TS3) : Prop := PS X st (lowS Z t)
def Ss3 (X : Cx) (Z : Zn X.kn) (st : List Stmt) (t : TS3) : Prop := PSs X st (lowS Z t)
theorem _root_.L2.PE.imp {X : Cx} {e : Expr} {t t' : TE} (h : PE X e t) (i : ∀ σ H Q, t' σ H Q → t σ H Q) : PE X e t' := ⟨fun pins s σ H Q I q => h.run pins s σ H Q I (i _ _ _ q)⟩
theorem _root_.L2.PT.imp {X : Cx} {e : Expr} {t t' : TT} (h : PT X e t) (i : ∀ σ H Q, t' σ H Q → t σ H Q) : PT X e t' := ⟨fun pins s σ H Q I q => h.run pins s σ H Q I (i _ _ _ q)⟩
theorem _root_.L2.PW.imp {X : Cx} {e : Expr} {t t' : TT} (h : PW X e t) (i : ∀ σ H Q, t' σ H Q → t σ H Q) : PW X e t' := ⟨fun wh pins s σ H Q I q => h.run wh pins s σ H Q I (i _ _ _ q)⟩
theorem _root_.L2.PA.imp {X : Cx} {es : List Expr} {t t' : TA} (h : PA X es t) (i : ∀ σ H Q, t' σ H Q → t σ H Q) : PA X es t' := ⟨fun pos pins s σ H Q I q => h.run pos pins s σ H Q I (i _ _ _ q)⟩
theorem _root_.L2.PS.imp {X : Cx} {e : Stmt} {t t' : TS} (h : PS X e t) (i : ∀ D σ H, t' D σ H → t D σ H) : PS X e t' := ⟨fun pins s σ H D I q => h.run pins s σ H D I (i _ _ _ q)⟩
theorem _root_.L2.PSs.imp {X : Cx} {e : List Stmt} {t t' : TS} (h : PSs X e t) (i : ∀ D σ H, t' D σ H → t D σ H) : PSs X e t' := ⟨fun pins s σ H D I q => h.run pins s σ H D I (i _ _ _ q)⟩
/-- what an option is worth -/
def giv (o : Option D) (μ : Mu) (R : DK) : Prop := match o with
  | some d => R d μ
  | none => False
section
variable {X : Cx} {Z : Zn X.kn} {e a b c : Expr} {es rest : List Expr} {ta tb tc : TE3} {pos : Pos}
/-! ### names, constants -/
def vVar (i : Nat) : TE3 := fun δ μ R => match δ[i]? with
  | some (some d) => R d μ
  | _ => False
theorem lowVar {K : Kn} {Z : Zn K} {i : Nat} {σ : St} {H : Hp} {Q : VK} (h : low Z (vVar i) σ H Q) : tVar i σ H Q := by
  obtain ⟨F, δ, μ, R, s, sl, h, k⟩ := h
  unfold vVar at h
  split at h
  · rename_i d e
    obtain ⟨v, e1, r⟩ := sl.at_ i d e
    exact ⟨v, e1, k F v H d μ (Step.refl s) r h⟩
  · exact h.elim
theorem e_var {x : Str} (i : Nat) (hN : X.N[i]? = some x := by rfl) (hv : Vis X.env.scope x := by first | exact Or.inl rfl | exact Or.inr (Or.inl rfl) | exact Or.inr (Or.inr rfl)) (hd : (x == ("__debug__" : Str)) = false := by decide) (hcd : (x == ("__classdict__" : Str)) = false := by decide) :
    E3 X Z (.Name x pos) (vVar i) := (pe_var hN hv hd hcd).imp fun _ _ _ h => lowVar h
def vC (d : D) : TE3 := fun _ μ R => R d μ
theorem lowC {K : Kn} {Z : Zn K} {d : D} {v : V} {σ : St} {H : Hp} {Q : VK} (r : ∀ F H, Rp K F H d v) (h : low Z (vC d) σ H Q) : tC v σ H Q := by
  obtain ⟨F, δ, μ, R, s, sl, h, k⟩ := h
  exact k F v H d μ (Step.refl s) (r F H) h
theorem e_int {i j} : E3 X Z (.Constant (.int i) j pos) (vC (.int i)) := pe_int.imp fun _ _ _ h => lowC (fun _ _ => .int i) h
theorem e_bl {b j} : E3 X Z (.Constant (.bool b) j pos) (vC (.bl b)) := pe_bl.imp fun _ _ _ h => lowC (fun _ _ => .bl b) h
theorem e_non {j} : E3 X Z (.Constant .none j pos) (vC .non) := pe_non.imp fun _ _ _ h => lowC (fun _ _ => .non) h
theorem e_str {x j} : E3 X Z (.Constant (.str x) j pos) (vC (.str x)) := pe_str.imp fun _ _ _ h => lowC (fun _ _ => .str x) h
/-- a module's constant -/
theorem e_gint {x : Str} {i : Int} {t : Tok} (hm : X.mg x = some (.int i t)) (hg : Gl X x := by rfl) (hd : (x == ("__debug__" : Str)) = false := by decide) : E3 X Z (.Name x pos) (vC (.int i)) :=
  (pe_glob (v := .int i) hg hm ⟨t, rfl⟩ hd).imp fun _ _ _ h => lowC (v := .int i) (fun _ _ => .int i) h
theorem e_gstr {x z : Str} {t : Tok} (hm : X.mg x = some (.str z t)) (hg : Gl X x := by rfl) (hd : (x == ("__debug__" : Str)) = false := by decide) : E3 X Z (.Name x pos) (vC (.str z)) :=
  (pe_glob (v := .str z) hg hm ⟨t, rfl⟩ hd).imp fun _ _ _ h => lowC (v := .str z) (fun _ _ => .str z) h
/-- a class of the program as a value -/
theorem e_gref {x : Str} {C : Addr} (hm : X.mg x = some (.ref C)) (hg : Gl X x := by rfl) (hd : (x == ("__debug__" : Str)) = false := by decide) : E3 X Z (.Name x pos) (vC (.ref C)) :=
  (pe_glob (v := .ref C) hg hm rfl hd).imp fun _ _ _ h => lowC (v := .ref C) (fun _ _ => .ref C) h
/-- a built-in class as a value -/
theorem e_bty {x : Str} {n : String} (hm : X.mg x = none) (hv : bootBuiltins x = some (.type n)) (hg : Gl X x := by rfl) (hn : x ≠ "__name__" := by decide) (hd : (x == ("__debug__" : Str)) = false := by decide) : E3 X Z (.Name x pos) (vC (.ty n)) :=
  (pe_bltn (v := .ty n) hg hm hv rfl hn hd).imp fun _ _ _ h => lowC (v := .ty n) (fun _ _ => .ty n) h
/-! ### argument lists -/
def vNil : TA3 := fun _ μ R => R [] μ
def vCons (ta : TE3) (tr : TA3) : TA3 := fun δ μ R => ta δ μ fun d μ1 => tr δ μ1 fun ds μ2 => R (d :: ds) μ2
theorem a_nil : A3 X Z [] vNil := pa_nil.imp fun _ H Q h => by
  obtain ⟨F, δ, μ, R, s, sl, h, k⟩ := h
  exact k F [] H [] μ (Step.refl s) .nil h
theorem low_cons {K : Kn} {Z : Zn K} {tr : TA3} {σ : St} {H : Hp} {Q : List V → Hp → Prop} (h : lowA Z (vCons ta tr) σ H Q) : tCons (low Z ta) (lowA Z tr) σ H Q := by
  obtain ⟨F, δ, μ, R, s, sl, h, k⟩ := h
  exact ⟨F, δ, μ, _, s, sl, h, fun F' v H' d μ' g r q => ⟨F', δ, μ', _, g.sim, sl.st g, q, fun F'' vs H'' ds μ'' g' rs q' => k F'' (v :: vs) H'' (d :: ds) μ'' (g.trans g') (.cons (r.st g') rs) q'⟩⟩
theorem a_cons {tr : TA3} (ha : E3 X Z e ta) (hr : A3 X Z es tr) (hs : starEach (e :: es) X.env = (false, eval e X.env) :: starEach es X.env := by rfl) : A3 X Z (e :: es) (vCons ta tr) :=
  (pa_cons ha hr hs).imp fun _ _ _ h => low_cons h
/-! ### operators by values -/
abbrev G2 := D → D → Mu → DK → Prop
/-- an operator's rule, lifted -/
def OpL (X : Cx) (Z : Zn X.kn) (f : Value → Value → Sem Value) (G : G2) : Prop := ∃ r : R2, OpR X f r ∧ ∀ F H μ x y vx vy R Q, Sim Z F H μ → Rp X.kn F H x vx → Rp X.kn F H y vy → G x y μ R →
  (∀ F' v H' z μ', Step Z F H μ F' H' μ' → Rp X.kn F' H' z v → R z μ' → Q v H') → r vx vy H Q
def vOp (G : G2) (ta tb : TE3) : TE3 := fun δ μ R => ta δ μ fun x μ1 => tb δ μ1 fun y μ2 => G x y μ2 R
theorem low_op {K : Kn} {Z : Zn K} {r : R2} {G : G2} {σ : St} {H : Hp} {Q : VK} (hr : ∀ F H μ x y vx vy R Q, Sim Z F H μ → Rp K F H x vx → Rp K F H y vy → G x y μ R →
    (∀ F' v H' z μ', Step Z F H μ F' H' μ' → Rp K F' H' z v → R z μ' → Q v H') → r vx vy H Q) (h : low Z (vOp G ta tb) σ H Q) : tOp r (low Z ta) (low Z tb) σ H Q := by
  obtain ⟨F, δ, μ, R, s, sl, h, k⟩ := h
  exact ⟨F, δ, μ, _, s, sl, h, fun F1 v H1 d μ1 g r1 q1 => ⟨F1, δ, μ1, _, g.sim, sl.st g, q1, fun F2 u H2 d2 μ2 g2 r2 q2 =>
    hr F2 H2 μ2 d d2 v u R Q g2.sim (r1.st g2) r2 q2 fun F3 w H3 z μ3 g3 r3 q3 => k F3 w H3 z μ3 ((g.trans g2).trans g3) r3 q3⟩⟩
theorem e_op {op : Operator} {G : G2} (ho : OpL X Z (binaryOp op) G) (ha : E3 X Z a ta) (hb : E3 X Z b tb) : E3 X Z (.BinOp a op b pos) (vOp G ta tb) := by
  obtain ⟨r, hr, hl⟩ := ho
  exact (pe_op hr ha hb).imp fun _ _ _ h => low_op hl h
theorem e_cmp {op : CmpOp} {G : G2} (ho : OpL X Z (compareOp op) G) (ha : E3 X Z a ta) (hb : E3 X Z b tb) (hm : behindInMarks op b = false := by first | exact nomark _ | rfl) : E3 X Z (.Compare a [op] [b] pos) (vOp G ta tb) := by
  obtain ⟨r, hr, hl⟩ := ho
  exact (pe_cmpR hr ha hb hm).imp fun _ _ _ h => low_op hl h
/-- a test that is a bool -/
def vB (t : TE3) : TT3 := fun δ μ R => t δ μ fun d μ1 => match d with
  | .bl b => R b μ1
  | _ => False
theorem low_B {K : Kn} {Z : Zn K} {σ : St} {H : Hp} {Q : Bool → Hp → Prop} (h : lowT Z (vB ta) σ H Q) : low Z ta σ H fun x H1 => ∃ c, x = .bl c ∧ Q c H1 := by
  obtain ⟨F, δ, μ, R, s, sl, h, k⟩ := h
  refine ⟨F, δ, μ, _, s, sl, h, fun F1 v H1 d μ1 g r1 q1 => ?_⟩
  cases d with
  | bl b => cases r1; exact ⟨b, rfl, k F1 b H1 μ1 g q1⟩
  | _ => exact (show False from q1).elim
theorem t_val (h : E3 X Z e ta) (he : ∀ whole, isTrue e X.env whole = (do let v ← whole; standAt e.pos; holding [v] (truthy v)) := by intro _; rfl) : T3 X Z e (vB ta) := (pt_val h he).imp fun _ _ _ h => low_B h
theorem t_cmp {op : CmpOp} {G : G2} (ho : OpL X Z (compareOp op) G) (ha : E3 X Z a ta) (hb : E3 X Z b tb) (hm : behindInMarks op b = false := by first | exact nomark _ | rfl) : T3 X Z (.Compare a [op] [b] pos) (vB (vOp G ta tb)) := by
  obtain ⟨r, hr, hl⟩ := ho
  refine (pt_cmpR hr ha hb hm).imp fun σ H Q h => ?_
  obtain ⟨F, δ, μ, R, s, sl, h, k⟩ := h
  refine low_op (Q := fun x H' => ∃ k, x = .bl k ∧ Q k H') hl ⟨F, δ, μ, _, s, sl, h, fun F1 v H1 d μ1 g r1 q1 => ?_⟩
  cases d with
  | bl b => cases r1; exact ⟨b, rfl, k F1 b H1 μ1 g q1⟩
  | _ => exact (show False from q1).elim
/-- a < b < c -/
def vChain (G G' : G2) (ta tb tc : TE3) : TE3 := fun δ μ R => ta δ μ fun x μ1 => tb δ μ1 fun y μ2 => G x y μ2 fun z μ3 => match z with
  | .bl k => if k = true then tc δ μ3 fun w μ4 => G' y w μ4 R else R (.bl false) μ3
  | _ => False
theorem e_chain {op op' : CmpOp} {G G' : G2} (ho : OpL X Z (compareOp op) G) (ho' : OpL X Z (compareOp op') G') (ha : E3 X Z a ta) (hb : E3 X Z b tb) (hc : E3 X Z c tc) (hm : lastMarks [op, op'] [b, c] = false := by rfl) : E3 X Z (.Compare a [op, op'] [b, c] pos) (vChain G G' ta tb tc) := by
  obtain ⟨r, hr, hl⟩ := ho
  obtain ⟨r', hr', hl'⟩ := ho'
  refine (pe_chain hr hr' ha hb hc hm).imp fun σ H Q h => ?_
  obtain ⟨F, δ, μ, R, s, sl, h, k⟩ := h
  refine ⟨F, δ, μ, _, s, sl, h, fun F1 v H1 d μ1 g r1 q1 => ⟨F1, δ, μ1, _, g.sim, sl.st g, q1, fun F2 u H2 d2 μ2 g2 r2 q2 => ?_⟩⟩
  refine hl F2 H2 μ2 d d2 v u _ _ g2.sim (r1.st g2) r2 q2 fun F3 w H3 z μ3 g3 r3 q3 => ?_
  cases z with
  | bl b =>
    cases r3
    refine ⟨b, rfl, ?_⟩
    cases b with
    | true => exact ⟨F3, δ, μ3, _, g3.sim, sl.st ((g.trans g2).trans g3), q3, fun F4 y H4 z μ4 g4 r4 q4 => hl' F4 H4 μ4 d2 z u y R Q g4.sim (r2.st (g3.trans g4)) r4 q4 fun F5 w H5 z μ5 g5 r5 q5 => k F5 w H5 z μ5 ((((g.trans g2).trans g3).trans g4).trans g5) r5 q5⟩
    | false => exact k F3 (.bl false) H3 (.bl false) μ3 ((g.trans g2).trans g3) (.bl false) q3
  | _ => exact (show False from q3).elim
theorem t_chain {op op' : CmpOp} {G G' : G2} (ho : OpL X Z (compareOp op) G) (ho' : OpL X Z (compareOp op') G') (ha : E3 X Z a ta) (hb : E3 X Z b tb) (hc : E3 X Z c tc) (hm : lastMarks [op, op'] [b, c] = false := by rfl) : T3 X Z (.Compare a [op, op'] [b, c] pos) (vB (vChain G G' ta tb tc)) := by
  obtain ⟨r, hr, hl⟩ := ho
  obtain ⟨r', hr', hl'⟩ := ho'
  refine (pt_chain hr hr' ha hb hc hm).imp fun σ H Q h => ?_
  obtain ⟨F, δ, μ, R, s, sl, h, k⟩ := h
  refine ⟨F, δ, μ, _, s, sl, h, fun F1 v H1 d μ1 g r1 q1 => ⟨F1, δ, μ1, _, g.sim, sl.st g, q1, fun F2 u H2 d2 μ2 g2 r2 q2 => ?_⟩⟩
  refine hl F2 H2 μ2 d d2 v u _ _ g2.sim (r1.st g2) r2 q2 fun F3 w H3 z μ3 g3 r3 q3 => ?_
  cases z with
  | bl b =>
    cases r3
    refine ⟨b, rfl, ?_⟩
    cases b with
    | true =>
      refine ⟨F3, δ, μ3, _, g3.sim, sl.st ((g.trans g2).trans g3), q3, fun F4 y H4 z μ4 g4 r4 q4 => hl' F4 H4 μ4 d2 z u y _ _ g4.sim (r2.st (g3.trans g4)) r4 q4 fun F5 w H5 z μ5 g5 r5 q5 => ?_⟩
      cases z with
      | bl b => cases r5; exact ⟨b, rfl, k F5 b H5 μ5 ((((g.trans g2).trans g3).trans g4).trans g5) q5⟩
      | _ => exact (show False from q5).elim
    | false => exact ⟨false, rfl, k F3 false H3 μ3 ((g.trans g2).trans g3) q3⟩
  | _ => exact (show False from q3).elim
/-! ### and, or, not, if else -/
variable {tA tB' : TT3}
def vAnd (t u : TT3) : TT3 := fun δ μ R => t δ μ fun c μ1 => if c = true then u δ μ1 R else R false μ1
def vOr (t u : TT3) : TT3 := fun δ μ R => t δ μ fun c μ1 => if c = true then R true μ1 else u δ μ1 R
def vNot (t : TT3) : TT3 := fun δ μ R => t δ μ fun c μ1 => R (!c) μ1
theorem w_and1 (ha : T3 X Z a tA) : W3 X Z (.BoolOp .And [a] pos) tA := pw_and1 ha
theorem w_or1 (ha : T3 X Z a tA) : W3 X Z (.BoolOp .Or [a] pos) tA := pw_or1 ha
theorem w_and (ha : T3 X Z a tA) (hb : W3 X Z (.BoolOp .And (b :: rest) pos) tB') : W3 X Z (.BoolOp .And (a :: b :: rest) pos) (vAnd tA tB') := (pw_and ha hb).imp fun σ H Q h => by
  obtain ⟨F, δ, μ, R, s, sl, h, k⟩ := h
  refine ⟨F, δ, μ, _, s, sl, h, fun F1 c H1 μ1 g q1 => ?_⟩
  cases c with
  | true => exact ⟨F1, δ, μ1, _, g.sim, sl.st g, q1, fun F2 c H2 μ2 g2 q2 => k F2 c H2 μ2 (g.trans g2) q2⟩
  | false => exact k F1 false H1 μ1 g q1
theorem w_or (ha : T3 X Z a tA) (hb : W3 X Z (.BoolOp .Or (b :: rest) pos) tB') : W3 X Z (.BoolOp .Or (a :: b :: rest) pos) (vOr tA tB') := (pw_or ha hb).imp fun σ H Q h => by
  obtain ⟨F, δ, μ, R, s, sl, h, k⟩ := h
  refine ⟨F, δ, μ, _, s, sl, h, fun F1 c H1 μ1 g q1 => ?_⟩
  cases c with
  | true => exact k F1 true H1 μ1 g q1
  | false => exact ⟨F1, δ, μ1, _, g.sim, sl.st g, q1, fun F2 c H2 μ2 g2 q2 => k F2 c H2 μ2 (g.trans g2) q2⟩
theorem t_w (h : W3 X Z e tA) : T3 X Z e tA := PW.pt h
theorem t_not (ha : T3 X Z a tA) : T3 X Z (.UnaryOp .Not a pos) (vNot tA) := (pt_not ha).imp fun σ H Q h => by
  obtain ⟨F, δ, μ, R, s, sl, h, k⟩ := h
  exact ⟨F, δ, μ, _, s, sl, h, fun F1 c H1 μ1 g q1 => k F1 (!c) H1 μ1 g q1⟩
def vAndV (ta tb : TE3) : TE3 := fun δ μ R => ta δ μ fun x μ1 => match x with
  | .bl c => if c = true then tb δ μ1 R else R (.bl false) μ1
  | _ => False
def vOrV (ta tb : TE3) : TE3 := fun δ μ R => ta δ μ fun x μ1 => match x with
  | .bl c => if c = true then R (.bl true) μ1 else tb δ μ1 R
  | _ => False
def vNotV (ta : TE3) : TE3 := fun δ μ R => ta δ μ fun x μ1 => match x with
  | .bl c => R (.bl (!c)) μ1
  | _ => False
theorem e_one {op} (h : E3 X Z a ta) : E3 X Z (.BoolOp op [a] pos) ta := pe_one h
theorem e_and (ha : E3 X Z a ta) (hb : E3 X Z (.BoolOp .And (b :: rest) pos) tb) : E3 X Z (.BoolOp .And (a :: b :: rest) pos) (vAndV ta tb) := (pe_and ha hb).imp fun σ H Q h => by
  obtain ⟨F, δ, μ, R, s, sl, h, k⟩ := h
  refine ⟨F, δ, μ, _, s, sl, h, fun F1 v H1 d μ1 g r1 q1 => ?_⟩
  cases d with
  | bl c =>
    cases r1
    refine ⟨c, rfl, ?_⟩
    cases c with
    | true => exact ⟨F1, δ, μ1, _, g.sim, sl.st g, q1, fun F2 v H2 d μ2 g2 r2 q2 => k F2 v H2 d μ2 (g.trans g2) r2 q2⟩
    | false => exact k F1 (.bl false) H1 (.bl false) μ1 g (.bl false) q1
  | _ => exact (show False from q1).elim
theorem e_or (ha : E3 X Z a ta) (hb : E3 X Z (.BoolOp .Or (b :: rest) pos) tb) : E3 X Z (.BoolOp .Or (a :: b :: rest) pos) (vOrV ta tb) := (pe_or ha hb).imp fun σ H Q h => by
  obtain ⟨F, δ, μ, R, s, sl, h, k⟩ := h
  refine ⟨F, δ, μ, _, s, sl, h, fun F1 v H1 d μ1 g r1 q1 => ?_⟩
  cases d with
  | bl c =>
    cases r1
    refine ⟨c, rfl, ?_⟩
    cases c with
    | true => exact k F1 (.bl true) H1 (.bl true) μ1 g (.bl true) q1
    | false => exact ⟨F1, δ, μ1, _, g.sim, sl.st g, q1, fun F2 v H2 d μ2 g2 r2 q2 => k F2 v H2 d μ2 (g.trans g2) r2 q2⟩
  | _ => exact (show False from q1).elim
theorem e_not (ha : E3 X Z a ta) : E3 X Z (.UnaryOp .Not a pos) (vNotV ta) := (pe_not ha).imp fun σ H Q h => by
  obtain ⟨F, δ, μ, R, s, sl, h, k⟩ := h
  refine ⟨F, δ, μ, _, s, sl, h, fun F1 v H1 d μ1 g r1 q1 => ?_⟩
  cases d with
  | bl c => cases r1; exact ⟨c, rfl, k F1 (.bl (!c)) H1 (.bl (!c)) μ1 g (.bl (!c)) q1⟩
  | _ => exact (show False from q1).elim
def vIf (t : TT3) (ta tb : TE3) : TE3 := fun δ μ R => t δ μ fun c μ1 => if c = true then ta δ μ1 R else tb δ μ1 R
theorem e_if (hc : T3 X Z c tA) (ha : E3 X Z a ta) (hb : E3 X Z b tb) : E3 X Z (.IfExp c a b pos) (vIf tA ta tb) := (pe_ifExp hc ha hb).imp fun σ H Q h => by
  obtain ⟨F, δ, μ, R, s, sl, h, k⟩ := h
  refine ⟨F, δ, μ, _, s, sl, h, fun F1 c H1 μ1 g q1 => ?_⟩
  cases c with
  | true => exact ⟨F1, δ, μ1, _, g.sim, sl.st g, q1, fun F2 v H2 d μ2 g2 r2 q2 => k F2 v H2 d μ2 (g.trans g2) r2 q2⟩
  | false => exact ⟨F1, δ, μ1, _, g.sim, sl.st g, q1, fun F2 v H2 d μ2 g2 r2 q2 => k F2 v H2 d μ2 (g.trans g2) r2 q2⟩
/-! ### unary, calls of built-ins -/
def UnL (X : Cx) (Z : Zn X.kn) (f : Value → Sem Value) (G : D → Mu → DK → Prop) : Prop := ∃ r, UnR X f r ∧ ∀ F H μ x vx R Q, Sim Z F H μ → Rp X.kn F H x vx → G x μ R →
  (∀ F' v H' z μ', Step Z F H μ F' H' μ' → Rp X.kn F' H' z v → R z μ' → Q v H') → r vx H Q
def vUn (G : D → Mu → DK → Prop) (ta : TE3) : TE3 := fun δ μ R => ta δ μ fun x μ1 => G x μ1 R
theorem e_un {op : UnaryOp} {G : D → Mu → DK → Prop} (ho : UnL X Z (unaryOp op) G) (ha : E3 X Z a ta) : E3 X Z (.UnaryOp op a pos) (vUn G ta) := by
  obtain ⟨r, hr, hl⟩ := ho
  refine (pe_un hr ha).imp fun σ H Q h => ?_
  obtain ⟨F, δ, μ, R, s, sl, h, k⟩ := h
  exact ⟨F, δ, μ, _, s, sl, h, fun F1 v H1 d μ1 g r1 q1 => hl F1 H1 μ1 d v R Q g.sim r1 q1 fun F2 w H2 z μ2 g2 r2 q2 => k F2 w H2 z μ2 (g.trans g2) r2 q2⟩
abbrev GA := List D → Mu → DK → Prop
def CallL (X : Cx) (Z : Zn X.kn) (f : Value) (G : GA) : Prop := ∃ r, CallR X f r ∧ ∀ F H μ ds vs R Q, Sim Z F H μ → Rps X.kn F H ds vs → G ds μ R →
  (∀ F' v H' z μ', Step Z F H μ F' H' μ' → Rp X.kn F' H' z v → R z μ' → Q v H') → r vs H Q
def vCB (G : GA) (ta : TA3) : TE3 := fun δ μ R => ta δ μ fun ds μ1 => G ds μ1 R
variable {tr : TA3} {x : Str} {p : Pos} {id T : String}
theorem low_cb {K : Kn} {Z : Zn K} {r : List V → Hp → VK → Prop} {G : GA} {σ : St} {H : Hp} {Q : VK} (hl : ∀ F H μ ds vs R Q, Sim Z F H μ → Rps K F H ds vs → G ds μ R →
    (∀ F' v H' z μ', Step Z F H μ F' H' μ' → Rp K F' H' z v → R z μ' → Q v H') → r vs H Q) (h : low Z (vCB G tr) σ H Q) : tCB r (lowA Z tr) σ H Q := by
  obtain ⟨F, δ, μ, R, s, sl, h, k⟩ := h
  exact ⟨F, δ, μ, _, s, sl, h, fun F1 v H1 d μ1 g r1 q1 => hl F1 H1 μ1 d v R Q g.sim r1 q1 fun F2 w H2 z μ2 g2 r2 q2 => k F2 w H2 z μ2 (g.trans g2) r2 q2⟩
theorem e_callB {G : GA} (hc : CallL X Z (.builtin id) G) (hm : X.mg x = none) (hv : bootBuiltins x = some (.builtin id)) (ha : A3 X Z (e :: es) tr) (hg : Gl X x := by rfl) (hn : x ≠ "__name__" := by decide) (hdb : (x == ("__debug__" : Str)) = false := by decide)
    (he : starEach (e :: es) X.env = (false, eval e X.env) :: starEach es X.env := by rfl) (hpl : (backTo pos (starEach es X.env)).any (·.1) = false := by rfl) : E3 X Z (.Call (.Name x p) (e :: es) [] pos) (vCB G tr) := by
  obtain ⟨r, hr, hl⟩ := hc
  exact (pe_callB hr hg hm hv ha hn hdb he hpl).imp fun σ H Q h => low_cb hl h
theorem e_callTy {G : GA} (hc : CallL X Z (.type T) G) (hm : X.mg x = none) (hv : bootBuiltins x = some (.type T)) (ha : A3 X Z (e :: es) tr) (hg : Gl X x := by rfl) (hn : x ≠ "__name__" := by decide) (hdb : (x == ("__debug__" : Str)) = false := by decide)
    (he : starEach (e :: es) X.env = (false, eval e X.env) :: starEach es X.env := by rfl) (hpl : (backTo pos (starEach es X.env)).any (·.1) = false := by rfl) : E3 X Z (.Call (.Name x p) (e :: es) [] pos) (vCB G tr) := by
  obtain ⟨r, hr, hl⟩ := hc
  exact (pe_callTy hr hg hm hv ha hn hdb he hpl).imp fun σ H Q h => low_cb hl h
/-! ### displays -/
/-- a frozen list, a frozen tuple, a tracked list -/
def vLst (ta : TA3) : TE3 := fun δ μ R => ta δ μ fun ds μ1 => ds.length ≤ sizeLine ∧ R (.lst ds) μ1
def vTup (ta : TA3) : TE3 := fun δ μ R => ta δ μ fun ds μ1 => ds.length ≤ sizeLine ∧ R (.tup ds) μ1
def vLstT (ta : TA3) : TE3 := fun δ μ R => ta δ μ fun ds μ1 => ds.length ≤ sizeLine ∧ ∀ q, μ1 q = none → R (.ref q) (mset μ1 q (.lst ds))
theorem e_lst (h : A3 X Z es tr) : E3 X Z (.List es pos) (vLst tr) := (pe_lst h).imp fun σ H Q h => by
  obtain ⟨F, δ, μ, R, s, sl, h, k⟩ := h
  refine ⟨F, δ, μ, _, s, sl, h, fun F1 vs H1 ds μ1 g r1 ⟨z, q1⟩ => ⟨by rw [← r1.length]; exact z, fun p hp => ?_⟩⟩
  have g2 := g.sim.frzS (o := .lst vs) hp
  exact k _ (.ref p) _ (.lst ds) μ1 (g.trans g2) (.lst (.inr rfl) upd_same (r1.st g2)) q1
theorem e_tup {x1} (h : A3 X Z es tr) : E3 X Z (.Tuple es x1 pos) (vTup tr) := (pe_tup h).imp fun σ H Q h => by
  obtain ⟨F, δ, μ, R, s, sl, h, k⟩ := h
  refine ⟨F, δ, μ, _, s, sl, h, fun F1 vs H1 ds μ1 g r1 ⟨z, q1⟩ => ⟨by rw [← r1.length]; exact z, fun p hp => ?_⟩⟩
  have g2 := g.sim.frzS (o := .tup vs) hp
  exact k _ (.ref p) _ (.tup ds) μ1 (g.trans g2) (.tup (.inr rfl) upd_same (r1.st g2)) q1
theorem e_lstT (h : A3 X Z es tr) : E3 X Z (.List es pos) (vLstT tr) := (pe_lst h).imp fun σ H Q h => by
  obtain ⟨F, δ, μ, R, s, sl, h, k⟩ := h
  refine ⟨F, δ, μ, _, s, sl, h, fun F1 vs H1 ds μ1 g r1 ⟨z, q1⟩ => ⟨by rw [← r1.length]; exact z, fun p hp => ?_⟩⟩
  have g2 := g.sim.trkS (o := .lst vs) (m := .lst ds) hp fun g' e => ⟨vs, e, r1.grow g'⟩
  exact k _ (.ref p) _ (.ref p) _ (g.trans g2) (.ref p) (q1 p (g.sim.free hp))
end
end L3

namespace L3
open PySem PySem.Spec L2
/-! ### what was tracked is forgotten, and frozen -/
mutual
inductive Fr (μ μ' : Mu) : D → D → Prop
  | same (d : D) : Fr μ μ' d d
  | lst {a : Addr} {xs ys : List D} : μ a = some (.lst xs) → μ' a = none → Frs μ μ' xs ys → Fr μ μ' (.ref a) (.lst ys)
  | dct {a : Addr} {xs ys : List (Key × D)} : μ a = some (.dct xs) → μ' a = none → Frk μ μ' xs ys → Fr μ μ' (.ref a) (.dct ys)
  | obj {a : Addr} {C : Str} {xs ys : List (Str × D)} : μ a = some (.ins C xs) → μ' a = none → Frf μ μ' xs ys → Fr μ μ' (.ref a) (.obj C ys)
  | inL {xs ys : List D} : Frs μ μ' xs ys → Fr μ μ' (.lst xs) (.lst ys)
  | inT {xs ys : List D} : Frs μ μ' xs ys → Fr μ μ' (.tup xs) (.tup ys)
  | inD {xs ys : List (Key × D)} : Frk μ μ' xs ys → Fr μ μ' (.dct xs) (.dct ys)
  | inO {C : Str} {xs ys : List (Str × D)} : Frf μ μ' xs ys → Fr μ μ' (.obj C xs) (.obj C ys)
  | dcn {a : Addr} {xs ys : List (LK × D)} : μ a = some (.dcn xs) → μ' a = none → Frn μ μ' xs ys → Fr μ μ' (.ref a) (.dcn ys)
  | inN {xs ys : List (LK × D)} : Frn μ μ' xs ys → Fr μ μ' (.dcn xs) (.dcn ys)
inductive Frs (μ μ' : Mu) : List D → List D → Prop
  | nil : Frs μ μ' [] []
  | cons {d e : D} {ds es : List D} : Fr μ μ' d e → Frs μ μ' ds es → Frs μ μ' (d :: ds) (e :: es)
inductive Frk (μ μ' : Mu) : List (Key × D) → List (Key × D) → Prop
  | nil : Frk μ μ' [] []
  | cons {k : Key} {d e : D} {ds es : List (Key × D)} : Fr μ μ' d e → Frk μ μ' ds es → Frk μ μ' ((k, d) :: ds) ((k, e) :: es)
inductive Frn (μ μ' : Mu) : List (LK × D) → List (LK × D) → Prop
  | nil : Frn μ μ' [] []
  | cons {k : LK} {d e : D} {ds es : List (LK × D)} : Fr μ μ' d e → Frn μ μ' ds es → Frn μ μ' ((k, d) :: ds) ((k, e) :: es)
inductive Frf (μ μ' : Mu) : List (Str × D) → List (Str × D) → Prop
  | nil : Frf μ μ' [] []
  | cons {k : Str} {d e : D} {ds es : List (Str × D)} : Fr μ μ' d e → Frf μ μ' ds es → Frf μ μ' ((k, d) :: ds) ((k, e) :: es)
end
theorem Frs.same {μ μ' : Mu} : ∀ xs : List D, Frs μ μ' xs xs
  | [] => .nil
  | x :: r => .cons (.same x) (Frs.same r)
theorem Frk.same {μ μ' : Mu} : ∀ xs : List (Key × D), Frk μ μ' xs xs
  | [] => .nil
  | (k, x) :: r => .cons (.same x) (Frk.same r)
theorem Frn.same {μ μ' : Mu} : ∀ xs : List (LK × D), Frn μ μ' xs xs
  | [] => .nil
  | (k, x) :: r => .cons (.same x) (Frn.same r)
theorem Frf.same {μ μ' : Mu} : ∀ xs : List (Str × D), Frf μ μ' xs xs
  | [] => .nil
  | (k, x) :: r => .cons (.same x) (Frf.same r)
def Le (μ' μ : Mu) : Prop := ∀ a o, μ' a = some o → μ a = some o
theorem Le.refl (μ : Mu) : Le μ μ := fun _ _ h => h
theorem Le.trans {a b c : Mu} (h : Le a b) (k : Le b c) : Le a c := fun x o e => k x o (h x o e)
theorem Le.mset {μ' μ : Mu} {a : Addr} {o : MO} (h : Le μ' μ) (hn : μ' a = none) : Le μ' (mset μ a o) := fun b u e => by
  by_cases hb : b = a
  · subst hb; rw [hn] at e; cases e
  · rw [mset_ne hb]; exact h b u e
section
variable {K : Kn} {F : Addr → Prop} {H : Hp} {μ μ' : Mu}
def gone (F : Addr → Prop) (μ μ' : Mu) : Addr → Prop := fun a => F a ∨ ((∃ o, μ a = some o) ∧ μ' a = none)
theorem gone_grow : Grow F H (gone F μ μ') H := ⟨fun _ h => .inl h, fun _ _ _ h => h, fun _ _ _ _ h => h⟩
theorem Sim0.dropped (s : Sim0 K F H μ) (l : Le μ' μ) : Sim0 K (gone F μ μ') H μ' := by
  have mo : ∀ {a o}, MoOk K F H a o → MoOk K (gone F μ μ') H a o := fun {a o} m => by
    cases o with
    | lst xs => obtain ⟨vs, e, r⟩ := m; exact ⟨vs, e, r.grow gone_grow⟩
    | dct kvs => obtain ⟨vs, e, r⟩ := m; exact ⟨vs, e, r.grow gone_grow⟩
    | dcn kvs => obtain ⟨vs, e, r⟩ := m; exact ⟨vs, e, r.grow gone_grow⟩
    | ins n fs => obtain ⟨C, dx, vs, c, e, r⟩ := m; exact ⟨C, dx, vs, c, e, r.grow gone_grow⟩
  refine ⟨fun a f => ?_, fun a o e => ?_⟩
  · rcases f with f | ⟨⟨o, e⟩, _⟩
    · exact s.dom a f
    · have m := (s.obj a o e).2
      cases o with
      | lst xs => obtain ⟨vs, e, r⟩ := m; exact ⟨_, e⟩
      | dct kvs => obtain ⟨vs, e, r⟩ := m; exact ⟨_, e⟩
      | dcn kvs => obtain ⟨vs, e, r⟩ := m; exact ⟨_, e⟩
      | ins n fs => obtain ⟨C, dx, vs, c, e, r⟩ := m; exact ⟨_, e⟩
  · obtain ⟨nf, m⟩ := s.obj a o (l a o e)
    refine ⟨fun f => ?_, mo m⟩
    rcases f with f | ⟨_, n⟩
    · exact nf f
    · rw [e] at n; cases n
variable {Z : Zn K}
theorem Fm.drop (l : Le μ' μ) : Fm F μ H (gone F μ μ') μ' H := by
  have ee : ∀ a, μ a = none → μ' a = none := fun a n => by
    cases e : μ' a with
    | none => rfl
    | some o => rw [l a o e] at n; cases n
  refine fun a u h n z' => ⟨ee a n, h, fun z => ?_⟩
  rcases z with z | ⟨⟨o, z⟩, _⟩
  · exact z' z
  · rw [n] at z; cases z
theorem Sim.dropS (s : Sim Z F H μ) (l : Le μ' μ) : Step Z F H μ (gone F μ μ') H μ' := s.step gone_grow (Fm.drop l) (s.raw.dropped l)
mutual
theorem Rp.gone (s : Sim0 K F H μ) {d d' : D} : ∀ {v : V}, Fr μ μ' d d' → Rp K F H d v → Rp K (gone F μ μ') H d' v
  | _, .same _, r => r.grow gone_grow
  | _, .lst h n q, r => by
    cases r
    obtain ⟨vs, e, rs⟩ := (s.obj _ _ h).2
    exact .lst (.inr ⟨⟨_, h⟩, n⟩) e (Rps.gone s q rs)
  | _, .dct h n q, r => by
    cases r
    obtain ⟨vs, e, rs⟩ := (s.obj _ _ h).2
    exact .dct (.inr ⟨⟨_, h⟩, n⟩) (.inl e) (Rpk.gone s q rs)
  | _, .obj h n q, r => by
    cases r
    obtain ⟨C, dx, vs, c, e, rs⟩ := (s.obj _ _ h).2
    exact .obj c (.inr ⟨⟨_, h⟩, n⟩) e (Rpf.gone s q rs)
  | _, .inL q, r => by
    cases r with
    | lst f e rs => exact .lst (.inl f) e (Rps.gone s q rs)
  | _, .inT q, r => by
    cases r with
    | tup f e rs => exact .tup (.inl f) e (Rps.gone s q rs)
  | _, .inD q, r => by
    cases r with
    | dct f e rs => exact .dct (.inl f) e (Rpk.gone s q rs)
  | _, .inO q, r => by
    cases r with
    | obj c f e rs => exact .obj c (.inl f) e (Rpf.gone s q rs)
  | _, .dcn h n q, r => by
    cases r
    obtain ⟨vs, e, rs⟩ := (s.obj _ _ h).2
    exact .dcn (.inr ⟨⟨_, h⟩, n⟩) e (Rpn.gone s q rs)
  | _, .inN q, r => by
    cases r with
    | dcn f e rs => exact .dcn (.inl f) e (Rpn.gone s q rs)
theorem Rps.gone (s : Sim0 K F H μ) {ds es : List D} : ∀ {vs : List V}, Frs μ μ' ds es → Rps K F H ds vs → Rps K (gone F μ μ') H es vs
  | _, .nil, r => by cases r; exact .nil
  | _, .cons q t, r => by
    cases r with
    | cons h rs => exact .cons (Rp.gone s q h) (Rps.gone s t rs)
theorem Rpk.gone (s : Sim0 K F H μ) {ds es : List (Key × D)} : ∀ {vs : List (Key × V)}, Frk μ μ' ds es → Rpk K F H ds vs → Rpk K (gone F μ μ') H es vs
  | _, .nil, r => by cases r; exact .nil
  | _, .cons q t, r => by
    cases r with
    | cons h rs => exact .cons (Rp.gone s q h) (Rpk.gone s t rs)
theorem Rpn.gone (s : Sim0 K F H μ) {ds es : List (LK × D)} : ∀ {vs : List (LK × Addr × V)}, Frn μ μ' ds es → Rpn K F H ds vs → Rpn K (gone F μ μ') H es vs
  | _, .nil, r => by cases r; exact .nil
  | _, .cons q t, r => by
    cases r with
    | cons f e h rs => exact .cons (.inl f) e (Rp.gone s q h) (Rpn.gone s t rs)
theorem Rpf.gone (s : Sim0 K F H μ) {ds es : List (Str × D)} : ∀ {vs : List (Str × V)}, Frf μ μ' ds es → Rpf K F H ds vs → Rpf K (gone F μ μ') H es vs
  | _, .nil, r => by cases r; exact .nil
  | _, .cons q t, r => by
    cases r with
    | cons h rs => exact .cons (Rp.gone s q h) (Rpf.gone s t rs)
end
end
/-- the end of a def: what was made here is forgotten, the answer frozen -/
def fin (R : DK) (d : D) (μ : Mu) : Prop := ∃ d' μ', Le μ' μ ∧ Fr μ μ' d d' ∧ R d' μ'
theorem fin_same {R : DK} {d : D} {μ μ' : Mu} (l : Le μ' μ) (h : R d μ') : fin R d μ := ⟨d, μ', l, .same d, h⟩
theorem fin_now {R : DK} {d : D} {μ : Mu} (h : R d μ) : fin R d μ := fin_same (Le.refl μ) h
theorem fin_lst {R : DK} {a : Addr} {xs : List D} {μ μ' : Mu} (l : Le μ' μ) (e : μ a = some (.lst xs)) (n : μ' a = none) (h : R (.lst xs) μ') : fin R (.ref a) μ := ⟨_, μ', l, .lst e n (Frs.same xs), h⟩
theorem fin_dct {R : DK} {a : Addr} {xs : List (Key × D)} {μ μ' : Mu} (l : Le μ' μ) (e : μ a = some (.dct xs)) (n : μ' a = none) (h : R (.dct xs) μ') : fin R (.ref a) μ := ⟨_, μ', l, .dct e n (Frk.same xs), h⟩
/-! ### what a def promises -/
abbrev Sp3 := List D → Mu → DK → Prop
def lift (K : Kn) (n : Nat) (sp : Sp3) : Sp := fun vs H Q _ => ∃ (F : Addr → Prop) (ds : List D) (μ : Mu) (R : DK), ds.length = n ∧ Sim (Zn.top K) F H μ ∧ Rps K F H ds vs ∧ sp ds μ R ∧
  ∀ F' v H' d μ', Step (Zn.top K) F H μ F' H' μ' → Rp K F' H' d v → R d μ' → Q v H'
def start3 (N : List Str) (ds : List D) : St3 := ds.map some ++ List.replicate (N.length - ds.length) none
theorem Sl.start {K : Kn} {F : Addr → Prop} {H : Hp} {N : List Str} {ds : List D} {vs : List V} (r : Rps K F H ds vs) : Sl K F H (L2.start N vs) (start3 N ds) := by
  have hl := r.length
  refine ⟨by simp [L2.start, start3, hl], fun i d e => ?_⟩
  unfold start3 at e
  by_cases h : i < ds.length
  · rw [List.getElem?_append_left (by simpa using h), List.getElem?_map] at e
    cases q : ds[i]? with
    | none => rw [q] at e; cases e
    | some x =>
      rw [q] at e
      cases e
      obtain ⟨v, e1, r1⟩ := r.get q
      refine ⟨v, ?_, r1⟩
      unfold L2.start
      rw [List.getElem?_append_left (by simp [← hl, h]), List.getElem?_map, e1]
      rfl
  · rw [List.getElem?_append_right (by simpa using Nat.le_of_not_lt h), List.getElem?_replicate] at e
    split at e <;> cases e
def endsOf (R : DK) : Ends3 := { nx := fun _ μ => fin R .non μ, rt := fun d μ => fin R d μ }
section
variable {P : Program} {w : World} {K : Kn} {mg : Str → Option Value} {base : Heap}
theorem lift_len {n : Nat} {sp : Sp3} {vs : List V} {H : Hp} {Q : VK} {E : XK} (h : lift K n sp vs H Q E) : vs.length = n := by
  obtain ⟨F, ds, μ, R, l, _, r, _⟩ := h
  rw [← r.length]
  exact l
theorem fin_ends {Z : Zn K} {F : Addr → Prop} {H : Hp} {μ : Mu} {R : DK} {Q : VK} (k : ∀ F' v H' d μ', Step Z F H μ F' H' μ' → Rp K F' H' d v → R d μ' → Q v H') : EndsOk Z F H μ (endsOf R) { nx := fun _ H' => Q .non H', rt := Q } := by
  refine ⟨fun F' σ' H' δ' μ' g _ h => ?_, fun _ _ _ _ _ _ _ h => h.elim, fun _ _ _ _ _ _ _ h => h.elim, fun F' v H' d μ' g r h => ?_⟩
  · obtain ⟨d', μ'', l, f, q⟩ := h
    exact k _ .non H' d' μ'' (g.trans (g.sim.dropS l)) (Rp.gone g.sim.raw f .non) q
  · obtain ⟨d', μ'', l, f, q⟩ := h
    exact k _ v H' d' μ'' (g.trans (g.sim.dropS l)) (Rp.gone g.sim.raw f r) q
end
def vCall (n : Nat) (sp : Sp3) (tr : TA3) : TE3 := fun δ μ R => tr δ μ fun ds μ1 => ds.length = n ∧ sp ds μ1 R
section
variable {X : Cx} {Z : Zn X.kn} {e : Expr} {es : List Expr} {tr : TA3} {te : TE3} {x : Str} {p pos : Pos} {st : Stmt} {rest : List Stmt} {t u : TS3}
/-! ### statements -/
def sNext : TS3 := fun D δ μ => D.nx δ μ
def sSeq (t u : TS3) : TS3 := fun D δ μ => t { D with nx := u D } δ μ
theorem ss_nil : Ss3 X Z [] sNext := pss_nil.imp fun D σ H h => by
  obtain ⟨F, δ, μ, D3, s, sl, h, k⟩ := h
  exact k.nx F σ H δ μ (Step.refl s) sl h
theorem ss_cons (h1 : S3 X Z st t) (h2 : Ss3 X Z rest u) : Ss3 X Z (st :: rest) (sSeq t u) := (pss_cons h1 h2).imp fun D σ H h => by
  obtain ⟨F, δ, μ, D3, s, sl, h, k⟩ := h
  exact ⟨F, δ, μ, _, s, sl, h, ⟨fun F' σ' H' δ' μ' g sl' q => ⟨F', δ', μ', D3, g.sim, sl', q, k.st g⟩, k.bk, k.ct, k.rt⟩⟩
theorem ss_one (h1 : S3 X Z st t) : Ss3 X Z [st] t := pss_one h1
def sBreak : TS3 := fun D δ μ => D.bk δ μ
def sCont : TS3 := fun D δ μ => D.ct δ μ
theorem s_pass : S3 X Z (.Pass pos) sNext := ps_pass.imp fun D σ H h => by
  obtain ⟨F, δ, μ, D3, s, sl, h, k⟩ := h
  exact k.nx F σ H δ μ (Step.refl s) sl h
theorem s_break : S3 X Z (.Break pos) sBreak := ps_break.imp fun D σ H h => by
  obtain ⟨F, δ, μ, D3, s, sl, h, k⟩ := h
  exact k.bk F σ H δ μ (Step.refl s) sl h
theorem s_cont : S3 X Z (.Continue pos) sCont := ps_continue.imp fun D σ H h => by
  obtain ⟨F, δ, μ, D3, s, sl, h, k⟩ := h
  exact k.ct F σ H δ μ (Step.refl s) sl h
def sNever : TS3 := fun _ _ _ => False
theorem s_never : S3 X Z st sNever := ps_never.imp fun D σ H h => by
  obtain ⟨F, δ, μ, D3, s, sl, h, k⟩ := h
  exact h
def sDrop (te : TE3) : TS3 := fun D δ μ => te δ μ fun _ μ1 => D.nx δ μ1
theorem s_expr (he : E3 X Z e te) (hs : swapsWith e none pos.line X.env = pure false := by rfl) : S3 X Z (.Expr e pos) (sDrop te) := (ps_expr he hs).imp fun D σ H h => by
  obtain ⟨F, δ, μ, D3, s, sl, h, k⟩ := h
  exact ⟨F, δ, μ, _, s, sl, h, fun F1 v H1 d μ1 g r1 q1 => k.nx F1 σ H1 δ μ1 g (sl.st g) q1⟩
def sRet (te : TE3) : TS3 := fun D δ μ => te δ μ D.rt
theorem s_ret (he : E3 X Z e te) : S3 X Z (.Return (some e) pos) (sRet te) := (ps_ret he).imp fun D σ H h => by
  obtain ⟨F, δ, μ, D3, s, sl, h, k⟩ := h
  exact ⟨F, δ, μ, _, s, sl, h, fun F1 v H1 d μ1 g r1 q1 => k.rt F1 v H1 d μ1 g r1 q1⟩
def sRetN : TS3 := fun D _ μ => D.rt .non μ
theorem s_retN : S3 X Z (.Return none pos) sRetN := ps_retN.imp fun D σ H h => by
  obtain ⟨F, δ, μ, D3, s, sl, h, k⟩ := h
  exact k.rt F .non H .non μ (Step.refl s) .non h
def sIf (c : TT3) (t u : TS3) : TS3 := fun D δ μ => c δ μ fun b μ1 => if b = true then t D δ μ1 else u D δ μ1
theorem s_if {c : Expr} {a b : List Stmt} {tc : TT3} (hc : T3 X Z c tc) (ha : Ss3 X Z a t) (hb : Ss3 X Z b u) : S3 X Z (.If c a b pos) (sIf tc t u) := (ps_if hc ha hb).imp fun D σ H h => by
  obtain ⟨F, δ, μ, D3, s, sl, h, k⟩ := h
  refine ⟨F, δ, μ, _, s, sl, h, fun F1 c H1 μ1 g q1 => ?_⟩
  cases c with
  | true => exact ⟨F1, δ, μ1, D3, g.sim, sl.st g, q1, k.st g⟩
  | false => exact ⟨F1, δ, μ1, D3, g.sim, sl.st g, q1, k.st g⟩
/-! ### targets -/
abbrev TG3 := D → St3 → Option St3
/-- a target that changes only the slots vs -/
structure TgL (K : Kn) (g2 : TG) (g3 : TG3) (vs : List Nat) : Prop where
  run : ∀ (F : Addr → Prop) (H : Hp) (σ : L2.St) (δ δ' : St3) (d : D) (v : V) (Q : L2.St → Hp → Prop), Sl K F H σ δ → Rp K F H d v → g3 d δ = some δ' →
    (∀ σ', (∀ ws : List Nat, (∀ i ∈ vs, i ∈ ws) → wipe σ' ws = wipe σ ws) → Sl K F H σ' δ' → Q σ' H) → g2 v σ H Q
def G3 (X : Cx) (tg : Expr) (g3 : TG3) (vs : List Nat) : Prop := ∃ g2, PG X tg g2 ∧ TgL X.kn g2 g3 vs
def gN (i : Nat) : TG3 := fun d δ => some (δ.set i (some d))
theorem wipe_set_mem (σ : L2.St) (x : Option V) : ∀ (ws : List Nat) (i : Nat), i ∈ ws → wipe (σ.set i x) ws = wipe σ ws
  | [], _, h => by cases h
  | w :: ws, i, h => by
    show (wipe (σ.set i x) ws).set w none = (wipe σ ws).set w none
    by_cases hi : i ∈ ws
    · rw [wipe_set_mem σ x ws i hi]
    · have hw : i = w := by
        rcases List.mem_cons.mp h with e | e
        · exact e
        · exact absurd e hi
      subst hw
      have : ∀ (vs : List Nat) (τ : L2.St), i ∉ vs → wipe (τ.set i x) vs = (wipe τ vs).set i x := by
        intro vs
        induction vs with
        | nil => intro τ _; rfl
        | cons v vs ih =>
          intro τ hn
          show (wipe (τ.set i x) vs).set v none = ((wipe τ vs).set v none).set i x
          rw [ih τ (fun z => hn (List.mem_cons_of_mem _ z))]
          rw [List.set_comm _ _ (show i ≠ v from fun e => hn (e ▸ List.mem_cons_self))]
      rw [this ws σ hi, List.set_set]
theorem g_name {i : Nat} {x : Str} (hN : X.N.Nodup) (hi : X.N[i]? = some x := by rfl) (hx : Loc X.env.scope x := by first | exact Or.inl rfl | exact Or.inr rfl) (hf : X.fn x = true ∨ X.env.scope.names.lookup x = some .local := by first | exact .inl rfl | exact .inr rfl) : G3 X (.Name x pos) (gN i) [i] :=
  ⟨gName i, pg_name hN hi hx hf, ⟨fun F H σ δ δ' d v Q sl r e k => by
    cases e
    exact k _ (fun ws h => wipe_set_mem σ (some v) ws i (h i List.mem_cons_self)) (sl.set i r)⟩⟩
def gGo : List TG3 → List D → St3 → Option St3
  | [], [], δ => some δ
  | g :: gs, d :: ds, δ => (g d δ).bind fun δ' => gGo gs ds δ'
  | _, _, _ => none
def gT (gs : List TG3) : TG3 := fun d δ => match d with
  | .tup ds => gGo gs ds δ
  | .lst ds => gGo gs ds δ
  | _ => none
structure TgsL (K : Kn) (g2 : TGs) (gs : List TG3) (vs : List Nat) : Prop where
  run : ∀ (F : Addr → Prop) (H : Hp) (σ : L2.St) (δ δ' : St3) (ds : List D) (us : List V) (Q : L2.St → Hp → Prop), Sl K F H σ δ → Rps K F H ds us → gGo gs ds δ = some δ' →
    (∀ σ', (∀ ws : List Nat, (∀ i ∈ vs, i ∈ ws) → wipe σ' ws = wipe σ ws) → Sl K F H σ' δ' → Q σ' H) → g2 us σ H Q
def Gs3 (X : Cx) (ts : List Expr) (gs : List TG3) (vs : List Nat) : Prop := ∃ g2, PGs X ts g2 ∧ TgsL X.kn g2 gs vs
theorem gs_nil : Gs3 X [] [] [] := ⟨gNil, pgs_nil, ⟨fun F H σ δ δ' ds us Q sl r e k => by
  cases r with
  | nil => cases e; exact ⟨rfl, k σ (fun _ _ => rfl) sl⟩
  | cons h t => cases e⟩⟩
theorem gs_cons {tg : Expr} {ts : List Expr} {g : TG3} {gs : List TG3} {vs ws : List Nat} (h1 : G3 X tg g vs) (h2 : Gs3 X ts gs ws) (hs : (assignEach (tg :: ts) X.env).map (·.2) = assign tg X.env :: (assignEach ts X.env).map (·.2) := by rfl) : Gs3 X (tg :: ts) (g :: gs) (vs ++ ws) := by
  obtain ⟨a, ha, la⟩ := h1
  obtain ⟨b, hb, lb⟩ := h2
  refine ⟨gCons a b, pgs_cons ha hb hs, ⟨fun F H σ δ δ' ds us Q sl r e k => ?_⟩⟩
  cases r with
  | nil => cases e
  | @cons d v ds vs2 h t =>
    have e' : (g d δ).bind (fun δ'' => gGo gs ds δ'') = some δ' := e
    cases q : g d δ with
    | none => rw [q] at e'; cases e'
    | some δ1 =>
      rw [q] at e'
      refine ⟨v, vs2, rfl, ?_⟩
      refine la.run F H σ δ δ1 d v _ sl h q fun σ1 w1 sl1 => ?_
      exact lb.run F H σ1 δ1 δ' ds vs2 _ sl1 t e' fun σ2 w2 sl2 => k σ2 (fun us hu => (w2 us fun i hi => hu i (List.mem_append_right _ hi)).trans (w1 us fun i hi => hu i (List.mem_append_left _ hi))) sl2
theorem gGo_len : ∀ {gs : List TG3} {ds : List D} {δ δ' : St3}, gGo gs ds δ = some δ' → ds.length = gs.length
  | [], [], _, _, _ => rfl
  | [], _ :: _, _, _, e => by cases e
  | _ :: _, [], _, _, e => by cases e
  | g :: gs, d :: ds, δ, δ', e => by
    have e' : (g d δ).bind (fun δ'' => gGo gs ds δ'') = some δ' := e
    cases q : g d δ with
    | none => rw [q] at e'; cases e'
    | some δ1 => rw [q] at e'; rw [List.length_cons, List.length_cons, gGo_len e']
theorem _root_.L2.PG.or {X : Cx} {tg : Expr} {t u : TG} (h : PG X tg t) (h' : PG X tg u) : PG X tg (fun v σ H Q => t v σ H Q ∨ u v σ H Q) := ⟨fun pins s σ H v w Q I r q => q.elim (h.run pins s σ H v w Q I r) (h'.run pins s σ H v w Q I r)⟩
theorem tl_tup {K : Kn} {a : TGs} {gs : List TG3} {vs : List Nat} {m : Nat} (la : TgsL K a gs vs) (hm : gs.length = m) : TgL K (fun v σ H Q => gTup K.K m a v σ H Q ∨ gLst K.K m a v σ H Q) (gT gs) vs := ⟨fun F H σ δ δ' d v Q sl r e k => by
  cases r with
  | @tup ds us a f h rs => exact .inl ⟨_, us, rfl, SqT.of h, by rw [← rs.length, gGo_len e, hm], la.run F H σ δ δ' ds us Q sl rs e k⟩
  | @lst ds us a f h rs => exact .inr ⟨_, us, rfl, SqL.of h, by rw [← rs.length, gGo_len e, hm], la.run F H σ δ δ' ds us Q sl rs e k⟩
  | _ => cases e⟩
theorem g_tup {ts : List Expr} {n : Nat} {gs : List TG3} {vs : List Nat} {m : Nat} (hc : X.calm = true) (h : Gs3 X ts gs vs) (hm : gs.length = m := by rfl) (hn : (assignEach ts X.env).length = m := by rfl) (hst : (assignEach ts X.env).findIdx? (·.1) = none := by rfl) : G3 X (.Tuple ts n pos) (gT gs) vs := by
  obtain ⟨a, ha, la⟩ := h
  exact ⟨_, (pg_tup hc ha hn hst).or (pg_lst hc ha hn hst), tl_tup la hm⟩
def sAsg (te : TE3) (g : TG3) : TS3 := fun D δ μ => te δ μ fun d μ1 => match g d δ with
  | some δ' => D.nx δ' μ1
  | none => False
theorem s_asg {tg : Expr} {g : TG3} {vs : List Nat} (he : E3 X Z e te) (hg : G3 X tg g vs) (hs : swapsWithSole [tg] e pos.line X.env = pure false := by rfl) (hw : swappedStores [tg] e X.env = pure none := by rfl)
    (h1 : (assignEach [tg] X.env).map (·.2) = [assign tg X.env] := by rfl) : S3 X Z (.Assign [tg] e pos) (sAsg te g) := by
  obtain ⟨g2, hg2, lg⟩ := hg
  refine (ps_asg he hg2 hs hw h1).imp fun D σ H h => ?_
  obtain ⟨F, δ, μ, D3, s, sl, h, k⟩ := h
  refine ⟨F, δ, μ, _, s, sl, h, fun F1 v H1 d μ1 g1 r1 q1 => ?_⟩
  split at q1
  · rename_i δ' e'
    exact lg.run F1 H1 σ δ δ' d v _ (sl.st g1) r1 e' fun σ' _ sl' => k.nx F1 σ' H1 δ' μ1 g1 sl' q1
  · exact q1.elim
def sSet (i : Nat) (te : TE3) : TS3 := fun D δ μ => te δ μ fun d μ1 => D.nx (δ.set i (some d)) μ1
theorem s_set {i : Nat} {pos' : Pos} (hN : X.N.Nodup) (he : E3 X Z e te) (hi : X.N[i]? = some x := by rfl) (hx : Loc X.env.scope x := by first | exact Or.inl rfl | exact Or.inr rfl) (hs : swapsWith e (some (.Name x pos')) pos.line X.env = pure false := by rfl) (hf : X.fn x = true ∨ X.env.scope.names.lookup x = some .local := by first | exact .inl rfl | exact .inr rfl) :
    S3 X Z (.Assign [.Name x pos'] e pos) (sSet i te) := (ps_set hN hi hx he hs hf).imp fun D σ H h => by
  obtain ⟨F, δ, μ, D3, s, sl, h, k⟩ := h
  exact ⟨F, δ, μ, _, s, sl, h, fun F1 v H1 d μ1 g r1 q1 => k.nx F1 _ H1 _ μ1 g ((sl.st g).set i r1) q1⟩
/-- name op= e, by the operator's rule -/
def IpL (X : Cx) (Z : Zn X.kn) (op : Operator) (G : G2) : Prop := ∃ t : TIp, PIp X op t ∧ ∀ F H μ x y vx vy R Q, Sim Z F H μ → Rp X.kn F H x vx → Rp X.kn F H y vy → G x y μ R →
  (∀ F' v H' z μ', Step Z F H μ F' H' μ' → Rp X.kn F' H' z v → R z μ' → Q v H') → t vx vy H Q
def sAug (i : Nat) (te : TE3) (G : G2) : TS3 := fun D δ μ => match δ[i]? with
  | some (some x) => te δ μ fun y μ1 => G x y μ1 fun z μ2 => D.nx (δ.set i (some z)) μ2
  | _ => False
theorem s_aug {i : Nat} {pos' : Pos} {op : Operator} {G : G2} (hN : X.N.Nodup) (he : E3 X Z e te) (ho : IpL X Z op G) (hi : X.N[i]? = some x := by rfl) (hx : Loc X.env.scope x := by first | exact Or.inl rfl | exact Or.inr rfl) (hf : X.fn x = true ∨ X.env.scope.names.lookup x = some .local := by first | exact .inl rfl | exact .inr rfl) :
    S3 X Z (.AugAssign (.Name x pos') op e pos) (sAug i te G) := by
  obtain ⟨ti, hti, hl⟩ := ho
  refine (ps_aug hN hi hx he hti hf).imp fun D σ H h => ?_
  obtain ⟨F, δ, μ, D3, s, sl, h, k⟩ := h
  unfold sAug at h
  split at h
  · rename_i d e
    obtain ⟨v, e1, r⟩ := sl.at_ i d e
    refine ⟨v, e1, F, δ, μ, _, s, sl, h, fun F1 v1 H1 d1 μ1 g r1 q1 => ?_⟩
    refine hl F1 H1 μ1 d d1 v v1 _ _ g.sim (r.st g) r1 q1 fun F2 v2 H2 z μ2 g2 r2 q2 => ?_
    exact k.nx F2 _ H2 _ μ2 (g.trans g2) ((sl.st (g.trans g2)).set i r2) q2
  · exact h.elim
/-! ### while -/
def whileW (c : TT3) (tb : TS3) (D : Ends3) : Nat → St3 → Mu → Prop
  | 0, _, _ => False
  | n + 1, δ, μ => c δ μ fun b μ1 => if b = true then tb { D with nx := whileW c tb D n, ct := whileW c tb D n, bk := D.nx } δ μ1 else D.nx δ μ1
def sWhile (c : TT3) (tb : TS3) : TS3 := fun D δ μ => ∃ n, whileW c tb D n δ μ
theorem s_while {c : Expr} {body : List Stmt} {tc : TT3} {tb : TS3} (hp : PassesOwn (model X.prog X.w) X.A X.env X.xe) (hc : T3 X Z c tc) (hb : Ss3 X Z body tb) : S3 X Z (.While c body [] pos) (sWhile tc tb) := (ps_while hp hc hb).imp fun D σ H h => by
  obtain ⟨F, δ, μ, D3, s, sl, ⟨n, h⟩, k⟩ := h
  refine ⟨fun m σ1 H1 => ∃ F1 δ1 μ1, Step Z F H μ F1 H1 μ1 ∧ Sl X.kn F1 H1 σ1 δ1 ∧ whileW tc tb D3 m δ1 μ1, ⟨n, F, δ, μ, Step.refl s, sl, h⟩, ?_⟩
  rintro m σ1 H1 ⟨F1, δ1, μ1, g1, sl1, h1⟩
  cases m with
  | zero => exact h1.elim
  | succ m =>
    refine ⟨F1, δ1, μ1, _, g1.sim, sl1, h1, fun F2 b H2 μ2 g2 q2 => ?_⟩
    cases b with
    | true =>
      refine ⟨fun σ' H' => ∃ F1 δ1 μ1, Step Z F H μ F1 H' μ1 ∧ Sl X.kn F1 H' σ' δ1 ∧ whileW tc tb D3 m δ1 μ1, fun σ' H' q => ⟨m, Nat.lt_succ_self m, q⟩, ?_⟩
      refine ⟨F2, δ1, μ2, _, g2.sim, sl1.st g2, q2, ⟨fun F3 σ3 H3 δ3 μ3 g3 sl3 q3 => ⟨F3, δ3, μ3, (g1.trans g2).trans g3, sl3, q3⟩, fun F3 σ3 H3 δ3 μ3 g3 sl3 q3 => k.nx F3 σ3 H3 δ3 μ3 ((g1.trans g2).trans g3) sl3 q3, fun F3 σ3 H3 δ3 μ3 g3 sl3 q3 => ⟨F3, δ3, μ3, (g1.trans g2).trans g3, sl3, q3⟩, (k.st (g1.trans g2)).rt⟩⟩
    | false => exact k.nx F2 σ1 H2 δ1 μ2 (g1.trans g2) (sl1.st g2) q2
/-! ### what is walked: its items; Pμ what must stay so while it is walked -/
structure ItOk {K : Kn} (Z : Zn K) (F : Addr → Prop) (H : Hp) (μ : Mu) (ds : List D) (Pm : Mu → Prop) (J : It) : Prop where
  go : ∀ F1 H1 μ1 i, Step Z F H μ F1 H1 μ1 → Pm μ1 → i < ds.length → J.go i H1
  stop : ∀ F1 H1 μ1, Step Z F H μ F1 H1 μ1 → Pm μ1 → J.stop ds.length H1
  yld : ∀ F1 H1 μ1 i x H2, Step Z F H μ F1 H1 μ1 → Pm μ1 → J.yld i H1 x H2 → i < ds.length → ∃ F2 d, Step Z F1 H1 μ1 F2 H2 μ1 ∧ ds[i]? = some d ∧ Rp K F2 H2 d x
abbrev TI3 := St3 → Mu → (List D → (Mu → Prop) → Mu → Prop) → Prop
def lowI {K : Kn} (Z : Zn K) (wi : TI3) : TI := fun σ H R => ∃ (F : Addr → Prop) (δ : St3) (μ : Mu) (R3 : List D → (Mu → Prop) → Mu → Prop), Sim Z F H μ ∧ Sl K F H σ δ ∧ wi δ μ R3 ∧
  ∀ F' H' ds Pm μ' J, Step Z F H μ F' H' μ' → ItOk Z F' H' μ' ds Pm J → R3 ds Pm μ' → R J H'
def I3 (X : Cx) (Z : Zn X.kn) (tg iter : Expr) (wi : TI3) : Prop := PI X tg iter (lowI Z wi)
theorem _root_.L2.PI.imp {X : Cx} {tg e : Expr} {t t' : TI} (h : PI X tg e t) (i : ∀ σ H R, t' σ H R → t σ H R) : PI X tg e t' := ⟨fun pins s σ H R I q => h.run pins s σ H R I (i _ _ _ q)⟩
def forW (Pm : Mu → Prop) (g : TG3) (tb : TS3) (Z : Ends3) : List D → St3 → Mu → Prop
  | [], δ, μ => Pm μ ∧ Z.nx δ μ
  | d :: ds, δ, μ => Pm μ ∧ match g d δ with
    | some δ' => tb { Z with nx := forW Pm g tb Z ds, ct := forW Pm g tb Z ds, bk := Z.nx } δ' μ
    | none => False
def sFor (wi : TI3) (g : TG3) (tb : TS3) : TS3 := fun D δ μ => wi δ μ fun ds Pm μ1 => forW Pm g tb D ds δ μ1
theorem s_for {tg iter : Expr} {body : List Stmt} {wi : TI3} {g : TG3} {vs : List Nat} {tb : TS3} (hp : PassesOwn (model X.prog X.w) X.A X.env X.xe) (hc : X.calm = true) (hi : I3 X Z tg iter wi) (hg : G3 X tg g vs) (hb : Ss3 X Z body tb)
    (hs : ∀ x, foldedSetIterable iter X.env x = pure x := by intro _; rfl) : S3 X Z (.For tg iter body [] pos) (sFor wi g tb) := by
  obtain ⟨g2, hg2, lg⟩ := hg
  refine (ps_for hp hc hi hg2 hb hs).imp fun D σ H h => ?_
  obtain ⟨F, δ, μ, D3, s, sl, h, k⟩ := h
  refine ⟨F, δ, μ, _, s, sl, h, fun F0 H0 ds Pm μ0 J g0 it q0 => ?_⟩
  refine ⟨fun i m σ1 H1 => ∃ F1 δ1 μ1, Step Z F0 H0 μ0 F1 H1 μ1 ∧ Sl X.kn F1 H1 σ1 δ1 ∧ m + i = ds.length ∧ forW Pm g tb D3 (ds.drop i) δ1 μ1, ⟨ds.length, F0, δ, μ0, Step.refl g0.sim, sl.st g0, rfl, q0⟩, ?_⟩
  rintro i m σ1 H1 ⟨F1, δ1, μ1, g1, sl1, em, h1⟩
  by_cases hi : i < ds.length
  · rw [List.drop_eq_getElem_cons hi] at h1
    obtain ⟨hP, h1⟩ := h1
    refine .inr ⟨it.go F1 H1 μ1 i g1 hP hi, fun σ' H' => ∃ F1 δ1 μ1, Step Z F0 H0 μ0 F1 H' μ1 ∧ Sl X.kn F1 H' σ' δ1 ∧ forW Pm g tb D3 (ds.drop (i + 1)) δ1 μ1, fun σ' H' ⟨F2, δ2, μ2, a, c, d⟩ => ⟨m - 1, by omega, F2, δ2, μ2, a, c, by omega, d⟩, fun x H2 hy => ?_⟩
    obtain ⟨F2, d, g2, ed, r2⟩ := it.yld F1 H1 μ1 i x H2 g1 hP hy hi
    rw [List.getElem?_eq_getElem hi] at ed
    cases ed
    split at h1
    · rename_i δ' eg
      refine lg.run F2 H2 σ1 δ1 δ' _ x _ (sl1.st g2) r2 eg fun σ' _ sl' => ?_
      refine ⟨F2, δ', μ1, _, g2.sim, sl', h1, ⟨fun F3 σ3 H3 δ3 μ3 g3 sl3 q3 => ⟨F3, δ3, μ3, (g1.trans g2).trans g3, sl3, q3⟩, fun F3 σ3 H3 δ3 μ3 g3 sl3 q3 => k.nx F3 σ3 H3 δ3 μ3 (((g0.trans g1).trans g2).trans g3) sl3 q3, fun F3 σ3 H3 δ3 μ3 g3 sl3 q3 => ⟨F3, δ3, μ3, (g1.trans g2).trans g3, sl3, q3⟩, (k.st ((g0.trans g1).trans g2)).rt⟩⟩
    · exact h1.elim
  · have e : i = ds.length := by omega
    subst e
    rw [List.drop_length] at h1
    exact .inl ⟨it.stop F1 H1 μ1 g1 h1.1, k.nx F1 σ1 H1 δ1 μ1 (g0.trans g1) sl1 h1.2⟩
/-! ### comprehensions -/
def wipe3 (δ : St3) : List Nat → St3
  | [] => δ
  | v :: vs => (wipe3 δ vs).set v none
theorem Sl.wipe {K : Kn} {F : Addr → Prop} {H : Hp} {σ : L2.St} {δ : St3} (s : Sl K F H σ δ) : ∀ vs : List Nat, Sl K F H (wipe σ vs) (wipe3 δ vs)
  | [] => s
  | v :: vs => by
    have ih := Sl.wipe s vs
    refine ⟨by show ((L2.wipe σ vs).set v none).length = ((wipe3 δ vs).set v none).length; simpa using ih.len, fun i d e => ?_⟩
    have e' : ((wipe3 δ vs).set v none)[i]? = some (some d) := e
    show ∃ u, ((L2.wipe σ vs).set v none)[i]? = some (some u) ∧ _
    by_cases hv : v = i
    · subst hv
      by_cases hl : v < (wipe3 δ vs).length
      · rw [List.getElem?_set_self hl] at e'; cases e'
      · rw [List.getElem?_eq_none_iff.mpr (by simpa using hl)] at e'; cases e'
    · rw [List.getElem?_set_ne hv] at e'
      rw [List.getElem?_set_ne hv]
      exact ih.at_ i d e'
theorem wipe_set_none (σ : L2.St) : ∀ (ws : List Nat) (i : Nat), L2.wipe (σ.set i none) ws = (L2.wipe σ ws).set i none
  | [], _ => rfl
  | w :: ws, i => by
    show (L2.wipe (σ.set i none) ws).set w none = ((L2.wipe σ ws).set w none).set i none
    rw [wipe_set_none σ ws i]
    by_cases h : i = w
    · subst h; rfl
    · rw [List.set_comm _ _ h]
theorem wipe_wipe (σ : L2.St) : ∀ ws : List Nat, L2.wipe (L2.wipe σ ws) ws = L2.wipe σ ws
  | [] => rfl
  | w :: ws => by
    show (L2.wipe ((L2.wipe σ ws).set w none) ws).set w none = (L2.wipe σ ws).set w none
    rw [wipe_set_none, wipe_wipe σ ws, List.set_set]
/-- [elt for target in iter if test] -/
def lcW (Pm : Mu → Prop) (g : TG3) (tt : TT3) (te : TE3) (δ : St3) (R : List D → Mu → Prop) : List D → List D → Mu → Prop
  | [], acc, μ => Pm μ ∧ R acc μ
  | d :: ds, acc, μ => Pm μ ∧ acc.length < sizeLine ∧ match g d δ with
    | some δ' => tt δ' μ fun b μ1 => if b = true then te δ' μ1 fun y μ2 => lcW Pm g tt te δ R ds (acc ++ [y]) μ2 else lcW Pm g tt te δ R ds acc μ1
    | none => False
def vLc (wi : TI3) (g : TG3) (tt : TT3) (te : TE3) (vs : List Nat) : TE3 := fun δ μ R => wi δ μ fun ds Pm μ1 => lcW Pm g tt te (wipe3 δ vs) (fun out μ2 => R (.lst out) μ2) ds [] μ1
def vYes : TT3 := fun _ μ R => R true μ
def Ts3 (X : Cx) (Z : Zn X.kn) (es : List Expr) (t : TT3) : Prop := PTs X es (lowT Z t)
theorem _root_.L2.PTs.imp {X : Cx} {e : List Expr} {t t' : TT} (h : PTs X e t) (i : ∀ σ H Q, t' σ H Q → t σ H Q) : PTs X e t' := ⟨fun pins s σ H Q I q => h.run pins s σ H Q I (i _ _ _ q)⟩
theorem ts_nil : Ts3 X Z [] vYes := pts_nil.imp fun σ H Q h => by
  obtain ⟨F, δ, μ, R, s, sl, h, k⟩ := h
  exact k F true H μ (Step.refl s) h
theorem ts_one {c : Expr} {t : TT3} (h : T3 X Z c t) : Ts3 X Z [c] t := pts_one h
theorem low_lc {K : Kn} {Z : Zn K} {wi : TI3} {g : TG3} {g2 : TG} {tt : TT3} {te : TE3} {vs ws : List Nat} {σ : L2.St} {H : Hp} {Q : VK} (lg : TgL K g2 g vs) (hv : ∀ i ∈ vs, i ∈ ws) (h : low Z (vLc wi g tt te ws) σ H Q) : tLc (lowI Z wi) g2 (lowT Z tt) (low Z te) ws σ H Q := by
  obtain ⟨F, δ, μ, R, s, sl, h, k⟩ := h
  refine ⟨F, δ, μ, _, s, sl, h, fun F0 H0 ds Pm μ0 J g0 it q0 Dl hD => ?_⟩
  have gD := g0.sim.newS (o := .lst []) hD
  refine ⟨fun i m H1 => ∃ F1 μ1 acc out, Step Z F0 H0 μ0 F1 H1 μ1 ∧ ¬ F1 Dl ∧ μ1 Dl = none ∧ H1 Dl = some (.lst acc) ∧ Rps K F1 H1 out acc ∧ m + i = ds.length ∧ lcW Pm g tt te (wipe3 δ ws) (fun out μ2 => R (.lst out) μ2) (ds.drop i) out μ1,
    ⟨ds.length, F0, μ0, [], [], gD, ?_, g0.sim.free hD, upd_same, .nil, rfl, q0⟩, ?_⟩
  · intro f
    obtain ⟨u, hu⟩ := g0.sim.dom Dl f
    rw [hD] at hu
    cases hu
  rintro i m H1 ⟨F1, μ1, acc, out, g1, nF, nμ, eD, rs, em, h1⟩
  by_cases hi : i < ds.length
  · rw [List.drop_eq_getElem_cons hi] at h1
    obtain ⟨hP, hlen, h1⟩ := h1
    refine .inr ⟨it.go F1 H1 μ1 i g1 hP hi, fun H' => ∃ F1 μ1 acc out, Step Z F0 H0 μ0 F1 H' μ1 ∧ ¬ F1 Dl ∧ μ1 Dl = none ∧ H' Dl = some (.lst acc) ∧ Rps K F1 H' out acc ∧ lcW Pm g tt te (wipe3 δ ws) (fun out μ2 => R (.lst out) μ2) (ds.drop (i + 1)) out μ1,
      fun H' ⟨F2, μ2, acc2, out2, a, b, c, d, e, f⟩ => ⟨m - 1, by omega, F2, μ2, acc2, out2, a, b, c, d, e, by omega, f⟩, fun x H2 hy => ?_⟩
    obtain ⟨F2, d, g2', ed, r2⟩ := it.yld F1 H1 μ1 i x H2 g1 hP hy hi
    rw [List.getElem?_eq_getElem hi] at ed
    obtain rfl := Option.some.inj ed
    have sw : Sl K F2 H2 (L2.wipe σ ws) (wipe3 δ ws) := (sl.st ((g0.trans g1).trans g2')).wipe ws
    split at h1
    · rename_i δ' eg
      refine lg.run F2 H2 (L2.wipe σ ws) (wipe3 δ ws) δ' _ x _ sw r2 eg fun σ' hw sl' => ?_
      have hww : L2.wipe (L2.wipe σ ws) ws = L2.wipe σ ws := wipe_wipe σ ws
      refine ⟨(hw ws hv).trans hww, ?_⟩
      obtain ⟨n2, e2, f2⟩ := g2'.fm Dl _ eD nμ nF
      refine ⟨F2, δ', μ1, _, g2'.sim, sl', h1, fun F3 b H3 μ3 g3 q3 => ?_⟩
      obtain ⟨n3, e3, f3⟩ := g3.fm Dl _ e2 n2 f2
      cases b with
      | true =>
        refine ⟨F3, δ', μ3, _, g3.sim, sl'.st g3, q3, fun F4 y H4 dy μ4 g4 r4 q4 => ?_⟩
        obtain ⟨n4, e4, f4⟩ := g4.fm Dl _ e3 n3 f3
        have nF4 : ¬ F4 Dl := f4
        have gs := ((g1.trans g2').trans g3).trans g4
        have gp := (gs.sim.raw.priv (o := .lst (acc ++ [y])) nF4 n4).1
        refine ⟨acc, e4, by rw [← rs.length]; exact hlen, F4, μ4, acc ++ [y], out ++ [dy], gs.priv g0.sim hD nF4 n4, nF4, n4, upd_same, ((rs.st ((g2'.trans g3).trans g4)).append (.cons r4 .nil)).grow gp, q4⟩
      | false => exact ⟨F3, μ3, acc, out, (g1.trans g2').trans g3, f3, n3, e3, rs.st (g2'.trans g3), q3⟩
    · exact h1.elim
  · have e : i = ds.length := by omega
    subst e
    rw [List.drop_length] at h1
    refine .inl ⟨it.stop F1 H1 μ1 g1 h1.1, ?_⟩
    have gs := g1.shut (o := .lst acc) g0.sim hD nμ eD
    have gg : Grow F1 H1 (fun a => F1 a ∨ a = Dl) H1 := ⟨fun _ h => .inl h, fun _ _ _ h => h, fun _ _ _ _ h => h⟩
    exact k _ (.ref Dl) H1 (.lst out) μ1 (g0.trans gs) (.lst (.inr rfl) eD (rs.grow gg)) h1.2
theorem e_lc {elt tg iter : Expr} {ifs : List Expr} {scope : Scope} {own : List (Str × Nat)} {wi : TI3} {g : TG3} {tt : TT3} {te : TE3} {vs : List Nat} (hc : X.calm = true) (hN : X.N.Nodup) (hi : I3 X Z tg iter wi) (ok : BlkOk X.N X.env.scope scope own) {g2 : TG}
    (lg : TgL X.kn g2 g vs) (hv : ∀ i ∈ vs, i ∈ own.map (·.2))
    (hg : ∀ (s : Shared) (H : Hp) (C : Addr) (cl : List (Str × Addr)) (fp : List Addr), PG (X.blk s H scope (compEnvC scope cl C X.env) fp) tg g2)
    (ht : ∀ (s : Shared) (H : Hp) (C : Addr) (cl : List (Str × Addr)) (fp : List Addr), Ts3 (X.blk s H scope (compEnvC scope cl C X.env) fp) Z ifs tt)
    (he : ∀ (s : Shared) (H : Hp) (C : Addr) (cl : List (Str × Addr)) (fp : List Addr), E3 (X.blk s H scope (compEnvC scope cl C X.env) fp) Z elt te)
    (hs : ∀ x, foldedSetIterable iter X.env x = pure x := by intro _; rfl) :
    E3 X Z (.ListComp elt [⟨tg, iter, ifs, 0⟩] scope pos) (vLc wi g tt te (own.map (·.2))) :=
  (pe_lc (wi := lowI Z wi) (g := g2) (tt := lowT Z tt) (te := low Z te) hc hN hi ok hg ht he hs).imp fun σ H Q h => low_lc lg hv h
end
end L3

namespace L3
open PySem PySem.Spec L2
/-! ### ints -/
section
variable {X : Cx} {Z : Zn X.kn}
def g2I (C : Int → Int → Prop) (g : Int → Int → D) : G2 := fun x y μ R => match x, y with
  | .int i, .int j => C i j ∧ R (g i j) μ
  | _, _ => False
def g2I0 (g : Int → Int → D) : G2 := fun x y μ R => match x, y with
  | .int i, .int j => R (g i j) μ
  | _, _ => False
theorem opl_I {f : Value → Value → Sem Value} {C : Int → Int → Prop} {g : Int → Int → V} {g3 : Int → Int → D} (h : OpR X f (rI C g)) (hg : ∀ i j F H, Rp X.kn F H (g3 i j) (g i j)) : OpL X Z f (g2I C g3) := by
  refine ⟨_, h, fun F H μ x y vx vy R Q s rx ry q k => ?_⟩
  cases rx <;> first | exact (show False from q).elim | skip
  rename_i i
  cases ry <;> first | exact (show False from q).elim | skip
  rename_i j
  exact ⟨i, j, rfl, rfl, q.1, k F _ H _ μ (Step.refl s) (hg i j F H) q.2⟩
theorem opl_I0 {f : Value → Value → Sem Value} {g : Int → Int → V} {g3 : Int → Int → D} (h : OpR X f (rI0 g)) (hg : ∀ i j F H, Rp X.kn F H (g3 i j) (g i j)) : OpL X Z f (g2I0 g3) := by
  refine ⟨_, h, fun F H μ x y vx vy R Q s rx ry q k => ?_⟩
  cases rx <;> first | exact (show False from q).elim | skip
  rename_i i
  cases ry <;> first | exact (show False from q).elim | skip
  rename_i j
  exact ⟨i, j, rfl, rfl, k F _ H _ μ (Step.refl s) (hg i j F H) q⟩
def OpL.or {f : Value → Value → Sem Value} {G G' : G2} (h : OpL X Z f G) (h' : OpL X Z f G') : OpL X Z f (fun x y μ R => G x y μ R ∨ G' x y μ R) := by
  obtain ⟨r, hr, l⟩ := h
  obtain ⟨r', hr', l'⟩ := h'
  refine ⟨fun x y H Q => r x y H Q ∨ r' x y H Q, ?_, fun F H μ x y vx vy R Q s rx ry q k => ?_⟩
  · intro pins s σ H x y v u Q I rx ry q
    rcases q with q | q
    · exact hr pins s σ H x y v u Q I rx ry q
    · exact hr' pins s σ H x y v u Q I rx ry q
  · rcases q with q | q
    · exact .inl (l F H μ x y vx vy R Q s rx ry q k)
    · exact .inr (l' F H μ x y vx vy R Q s rx ry q k)
theorem OpL.imp {f : Value → Value → Sem Value} {G G' : G2} (h : OpL X Z f G) (i : ∀ x y μ R, G' x y μ R → G x y μ R) : OpL X Z f G' := by
  obtain ⟨r, hr, l⟩ := h
  exact ⟨r, hr, fun F H μ x y vx vy R Q s rx ry q k => l F H μ x y vx vy R Q s rx ry (i x y μ R q) k⟩
abbrev gSub : G2 := g2I0 fun i j => .int (i - j)
abbrev gMul : G2 := g2I CMulW fun i j => .int (i * j)
abbrev gMod : G2 := g2I (fun _ j => 0 < j) fun i j => .int (i % j)
abbrev gDiv : G2 := g2I CDivW fun i j => .int (i / j)
abbrev gPow : G2 := g2I CPow fun i j => .int (i ^ j.toNat)
theorem o_sub : OpL X Z (binaryOp .Sub) gSub := opl_I0 op_sub fun _ _ _ _ => .int _
theorem o_mul : OpL X Z (binaryOp .Mult) gMul := opl_I op_mulW fun _ _ _ _ => .int _
theorem o_mod : OpL X Z (binaryOp .Mod) gMod := opl_I op_mod fun _ _ _ _ => .int _
theorem o_div : OpL X Z (binaryOp .FloorDiv) gDiv := opl_I op_fdivW fun _ _ _ _ => .int _
theorem o_pow : OpL X Z (binaryOp .Pow) gPow := opl_I op_pow fun _ _ _ _ => .int _
abbrev gLt : G2 := g2I0 fun i j => .bl (decide (i < j))
abbrev gLe : G2 := g2I0 fun i j => .bl (decide (i ≤ j))
abbrev gGt : G2 := g2I0 fun i j => .bl (decide (j < i))
abbrev gGe : G2 := g2I0 fun i j => .bl (decide (j ≤ i))
theorem o_lt : OpL X Z (compareOp .Lt) gLt := opl_I0 op_lt fun _ _ _ _ => .bl _
theorem o_le : OpL X Z (compareOp .LtE) gLe := opl_I0 op_le fun _ _ _ _ => .bl _
theorem o_gt : OpL X Z (compareOp .Gt) gGt := opl_I0 op_gt fun _ _ _ _ => .bl _
theorem o_ge : OpL X Z (compareOp .GtE) gGe := opl_I0 op_ge fun _ _ _ _ => .bl _
def gNeg : D → Mu → DK → Prop := fun x μ R => match x with
  | .int i => R (.int (-i)) μ
  | _ => False
theorem u_neg : UnL X Z (unaryOp .USub) gNeg := ⟨_, un_neg, fun F H μ x vx R Q s rx q k => by
  cases rx <;> first | exact (show False from q).elim | skip
  rename_i i
  exact ⟨i, rfl, k F _ H _ μ (Step.refl s) (.int _) q⟩⟩
/-! ### sequences -/
/-- the items of a list (a tracked or frozen one) -/
def lstOf (μ : Mu) : D → Option (List D)
  | .lst xs => some xs
  | .ref a => match μ a with
    | some (.lst xs) => some xs
    | _ => none
  | _ => none
/-- the items of a list or the script -/
def rdL (μ : Mu) : D → Option (List D)
  | .lst xs => some xs
  | .scr xs => some xs
  | .ref a => match μ a with
    | some (.lst xs) => some xs
    | _ => none
  | _ => none
/-- the items of a list, a tuple, the script -/
def seqOf (μ : Mu) : D → Option (List D)
  | .lst xs => some xs
  | .scr xs => some xs
  | .tup xs => some xs
  | .ref a => match μ a with
    | some (.lst xs) => some xs
    | _ => none
  | _ => none
theorem lst_of {K : Kn} {Z : Zn K} {F : Addr → Prop} {H : Hp} {μ : Mu} {x : D} {v : V} {xs : List D} (s : Sim Z F H μ) (r : Rp K F H x v) (h : lstOf μ x = some xs) : ∃ p vs, v = .ref p ∧ H p = some (.lst vs) ∧ Rps K F H xs vs := by
  cases r with
  | lst f e rs => cases h; exact ⟨_, _, rfl, e, rs⟩
  | ref a =>
    have h' : (match μ a with
      | some (.lst xs) => some xs
      | _ => none) = some xs := h
    split at h'
    · rename_i ys e2
      cases h'
      obtain ⟨_, vs, e3, rs⟩ := s.obj _ _ e2
      exact ⟨_, vs, rfl, e3, rs⟩
    · cases h'
  | _ => cases h
theorem rdl_of {K : Kn} {Z : Zn K} {F : Addr → Prop} {H : Hp} {μ : Mu} {x : D} {v : V} {xs : List D} (s : Sim Z F H μ) (r : Rp K F H x v) (h : rdL μ x = some xs) : ∃ p vs, v = .ref p ∧ SqL K H p vs ∧ Rps K F H xs vs := by
  cases r with
  | lst f e rs => cases h; exact ⟨_, _, rfl, SqL.of e, rs⟩
  | scr f rs => cases h; exact ⟨_, _, rfl, f.sq, rs⟩
  | ref a =>
    obtain ⟨p, vs, e1, e2, rs⟩ := lst_of (x := .ref a) s (.ref a) (xs := xs) (by
      unfold rdL at h
      unfold lstOf
      exact h)
    exact ⟨p, vs, e1, SqL.of e2, rs⟩
  | _ => cases h
theorem seq_of {K : Kn} {Z : Zn K} {F : Addr → Prop} {H : Hp} {μ : Mu} {x : D} {v : V} {xs : List D} (s : Sim Z F H μ) (r : Rp K F H x v) (h : seqOf μ x = some xs) : ∃ p vs, v = .ref p ∧ (SqL K H p vs ∨ SqT K H p vs) ∧ Rps K F H xs vs := by
  cases r with
  | lst f e rs => cases h; exact ⟨_, _, rfl, .inl (SqL.of e), rs⟩
  | scr f rs => cases h; exact ⟨_, _, rfl, .inl f.sq, rs⟩
  | tup f e rs => cases h; exact ⟨_, _, rfl, .inr (SqT.of e), rs⟩
  | ref a =>
    obtain ⟨p, vs, e1, e2, rs⟩ := lst_of (x := .ref a) s (.ref a) (xs := xs) (by
      unfold seqOf at h
      unfold lstOf
      exact h)
    exact ⟨p, vs, e1, .inl (SqL.of e2), rs⟩
  | _ => cases h
/-- + -/
def gAdd : G2 := fun x y μ R => match x, y with
  | .int i, .int j => R (.int (i + j)) μ
  | .str a, .str b => a.length + b.length ≤ sizeLine ∧ R (.str (a ++ b)) μ
  | .tup xs, .tup ys => xs.length + ys.length ≤ sizeLine ∧ R (.tup (xs ++ ys)) μ
  | x, y => ∃ xs ys, lstOf μ x = some xs ∧ lstOf μ y = some ys ∧ xs.length + ys.length ≤ sizeLine ∧ R (.lst (xs ++ ys)) μ
theorem o_addI : OpL X Z (binaryOp .Add) (g2I0 fun i j => .int (i + j)) := opl_I0 op_add fun _ _ _ _ => .int _
def gAddS : G2 := fun x y μ R => match x, y with
  | .str a, .str b => a.length + b.length ≤ sizeLine ∧ R (.str (a ++ b)) μ
  | _, _ => False
theorem o_addS : OpL X Z (binaryOp .Add) gAddS := ⟨_, op_add_str, fun F H μ x y vx vy R Q s rx ry q k => by
  cases rx <;> first | exact (show False from q).elim | skip
  cases ry <;> first | exact (show False from q).elim | skip
  exact ⟨_, _, rfl, rfl, q.1, k F _ H _ μ (Step.refl s) (.str _) q.2⟩⟩
def gAddL : G2 := fun x y μ R => ∃ xs ys, lstOf μ x = some xs ∧ lstOf μ y = some ys ∧ xs.length + ys.length ≤ sizeLine ∧ R (.lst (xs ++ ys)) μ
theorem o_addL : OpL X Z (binaryOp .Add) gAddL := ⟨_, op_cat, fun F H μ x y vx vy R Q s rx ry q k => by
  obtain ⟨xs, ys, ex, ey, hz, q⟩ := q
  obtain ⟨p, vs, rfl, e1, r1⟩ := lst_of s rx ex
  obtain ⟨p2, us, rfl, e2, r2⟩ := lst_of s ry ey
  refine ⟨p, p2, vs, us, rfl, rfl, e1, e2, by rw [← r1.length, ← r2.length]; exact hz, fun l hl => ?_⟩
  have g := s.frzS (o := .lst (vs ++ us)) hl
  exact k _ _ _ _ μ g (.lst (.inr rfl) upd_same ((r1.append r2).st g)) q⟩
def gAddT : G2 := fun x y μ R => match x, y with
  | .tup xs, .tup ys => xs.length + ys.length ≤ sizeLine ∧ R (.tup (xs ++ ys)) μ
  | _, _ => False
theorem o_addT : OpL X Z (binaryOp .Add) gAddT := ⟨_, op_catA, fun F H μ x y vx vy R Q s rx ry q k => by
  cases rx <;> first | exact (show False from q).elim | skip
  rename_i xs vs a f1 e1 r1
  cases ry <;> first | exact (show False from q).elim | skip
  rename_i ys us b f2 e2 r2
  refine ⟨a, b, vs, us, rfl, rfl, SqT.of e1, SqT.of e2, by rw [← r1.length, ← r2.length]; exact q.1, fun z => ?_, fun _ z => ?_, fun _ _ p hp => ?_⟩
  · subst z
    cases r1
    exact k F _ H _ μ (Step.refl s) (.tup f2 e2 (by simpa using r2)) q.2
  · subst z
    cases r2
    exact k F _ H _ μ (Step.refl s) (.tup f1 e1 (by simpa using r1)) q.2
  · have g := s.frzS (o := .tup (vs ++ us)) hp
    exact k _ _ _ _ μ g (.tup (.inr rfl) upd_same ((r1.append r2).st g)) q.2⟩
theorem o_add : OpL X Z (binaryOp .Add) gAdd := (((o_addI.or o_addS).or o_addT).or o_addL).imp fun x y μ R h => by
  unfold gAdd at h
  split at h
  · exact .inl (.inl (.inl h))
  · exact .inl (.inl (.inr h))
  · exact .inl (.inr h)
  · exact .inr h
/-! ### scalars: ==, is None -/
def eqS : D → D → Option Bool
  | .non, .non => some true
  | .non, .int _ => some false | .int _, .non => some false | .non, .bl _ => some false | .bl _, .non => some false | .non, .str _ => some false | .str _, .non => some false
  | .int i, .int j => some (decide (i = j))
  | .bl i, .bl j => some (decide (i = j))
  | .str i, .str j => some (decide (i = j))
  | .int _, .str _ => some false | .str _, .int _ => some false | .bl _, .str _ => some false | .str _, .bl _ => some false
  | _, _ => none
theorem eqS_ok {K : Kn} {F : Addr → Prop} {H : Hp} {x y : D} {vx vy : V} {b : Bool} (rx : Rp K F H x vx) (ry : Rp K F H y vy) (h : eqS x y = some b) : scal vx vy = true ∧ decide (vx = vy) = b := by
  cases rx <;> cases ry <;> first | cases h | skip
  all_goals (refine ⟨rfl, ?_⟩; simp)
def gEqS : G2 := fun x y μ R => match eqS x y with
  | some b => R (.bl b) μ
  | none => False
def gNeS : G2 := fun x y μ R => match eqS x y with
  | some b => R (.bl (!b)) μ
  | none => False
theorem o_eqS : OpL X Z (compareOp .Eq) gEqS := ⟨_, op_eq, fun F H μ x y vx vy R Q s rx ry q k => by
  unfold gEqS at q
  split at q
  · rename_i b e
    obtain ⟨h1, h2⟩ := eqS_ok rx ry e
    exact ⟨h1, by rw [h2]; exact k F _ H _ μ (Step.refl s) (.bl b) q⟩
  · exact q.elim⟩
theorem o_neS : OpL X Z (compareOp .NotEq) gNeS := ⟨_, op_ne, fun F H μ x y vx vy R Q s rx ry q k => by
  unfold gNeS at q
  split at q
  · rename_i b e
    obtain ⟨h1, h2⟩ := eqS_ok rx ry e
    exact ⟨h1, by rw [h2]; exact k F _ H _ μ (Step.refl s) (.bl (!b)) q⟩
  · exact q.elim⟩
def isNonD : D → Bool
  | .non => true
  | _ => false
theorem isNon_ok {K : Kn} {F : Addr → Prop} {H : Hp} {x : D} {v : V} (r : Rp K F H x v) : decide (v = .non) = isNonD x := by
  cases r <;> rfl
def gIsN : G2 := fun x y μ R => match y with
  | .non => R (.bl (isNonD x)) μ
  | _ => False
def gNotN : G2 := fun x y μ R => match y with
  | .non => R (.bl (!isNonD x)) μ
  | _ => False
theorem o_isN : OpL X Z (compareOp .Is) gIsN := ⟨_, op_isN, fun F H μ x y vx vy R Q s rx ry q k => by
  cases ry <;> first | exact (show False from q).elim | skip
  exact ⟨rfl, by rw [isNon_ok rx]; exact k F _ H _ μ (Step.refl s) (.bl _) q⟩⟩
theorem o_notN : OpL X Z (compareOp .IsNot) gNotN := ⟨_, op_notN, fun F H μ x y vx vy R Q s rx ry q k => by
  cases ry <;> first | exact (show False from q).elim | skip
  exact ⟨rfl, by rw [isNon_ok rx]; exact k F _ H _ μ (Step.refl s) (.bl _) q⟩⟩
/-! ### in -/
/-- one sign in a text -/
def gInS : G2 := fun x y μ R => match x, y with
  | .str a, .str z => ∃ c, a = ⟨#[c]⟩ ∧ R (.bl (decide (c ∈ z.cps.toList))) μ
  | _, _ => False
def gNotInS : G2 := fun x y μ R => match x, y with
  | .str a, .str z => ∃ c, a = ⟨#[c]⟩ ∧ R (.bl (!decide (c ∈ z.cps.toList))) μ
  | _, _ => False
theorem o_inS : OpL X Z (compareOp .In) gInS := ⟨_, op_in_sign, fun F H μ x y vx vy R Q s rx ry q k => by
  cases rx <;> first | exact (show False from q).elim | skip
  cases ry <;> first | exact (show False from q).elim | skip
  obtain ⟨c, rfl, q⟩ := q
  exact ⟨c, _, rfl, rfl, k F _ H _ μ (Step.refl s) (.bl _) q⟩⟩
theorem o_notInS : OpL X Z (compareOp .NotIn) gNotInS := ⟨_, op_notIn_sign, fun F H μ x y vx vy R Q s rx ry q k => by
  cases rx <;> first | exact (show False from q).elim | skip
  cases ry <;> first | exact (show False from q).elim | skip
  obtain ⟨c, rfl, q⟩ := q
  exact ⟨c, _, rfl, rfl, k F _ H _ μ (Step.refl s) (.bl _) q⟩⟩
/-- flat things in a list or tuple of flat things -/
def flatD : D → Bool
  | .non => true | .bl _ => true | .int _ => true | .str _ => true
  | _ => false
def eqD : D → D → Bool
  | .non, .non => true
  | .bl a, .bl b => a == b
  | .bl a, .int b => (if a then 1 else 0) == b
  | .int a, .bl b => a == (if b then 1 else 0)
  | .int a, .int b => a == b
  | .str a, .str b => a == b
  | _, _ => false
def inD (x : D) (xs : List D) : Bool := xs.any fun y => eqD y x
theorem flat_ok {K : Kn} {F : Addr → Prop} {H : Hp} {x : D} {v : V} (r : Rp K F H x v) (h : flatD x = true) : flatV v = true := by
  cases r <;> first | rfl | cases h
theorem flats_ok {K : Kn} {F : Addr → Prop} {H : Hp} : ∀ {xs : List D} {vs : List V}, Rps K F H xs vs → xs.all flatD = true → vs.all flatV = true
  | _, _, .nil, _ => rfl
  | _, _, .cons r t, h => by
    rw [List.all_cons, Bool.and_eq_true] at h ⊢
    exact ⟨flat_ok r h.1, flats_ok t h.2⟩
theorem eqV_ok {K : Kn} {F : Addr → Prop} {H : Hp} {x y : D} {v u : V} (r : Rp K F H x v) (q : Rp K F H y u) (h : flatD x = true) (h' : flatD y = true) : eqV v u = eqD x y := by
  cases r <;> cases q <;> first | rfl | cases h | cases h'
theorem inV_ok {K : Kn} {F : Addr → Prop} {H : Hp} {x : D} {v : V} (r : Rp K F H x v) (h : flatD x = true) : ∀ {xs : List D} {vs : List V}, Rps K F H xs vs → xs.all flatD = true → inV v vs = inD x xs
  | _, _, .nil, _ => rfl
  | _, _, .cons q t, h' => by
    rw [List.all_cons, Bool.and_eq_true] at h'
    have ih := inV_ok r h t h'.2
    unfold inV inD at ih ⊢
    rw [List.any_cons, List.any_cons, eqV_ok q r h'.1 h, ih]
def gInL (neg : Bool) : G2 := fun x y μ R => match seqOf μ y with
  | some xs => flatD x = true ∧ xs.all flatD = true ∧ R (.bl (if neg then !inD x xs else inD x xs)) μ
  | none => False
theorem inL_ok {K : Kn} {Z : Zn K} {neg : Bool} {F : Addr → Prop} {H : Hp} {μ : Mu} {x y : D} {vx vy : V} {R : DK} {Q : VK} (s : Sim Z F H μ) (rx : Rp K F H x vx) (ry : Rp K F H y vy) (q : gInL neg x y μ R)
    (k : ∀ F' v H' z μ', Step Z F H μ F' H' μ' → Rp K F' H' z v → R z μ' → Q v H') : rIn K neg vx vy H Q := by
  unfold gInL at q
  split at q
  · rename_i xs e
    obtain ⟨p, vs, rfl, sq, rs⟩ := seq_of s ry e
    obtain ⟨h1, h2, q⟩ := q
    refine ⟨p, vs, rfl, sq, flat_ok rx h1, flats_ok rs h2, ?_⟩
    rw [inV_ok rx h1 rs h2]
    exact k F _ H _ μ (Step.refl s) (.bl _) q
  · exact q.elim
theorem o_inL : OpL X Z (compareOp .In) (gInL false) := ⟨_, op_in_seq, fun F H μ x y vx vy R Q s rx ry q k => inL_ok s rx ry q k⟩
theorem o_notInL : OpL X Z (compareOp .NotIn) (gInL true) := ⟨_, op_notIn_seq, fun F H μ x y vx vy R Q s rx ry q k => inL_ok s rx ry q k⟩
/-! ### subscripts and slices -/
variable {e a b o i v : Expr} {es : List Expr} {ta tb te to ti tv : TE3} {tr : TA3} {pos : Pos} {x : Str}
def gIx : G2 := fun x y μ R => match x, y with
  | .str z, .int i => ∃ c, z.length ≤ sizeLine ∧ atI z.cps.toList i = some c ∧ R (.str ⟨#[c]⟩) μ
  | x, .int i => ∃ xs d, seqOf μ x = some xs ∧ atI xs i = some d ∧ R d μ
  | _, _ => False
theorem atI_rel {K : Kn} {F : Addr → Prop} {H : Hp} {xs : List D} {vs : List V} {i : Int} {d : D} (r : Rps K F H xs vs) (h : atI xs i = some d) : ∃ v, atI vs i = some v ∧ Rp K F H d v := by
  unfold atI at h ⊢
  rw [← r.length]
  cases e : ixN xs.length i with
  | none => rw [e] at h; cases h
  | some j => rw [e] at h; exact r.get h
theorem ix_ok {K : Kn} {Z : Zn K} : ∀ F H μ x y vx vy R Q, Sim Z F H μ → Rp K F H x vx → Rp K F H y vy → gIx x y μ R →
    (∀ F' v H' z μ', Step Z F H μ F' H' μ' → Rp K F' H' z v → R z μ' → Q v H') → rIx K vx vy H Q := by
  intro F H μ x y vx vy R Q s rx ry q k
  unfold gIx at q
  split at q
  · cases rx
    cases ry
    obtain ⟨c, h1, h2, q⟩ := q
    exact .inr (.inr ⟨_, _, c, rfl, rfl, h1, h2, k F _ H _ μ (Step.refl s) (.str _) q⟩)
  · cases ry
    obtain ⟨xs, d, e, h, q⟩ := q
    obtain ⟨p, vs, rfl, sq, rs⟩ := seq_of s rx e
    obtain ⟨v, e2, r2⟩ := atI_rel rs h
    rcases sq with sq | sq
    · exact .inl ⟨p, vs, _, v, rfl, rfl, sq, e2, k F _ H _ μ (Step.refl s) r2 q⟩
    · exact .inr (.inl ⟨p, vs, _, v, rfl, rfl, sq, e2, k F _ H _ μ (Step.refl s) r2 q⟩)
  · exact q.elim
theorem e_ix (ha : E3 X Z a ta) (hb : E3 X Z b tb) (hs : PlainIx b := by exact fun _ _ => rfl) : E3 X Z (.Subscript a b pos) (vOp gIx ta tb) := (pe_ix ix_seq ha hb hs).imp fun _ _ _ h => low_op ix_ok h
abbrev TO3 := St3 → Mu → (Option Int → Mu → Prop) → Prop
def lowO {K : Kn} (Z : Zn K) (t : TO3) : TO := fun σ H Q => ∃ (F : Addr → Prop) (δ : St3) (μ : Mu) (R : Option Int → Mu → Prop), Sim Z F H μ ∧ Sl K F H σ δ ∧ t δ μ R ∧
  ∀ F' b H' μ', Step Z F H μ F' H' μ' → R b μ' → Q b H'
def O3 (X : Cx) (Z : Zn X.kn) (e : Option Expr) (t : TO3) : Prop := PO X e (lowO Z t)
theorem _root_.L2.PO.imp {X : Cx} {e : Option Expr} {t t' : TO} (h : PO X e t) (i : ∀ σ H Q, t' σ H Q → t σ H Q) : PO X e t' := ⟨fun pins s σ H Q I q => h.run pins s σ H Q I (i _ _ _ q)⟩
def vNoP : TO3 := fun _ μ R => R none μ
def vPart (t : TE3) : TO3 := fun δ μ R => t δ μ fun x μ1 => match x with
  | .int i => R (some i) μ1
  | _ => False
theorem p_none : O3 X Z none vNoP := po_none.imp fun σ H Q h => by
  obtain ⟨F, δ, μ, R, s, sl, h, k⟩ := h
  exact k F none H μ (Step.refl s) h
theorem p_some (he : E3 X Z e te) : O3 X Z (some e) (vPart te) := (po_some he).imp fun σ H Q h => by
  obtain ⟨F, δ, μ, R, s, sl, h, k⟩ := h
  refine ⟨F, δ, μ, _, s, sl, h, fun F1 v H1 d μ1 g r1 q1 => ?_⟩
  cases r1 <;> first | exact (show False from q1).elim | skip
  exact ⟨_, rfl, k F1 _ H1 μ1 g q1⟩
def cutD (xs : List D) (lo hi : Option Int) : List D := (xs.drop (HT.sIx xs.length 0 lo)).take (HT.sIx xs.length xs.length hi - HT.sIx xs.length 0 lo)
theorem cut_rel {K : Kn} {F : Addr → Prop} {H : Hp} {xs : List D} {vs : List V} (r : Rps K F H xs vs) (lo hi : Option Int) : Rps K F H (cutD xs lo hi) (cutV vs lo hi) := by
  unfold cutD cutV
  rw [r.length]
  exact (r.drop _).take _
def gSl : D → Option Int → Option Int → Mu → DK → Prop := fun x lo hi μ R => match x with
  | .str z => z.length ≤ sizeLine ∧ R (.str (cutS z lo hi)) μ
  | .tup xs => if HT.sIx xs.length 0 lo = 0 ∧ HT.sIx xs.length xs.length hi = xs.length then False else R (.tup (cutD xs lo hi)) μ
  | x => ∃ xs, rdL μ x = some xs ∧ R (.lst (cutD xs lo hi)) μ
def vSl (te : TE3) (tl th : TO3) : TE3 := fun δ μ R => te δ μ fun x μ1 => tl δ μ1 fun l μ2 => th δ μ2 fun h μ3 => gSl x l h μ3 R
theorem e_slice {lo hi : Option Expr} {p2 : Pos} {tl th : TO3} (he : E3 X Z e te) (hl : O3 X Z lo tl) (hh : O3 X Z hi th) : E3 X Z (.Subscript e (.Slice lo hi none p2) pos) (vSl te tl th) := (pe_slice ((sl_list.or sl_tup).or sl_str) he hl hh).imp fun σ H Q h => by
  obtain ⟨F, δ, μ, R, s, sl, h, k⟩ := h
  refine ⟨F, δ, μ, _, s, sl, h, fun F1 v H1 d μ1 g r1 q1 => ⟨F1, δ, μ1, _, g.sim, sl.st g, q1, fun F2 l H2 μ2 g2 q2 => ⟨F2, δ, μ2, _, g2.sim, sl.st (g.trans g2), q2, fun F3 u H3 μ3 g3 q3 => ?_⟩⟩⟩
  have r3 := r1.st (g2.trans g3)
  have kk : ∀ F' v H' d μ', Step Z F3 H3 μ3 F' H' μ' → Rp X.kn F' H' d v → R d μ' → Q v H' := fun F' v H' d μ' g' => k F' v H' d μ' (((g.trans g2).trans g3).trans g')
  unfold gSl at q3
  split at q3
  · cases r3
    exact .inr ⟨_, rfl, q3.1, kk F3 _ H3 _ μ3 (Step.refl g3.sim) (.str _) q3.2⟩
  · cases r3 with
    | @tup xs vs a f e rs =>
      split at q3
      · exact q3.elim
      · rename_i hn
        refine .inl (.inr ⟨_, _, rfl, SqT.of e, by rw [← rs.length]; exact hn, fun p hp => ?_⟩)
        have g' := g3.sim.frzS (o := .tup (cutV vs l u)) hp
        exact kk _ _ _ _ μ3 g' (.tup (.inr rfl) upd_same ((cut_rel rs l u).st g')) q3
  · rename_i hns hnt
    obtain ⟨xs, e, q3⟩ := q3
    obtain ⟨p, vs, ev, sq, rs⟩ := rdl_of g3.sim r3 e
    subst ev
    refine .inl (.inl ⟨p, vs, rfl, sq, fun p' hp => ?_⟩)
    have g' := g3.sim.frzS (o := .lst (cutV vs l u)) hp
    exact kk _ _ _ _ μ3 g' (.lst (.inr rfl) upd_same ((cut_rel rs l u).st g')) q3
end
end L3

namespace L3
open PySem PySem.Spec L2
section
variable {X : Cx} {Z : Zn X.kn} {e a b c o i v : Expr} {es : List Expr} {ta tb tc te to ti tv : TE3} {tr : TA3} {pos p apos cpos : Pos} {x : Str}
/-! ### len, isinstance, min, max, all, any, sum -/
def gLen : GA := fun ds μ R => match ds with
  | [.str z] => z.length ≤ sizeLine ∧ R (.int z.length) μ
  | [x] => ∃ xs, seqOf μ x = some xs ∧ R (.int xs.length) μ
  | _ => False
theorem c_len : CallL X Z (.builtin "len") gLen := ⟨_, call_len, fun F H μ ds vs R Q s rs q k => by
  cases rs with
  | nil => exact (show False from q).elim
  | @cons d v ds vs r t =>
    cases t with
    | cons _ _ => cases d <;> exact (show False from q).elim
    | nil =>
      refine ⟨v, ?_⟩
      cases r with
      | str z => exact ⟨_, rfl, ⟨q.1, rfl⟩, k F _ H _ μ (Step.refl s) (.int _) q.2⟩
      | lst f e rr =>
        obtain ⟨xs, e1, q⟩ := q
        cases e1
        exact ⟨_, rfl, .inl ⟨_, SqL.of e, rfl⟩, k F _ H _ μ (Step.refl s) (by rw [rr.length]; exact .int _) q⟩
      | scr f rr =>
        obtain ⟨xs, e1, q⟩ := q
        cases e1
        exact ⟨_, rfl, .inl ⟨_, f.sq, rfl⟩, k F _ H _ μ (Step.refl s) (by rw [rr.length]; exact .int _) q⟩
      | tup f e rr =>
        obtain ⟨xs, e1, q⟩ := q
        cases e1
        exact ⟨_, rfl, .inr ⟨_, SqT.of e, rfl⟩, k F _ H _ μ (Step.refl s) (by rw [rr.length]; exact .int _) q⟩
      | ref a =>
        obtain ⟨xs, e1, q⟩ := q
        obtain ⟨p, vs, e2, sq, rr⟩ := seq_of (x := .ref a) s (.ref a) e1
        cases e2
        refine ⟨xs.length, rfl, ?_, k F _ H _ μ (Step.refl s) (.int _) q⟩
        rcases sq with sq | sq
        · exact .inl ⟨vs, sq, rr.length⟩
        · exact .inr ⟨vs, sq, rr.length⟩
      | _ => obtain ⟨xs, e1, q⟩ := q; cases e1⟩
/-- the built-in type of a thing -/
def tyD (μ : Mu) : D → Option String
  | .non => some "NoneType" | .bl _ => some "bool" | .int _ => some "int" | .str _ => some "str"
  | .tup _ => some "tuple" | .lst _ => some "list" | .dct _ => some "dict"
  | .ref a => match μ a with
    | some (.lst _) => some "list"
    | some (.dct _) => some "dict"
    | _ => none
  | _ => none
theorem tyD_ok {K : Kn} {Z : Zn K} {F : Addr → Prop} {H : Hp} {μ : Mu} {x : D} {v : V} {n : String} (s : Sim Z F H μ) (r : Rp K F H x v) (h : tyD μ x = some n) : TyX K H v (.type n) := by
  cases r with
  | non => cases h; exact .base .non
  | bl b => cases h; exact .base (.bl b)
  | int i => cases h; exact .base (.int i)
  | str z => cases h; exact .base (.str z)
  | tup f e rs => cases h; exact .base (.tup e)
  | lst f e rs => cases h; exact .base (.lst e)
  | dct f e rs =>
    cases h
    rcases e with e | ⟨o, e⟩
    · exact .base (.dK e)
    · exact .fDict e
  | ref a =>
    have h' : (match μ a with
      | some (.lst _) => some "list"
      | some (.dct _) => some "dict"
      | _ => none) = some n := h
    split at h'
    · rename_i xs e2
      cases h'
      obtain ⟨_, vs, e3, rs⟩ := s.obj _ _ e2
      exact .base (.lst e3)
    · rename_i xs e2
      cases h'
      obtain ⟨_, vs, e3, rs⟩ := s.obj _ _ e2
      exact .base (.dK e3)
    · cases h'
  | _ => cases h
def gIsi : GA := fun ds μ R => match ds with
  | [x, .ty m] => ∃ n b, tyD μ x = some n ∧ kitB n m = some b ∧ R (.bl b) μ
  | _ => False
theorem c_isi : CallL X Z (.builtin "isinstance") gIsi := ⟨_, call_isi, fun F H μ ds vs R Q s rs q k => by
  unfold gIsi at q
  split at q
  · rename_i x m
    obtain ⟨n, b, e1, e2, q⟩ := q
    cases rs with
    | cons r1 t =>
      cases t with
      | cons r2 t =>
        cases t
        cases r2
        exact ⟨_, _, .type n, .type m, b, rfl, .ty m, tyD_ok s r1 e1, kit_ty e2, k F _ H _ μ (Step.refl s) (.bl b) q⟩
  · exact q.elim⟩
def gMax2 : GA := fun ds μ R => match ds with
  | [.int i, .int j] => R (.int (max i j)) μ
  | _ => False
def gMin2 : GA := fun ds μ R => match ds with
  | [.int i, .int j] => R (.int (min i j)) μ
  | _ => False
theorem c_max2 (hc : X.calm = true) : CallL X Z (.builtin "max") gMax2 := ⟨_, call_max2 hc, fun F H μ ds vs R Q s rs q k => by
  unfold gMax2 at q
  split at q
  · rename_i i j
    cases rs with
    | cons r1 t => cases t with
      | cons r2 t =>
        cases t; cases r1; cases r2
        refine ⟨i, j, rfl, ?_⟩
        have e : (if j > i then j else i) = max i j := by split <;> omega
        rw [e]
        exact k F _ H _ μ (Step.refl s) (.int _) q
  · exact q.elim⟩
theorem c_min2 (hc : X.calm = true) : CallL X Z (.builtin "min") gMin2 := ⟨_, call_min2 hc, fun F H μ ds vs R Q s rs q k => by
  unfold gMin2 at q
  split at q
  · rename_i i j
    cases rs with
    | cons r1 t => cases t with
      | cons r2 t =>
        cases t; cases r1; cases r2
        refine ⟨i, j, rfl, ?_⟩
        have e : (if j < i then j else i) = min i j := by split <;> omega
        rw [e]
        exact k F _ H _ μ (Step.refl s) (.int _) q
  · exact q.elim⟩
theorem rps_map {α : Type} {K : Kn} {F : Addr → Prop} {H : Hp} {f : α → D} {g : α → V} (hf : ∀ a v, Rp K F H (f a) v → v = g a) : ∀ {xs : List α} {vs : List V}, Rps K F H (xs.map f) vs → vs = xs.map g
  | [], _, .nil => rfl
  | a :: r, _, .cons h t => by rw [List.map_cons, hf a _ h, rps_map hf t]
def gAll : GA := fun ds μ R => ∃ (x : D) (bs : List Bool), ds = [x] ∧ rdL μ x = some (bs.map D.bl) ∧ R (.bl (bs.all id)) μ
def gAny : GA := fun ds μ R => ∃ (x : D) (bs : List Bool), ds = [x] ∧ rdL μ x = some (bs.map D.bl) ∧ R (.bl (bs.any id)) μ
def gSum : GA := fun ds μ R => ∃ (x : D) (bs : List Int), ds = [x] ∧ rdL μ x = some (bs.map D.int) ∧ R (.int (bs.sum)) μ
theorem one_of {K : Kn} {F : Addr → Prop} {H : Hp} {x : D} {vs : List V} (h : Rps K F H [x] vs) : ∃ v, vs = [v] ∧ Rp K F H x v := by
  cases h with
  | cons r t => cases t; exact ⟨_, rfl, r⟩
theorem c_all (hc : X.calm = true) : CallL X Z (.builtin "all") gAll := ⟨_, cr_all hc, fun F H μ ds vs R Q s rs q k => by
  obtain ⟨x, bs, rfl, e, q⟩ := q
  obtain ⟨v, rfl, r⟩ := one_of rs
  obtain ⟨p, us, rfl, sq, rr⟩ := rdl_of s r e
  obtain rfl := rps_map (g := V.bl) (fun a v h => by cases h; rfl) rr
  exact ⟨p, bs, rfl, sq, k F _ H _ μ (Step.refl s) (.bl _) q⟩⟩
theorem c_any (hc : X.calm = true) : CallL X Z (.builtin "any") gAny := ⟨_, cr_any hc, fun F H μ ds vs R Q s rs q k => by
  obtain ⟨x, bs, rfl, e, q⟩ := q
  obtain ⟨v, rfl, r⟩ := one_of rs
  obtain ⟨p, us, rfl, sq, rr⟩ := rdl_of s r e
  obtain rfl := rps_map (g := V.bl) (fun a v h => by cases h; rfl) rr
  exact ⟨p, bs, rfl, sq, k F _ H _ μ (Step.refl s) (.bl _) q⟩⟩
theorem c_sum (hc : X.calm = true) : CallL X Z (.builtin "sum") gSum := ⟨_, cr_sum hc, fun F H μ ds vs R Q s rs q k => by
  obtain ⟨x, bs, rfl, e, q⟩ := q
  obtain ⟨v, rfl, r⟩ := one_of rs
  obtain ⟨p, us, rfl, sq, rr⟩ := rdl_of s r e
  obtain rfl := rps_map (g := V.int) (fun a v h => by cases h; rfl) rr
  exact ⟨p, bs, rfl, sq, k F _ H _ μ (Step.refl s) (.int _) q⟩⟩
/-- list(x): a frozen copy; tracked -/
def gList : GA := fun ds μ R => ∃ x xs, ds = [x] ∧ seqOf μ x = some xs ∧ R (.lst xs) μ
def gListT : GA := fun ds μ R => ∃ x xs, ds = [x] ∧ seqOf μ x = some xs ∧ ∀ q, μ q = none → R (.ref q) (mset μ q (.lst xs))
theorem c_list : CallL X Z (.type "list") gList := ⟨_, call_list_of, fun F H μ ds vs R Q s rs q k => by
  obtain ⟨x, xs, rfl, e, q⟩ := q
  obtain ⟨v, rfl, r⟩ := one_of rs
  obtain ⟨p, us, rfl, sq, rr⟩ := seq_of s r e
  refine ⟨p, us, rfl, sq, fun l hl => ?_⟩
  have g := s.frzS (o := .lst us) hl
  exact k _ _ _ _ μ g (.lst (.inr rfl) upd_same (rr.st g)) q⟩
theorem c_listT : CallL X Z (.type "list") gListT := ⟨_, call_list_of, fun F H μ ds vs R Q s rs q k => by
  obtain ⟨x, xs, rfl, e, q⟩ := q
  obtain ⟨v, rfl, r⟩ := one_of rs
  obtain ⟨p, us, rfl, sq, rr⟩ := seq_of s r e
  refine ⟨p, us, rfl, sq, fun l hl => ?_⟩
  have g := s.trkS (o := .lst us) (m := .lst xs) hl fun g' e => ⟨us, e, rr.grow g'⟩
  exact k _ _ _ _ _ g (.ref l) (q l (s.free hl))⟩
/-! ### methods of built-in types -/
abbrev GM := D → List D → Mu → DK → Prop
def MtL (X : Cx) (Z : Zn X.kn) (id : String) (T : String) (G : GM) : Prop := ∃ r, MtR X id r ∧ ∀ F H μ x ds vx vs R Q, Sim Z F H μ → Rp X.kn F H x vx → Rps X.kn F H ds vs → G x ds μ R →
  (∀ F' v H' z μ', Step Z F H μ F' H' μ' → Rp X.kn F' H' z v → R z μ' → Q v H') → r vx vs H Q
/-- a value's type lets the method be found -/
def tyM (T : String) (μ : Mu) (x : D) : Prop := match x with
  | .str _ => T = "str"
  | .lst _ => T = "list"
  | .scr _ => T = "list"
  | .ref a => (T = "list" ∧ ∃ xs, μ a = some (.lst xs)) ∨ (T = "dict" ∧ ∃ kvs, μ a = some (.dct kvs))
  | _ => False
theorem tyM_ok {K : Kn} {Z : Zn K} {F : Addr → Prop} {H : Hp} {μ : Mu} {x : D} {v : V} {T : String} (s : Sim Z F H μ) (r : Rp K F H x v) (h : tyM T μ x) : tyV K T v H := by
  cases r with
  | str z => exact h
  | lst f e rs => exact .inl ⟨h, _, SqL.of e⟩
  | scr f rs => exact .inl ⟨h, _, f.sq⟩
  | ref a =>
    rcases h with ⟨e, xs, h⟩ | ⟨e, xs, h⟩
    · obtain ⟨_, vs, e3, rs⟩ := s.obj _ _ h
      exact .inl ⟨e, _, SqL.of e3⟩
    · obtain ⟨_, vs, e3, rs⟩ := s.obj _ _ h
      exact .inr (.inr (.inl ⟨e, .inl ⟨_, e3⟩⟩))
  | _ => exact (show False from h).elim
def vBM0 (T : String) (G : GM) (to : TE3) : TE3 := fun δ μ R => to δ μ fun x μ1 => tyM T μ1 x ∧ G x [] μ1 R
def vBM (T : String) (G : GM) (to : TE3) (tr : TA3) : TE3 := fun δ μ R => to δ μ fun x μ1 => tyM T μ1 x ∧ tr δ μ1 fun ds μ2 => G x ds μ2 R
theorem e_bm0 {name : Str} {T id : String} {G : GM} (pa : PlainAttrs T) (slot : Slot T name id) (hty : typeOf (.builtin id) = pure (.type "method_descriptor")) (hm : MtL X Z id T G) (ho : E3 X Z o to)
    (hbase : attributeBase o name X.env (eval o X.env) = eval o X.env := by rfl) (hline : (apos.endLine == cpos.line) = true := by rfl) : E3 X Z (.Call (.Attribute o name apos) [] [] cpos) (vBM0 T G to) := by
  obtain ⟨r, hr, l⟩ := hm
  refine (pe_bm0 pa slot hty hr ho hbase hline).imp fun σ H Q h => ?_
  obtain ⟨F, δ, μ, R, s, sl, h, k⟩ := h
  exact ⟨F, δ, μ, _, s, sl, h, fun F1 v H1 d μ1 g r1 q1 => ⟨tyM_ok g.sim r1 q1.1, l F1 H1 μ1 d [] v [] R Q g.sim r1 .nil q1.2 fun F2 v H2 d μ2 g2 r2 q2 => k F2 v H2 d μ2 (g.trans g2) r2 q2⟩⟩
theorem e_bm {name : Str} {T id : String} {G : GM} (pa : PlainAttrs T) (slot : Slot T name id) (hty : typeOf (.builtin id) = pure (.type "method_descriptor")) (hm : MtL X Z id T G) (ho : E3 X Z o to) (ha : A3 X Z (e :: es) tr)
    (hbase : attributeBase o name X.env (eval o X.env) = eval o X.env := by rfl)
    (hfew : ((backTo cpos (starEach (e :: es) X.env)).all (fun x => !x.1) && (backToKw cpos (keywordEach [] X.env)).all (fun x => x.1.isSome)
      && decide ((e :: es).length + ([] : List Keyword).length + (if ([] : List Keyword).isEmpty then 0 else 1) < 30)) = true := by rfl)
    (hline : (apos.endLine == cpos.line) = true := by rfl) (hs : starEach (e :: es) X.env = (false, eval e X.env) :: starEach es X.env := by rfl) (hplain : (backTo cpos (starEach es X.env)).any (·.1) = false := by rfl) :
    E3 X Z (.Call (.Attribute o name apos) (e :: es) [] cpos) (vBM T G to tr) := by
  obtain ⟨r, hr, l⟩ := hm
  refine (pe_bm pa slot hty hr ho ha hbase hfew hline hs hplain).imp fun σ H Q h => ?_
  obtain ⟨F, δ, μ, R, s, sl, h, k⟩ := h
  exact ⟨F, δ, μ, _, s, sl, h, fun F1 v H1 d μ1 g r1 q1 => ⟨tyM_ok g.sim r1 q1.1, F1, δ, μ1, _, g.sim, sl.st g, q1.2, fun F2 vs H2 ds μ2 g2 r2 q2 => l F2 H2 μ2 d ds v vs R Q g2.sim (r1.st g2) r2 q2 fun F3 v H3 d μ3 g3 r3 q3 => k F3 v H3 d μ3 ((g.trans g2).trans g3) r3 q3⟩⟩
def gApp : GM := fun x ds μ R => ∃ a xs d, x = .ref a ∧ ds = [d] ∧ μ a = some (.lst xs) ∧ xs.length < sizeLine ∧ R .non (mset μ a (.lst (xs ++ [d])))
theorem m_append : MtL X Z "list.append" "list" gApp := ⟨_, mt_append, fun F H μ x ds vx vs R Q s rx rs q k => by
  obtain ⟨a, xs, d, rfl, rfl, e, hz, q⟩ := q
  obtain ⟨v, rfl, r⟩ := one_of rs
  cases rx
  obtain ⟨_, us, e3, rr⟩ := s.obj _ _ e
  refine ⟨a, us, v, rfl, rfl, e3, by rw [← rr.length]; exact hz, ?_⟩
  have g := s.putS (o := .lst (us ++ [v])) (m := .lst (xs ++ [d])) e fun g' e' => ⟨_, e', (rr.grow g').append (.cons (r.grow g') .nil)⟩
  exact k _ _ _ _ _ g .non q⟩
def gPop : GM := fun x ds μ R => ∃ a xs d, x = .ref a ∧ ds = [] ∧ μ a = some (.lst xs) ∧ xs[xs.length - 1]? = some d ∧ R d (mset μ a (.lst xs.dropLast))
theorem m_pop : MtL X Z "list.pop" "list" gPop := ⟨_, mt_pop, fun F H μ x ds vx vs R Q s rx rs q k => by
  obtain ⟨a, xs, d, rfl, rfl, e, hz, q⟩ := q
  cases rs
  cases rx
  obtain ⟨_, us, e3, rr⟩ := s.obj _ _ e
  obtain ⟨v, ev, r⟩ := rr.get hz
  refine ⟨a, us, v, rfl, rfl, e3, by rw [← rr.length]; exact ev, ?_⟩
  have g := s.putS (o := .lst us.dropLast) (m := .lst xs.dropLast) e fun g' e' => ⟨_, e', (rr.grow g').dropLast⟩
  exact k _ _ _ _ _ g (r.st g) q⟩
def gExt : GM := fun x ds μ R => ∃ a xs y ys, x = .ref a ∧ ds = [y] ∧ μ a = some (.lst xs) ∧ lstOf μ y = some ys ∧ xs.length + ys.length ≤ sizeLine ∧ R .non (mset μ a (.lst (xs ++ ys)))
theorem m_extend : MtL X Z "list.extend" "list" gExt := ⟨_, mt_extend, fun F H μ x ds vx vs R Q s rx rs q k => by
  obtain ⟨a, xs, y, ys, rfl, rfl, e, ey, hz, q⟩ := q
  obtain ⟨v, rfl, r⟩ := one_of rs
  cases rx
  obtain ⟨_, us, e3, rr⟩ := s.obj _ _ e
  obtain ⟨p, ws, rfl, e4, r4⟩ := lst_of s r ey
  refine ⟨a, p, us, ws, rfl, rfl, e3, e4, by rw [← rr.length, ← r4.length]; exact hz, ?_⟩
  have g := s.putS (o := .lst (us ++ ws)) (m := .lst (xs ++ ys)) e fun g' e' => ⟨_, e', (rr.grow g').append (r4.grow g')⟩
  exact k _ _ _ _ _ g .non q⟩
/-- sep.join(xs) -/
def gJoin : GM := fun x ds μ R => ∃ (a : Str) (y : D) (ys : List Str), x = .str a ∧ ds = [y] ∧ seqOf μ y = some (ys.map D.str) ∧ (ys.map (·.length)).sum + ys.length * a.length ≤ 16777216 ∧ R (.str (Txt.join a ys)) μ
theorem m_join : MtL X Z "str.join" "str" gJoin := ⟨_, mt_join, fun F H μ x ds vx vs R Q s rx rs q k => by
  obtain ⟨a, y, ys, rfl, rfl, e, hz, q⟩ := q
  obtain ⟨v, rfl, r⟩ := one_of rs
  cases rx
  obtain ⟨p, us, rfl, sq, rr⟩ := seq_of s r e
  obtain rfl := rps_map (g := V.str) (fun a v h => by cases h; rfl) rr
  exact ⟨a, p, ys, rfl, rfl, sq, hz, k F _ H _ μ (Step.refl s) (.str _) q⟩⟩
/-! ### o[i] = v -/
def StL (X : Cx) (Z : Zn X.kn) (G : D → D → D → Mu → (Mu → Prop) → Prop) : Prop := ∃ t, PSet X t ∧ ∀ F H μ o i v vo vi vv R Q, Sim Z F H μ → Rp X.kn F H o vo → Rp X.kn F H i vi → Rp X.kn F H v vv → G o i v μ R →
  (∀ F' H' μ', Step Z F H μ F' H' μ' → R μ' → Q H') → t vo vi vv H Q
def sSub (G : D → D → D → Mu → (Mu → Prop) → Prop) (te to ti : TE3) : TS3 := fun D δ μ => te δ μ fun v μ1 => to δ μ1 fun o μ2 => ti δ μ2 fun i μ3 => G o i v μ3 fun μ4 => D.nx δ μ4
theorem s_sub {G : D → D → D → Mu → (Mu → Prop) → Prop} {pos' : Pos} (hS : StL X Z G) (he : E3 X Z e te) (ho : E3 X Z o to) (hi : E3 X Z i ti)
    (ha : ∀ v, assign (.Subscript o i pos') X.env v = (do
      let ov ← holding [v] (eval o X.env)
      let iv ← holding [v, ov] (eval i X.env)
      standAt pos'
      holding [v, ov, iv] (setItem ov iv v)
      release [v, ov, iv] []) := by intro _; rfl)
    (hs : swapsWithSole [.Subscript o i pos'] e pos.line X.env = pure false := by rfl) (hw : swappedStores [.Subscript o i pos'] e X.env = pure none := by rfl)
    (h1 : (assignEach [.Subscript o i pos'] X.env).map (·.2) = [assign (.Subscript o i pos') X.env] := by rfl) : S3 X Z (.Assign [.Subscript o i pos'] e pos) (sSub G te to ti) := by
  obtain ⟨t, ht, l⟩ := hS
  refine (ps_asg he (pg_sub ho hi ht ha) hs hw h1).imp fun D σ H h => ?_
  obtain ⟨F, δ, μ, D3, s, sl, h, k⟩ := h
  refine ⟨F, δ, μ, _, s, sl, h, fun F1 v H1 d μ1 g r1 q1 => ?_⟩
  refine ⟨F1, δ, μ1, _, g.sim, sl.st g, q1, fun F2 ov H2 od μ2 g2 r2 q2 => ?_⟩
  refine ⟨F2, δ, μ2, _, g2.sim, sl.st (g.trans g2), q2, fun F3 iv H3 id μ3 g3 r3 q3 => ?_⟩
  exact l F3 H3 μ3 od id d ov iv v _ _ g3.sim (r2.st g3) r3 (r1.st (g2.trans g3)) q3 fun F4 H4 μ4 g4 q4 => k.nx F4 σ H4 δ μ4 (((g.trans g2).trans g3).trans g4) (sl.st (((g.trans g2).trans g3).trans g4)) q4
def gSetL : D → D → D → Mu → (Mu → Prop) → Prop := fun o i v μ R => ∃ a xs k j, o = .ref a ∧ i = .int k ∧ μ a = some (.lst xs) ∧ ixN xs.length k = some j ∧ R (mset μ a (.lst (xs.set j v)))
theorem st_list : StL X Z gSetL := ⟨_, set_list, fun F H μ o i v vo vi vv R Q s ro ri rv q k => by
  obtain ⟨a, xs, n, j, rfl, rfl, e, hj, q⟩ := q
  cases ro
  cases ri
  obtain ⟨_, us, e3, rr⟩ := s.obj _ _ e
  refine ⟨a, us, n, j, rfl, rfl, e3, by rw [← rr.length]; exact hj, ?_⟩
  have g := s.putS (o := .lst (us.set j vv)) (m := .lst (xs.set j v)) e fun g' e' => ⟨_, e', (rr.grow g').set (rv.grow g') j⟩
  exact k _ _ _ g q⟩
/-! ### what is walked -/
def PIor {tg iter : Expr} {t u : TI} (h : PI X tg iter t) (h' : PI X tg iter u) : PI X tg iter (fun σ H R => t σ H R ∨ u σ H R) := ⟨fun pins s σ H R I q => q.elim (h.run pins s σ H R I) (h'.run pins s σ H R I)⟩
def iSeq (te : TE3) : TI3 := fun δ μ R => te δ μ fun d μ1 => match d with
  | .lst xs => R xs (fun _ => True) μ1
  | .scr xs => R xs (fun _ => True) μ1
  | .tup xs => R xs (fun _ => True) μ1
  | .ref a => ∃ xs, μ1 a = some (.lst xs) ∧ R xs (fun μ => μ a = some (.lst xs)) μ1
  | _ => False
theorem itl_ok {K : Kn} {Z : Zn K} {F : Addr → Prop} {H : Hp} {μ : Mu} {ds : List D} {Pm : Mu → Prop} {a : Addr} (h : ∀ F1 H1 μ1, Step Z F H μ F1 H1 μ1 → Pm μ1 → ∃ vs, SqL K H1 a vs ∧ Rps K F1 H1 ds vs) : ItOk Z F H μ ds Pm (Itl K a) := by
  refine ⟨fun F1 H1 μ1 i g hp hi => ?_, fun F1 H1 μ1 g hp => ?_, fun F1 H1 μ1 i x H2 g hp hy hi => ?_⟩
  · obtain ⟨vs, sq, rs⟩ := h F1 H1 μ1 g hp
    obtain ⟨v, ev, _⟩ := rs.get (List.getElem?_eq_getElem hi)
    exact ⟨vs, v, sq, ev⟩
  · obtain ⟨vs, sq, rs⟩ := h F1 H1 μ1 g hp
    exact ⟨vs, sq, by rw [rs.length]; exact Nat.le_refl _⟩
  · obtain ⟨vs, sq, rs⟩ := h F1 H1 μ1 g hp
    obtain ⟨rfl, hy⟩ := hy
    obtain ⟨d, ed, rd⟩ := rs.back (hy vs sq)
    exact ⟨F1, d, Step.refl g.sim, ed, rd⟩
theorem itt_ok {K : Kn} {Z : Zn K} {F : Addr → Prop} {H : Hp} {μ : Mu} {ds : List D} {Pm : Mu → Prop} {a : Addr} (h : ∀ F1 H1 μ1, Step Z F H μ F1 H1 μ1 → Pm μ1 → ∃ vs, SqT K H1 a vs ∧ Rps K F1 H1 ds vs) : ItOk Z F H μ ds Pm (Itt K a) := by
  refine ⟨fun F1 H1 μ1 i g hp hi => ?_, fun F1 H1 μ1 g hp => ?_, fun F1 H1 μ1 i x H2 g hp hy hi => ?_⟩
  · obtain ⟨vs, sq, rs⟩ := h F1 H1 μ1 g hp
    obtain ⟨v, ev, _⟩ := rs.get (List.getElem?_eq_getElem hi)
    exact ⟨vs, v, sq, ev⟩
  · obtain ⟨vs, sq, rs⟩ := h F1 H1 μ1 g hp
    exact ⟨vs, sq, by rw [rs.length]; exact Nat.le_refl _⟩
  · obtain ⟨vs, sq, rs⟩ := h F1 H1 μ1 g hp
    obtain ⟨rfl, hy⟩ := hy
    obtain ⟨d, ed, rd⟩ := rs.back (hy vs sq)
    exact ⟨F1, d, Step.refl g.sim, ed, rd⟩
theorem lst_at {K : Kn} {Z : Zn K} {F F1 : Addr → Prop} {H H1 : Hp} {μ μ1 : Mu} {a : Addr} {ds : List D} (r : Rp K F H (.lst ds) (.ref a)) (g : Step Z F H μ F1 H1 μ1) : ∃ vs, SqL K H1 a vs ∧ Rps K F1 H1 ds vs := by
  have r' := r.st g
  cases r' with
  | lst f e rs => exact ⟨_, SqL.of e, rs⟩
theorem scr_at {K : Kn} {Z : Zn K} {F F1 : Addr → Prop} {H H1 : Hp} {μ μ1 : Mu} {a : Addr} {ds : List D} (r : Rp K F H (.scr ds) (.ref a)) (g : Step Z F H μ F1 H1 μ1) : ∃ vs, SqL K H1 a vs ∧ Rps K F1 H1 ds vs := by
  have r' := r.st g
  cases r' with
  | scr f rs => exact ⟨_, f.sq, rs⟩
theorem tup_at {K : Kn} {Z : Zn K} {F F1 : Addr → Prop} {H H1 : Hp} {μ μ1 : Mu} {a : Addr} {ds : List D} (r : Rp K F H (.tup ds) (.ref a)) (g : Step Z F H μ F1 H1 μ1) : ∃ vs, SqT K H1 a vs ∧ Rps K F1 H1 ds vs := by
  have r' := r.st g
  cases r' with
  | tup f e rs => exact ⟨_, SqT.of e, rs⟩
/-- a list or a tuple is walked, whichever it turns out to be -/
def iEither (K : PySem.W.Frag) (tl : TE) : TI := fun σ H R => tl σ H fun x H1 => ∃ a, x = .ref a ∧ (((∃ ys, SqL K H1 a ys) ∧ R (Itl K a) H1) ∨ ((∃ ys, SqT K H1 a ys) ∧ R (Itt K a) H1))
theorem pi_either {tg l : Expr} {tl : TE} (hl : PE X l tl) : PI X tg l (iEither X.K tl) := by
  refine ⟨fun ps st σ H R I h => thn (hl.run ps st σ H _ I h) fun v st1 ⟨x, H1, J, rx, z⟩ => ?_⟩
  obtain ⟨a, rfl, z⟩ := z
  cases rx
  have fp : ∀ b ∈ [st1.heap.objs.size], FpOk X ps H1 b := fun b hb => by
    obtain rfl : b = st1.heap.objs.size := List.mem_singleton.mp hb
    exact J.fpOk (Nat.le_refl _) (J.hok.fresh (Nat.le_refl _))
  rcases z with ⟨⟨ys, sq⟩, z⟩ | ⟨⟨ys, sq⟩, z⟩
  · obtain ⟨us, _, pl, _⟩ := J.list sq
    exact wpAny_pyIter_list pl.isList ⟨_, _, _, _, H1, rfl, J.kept (t' := st1.toks) fun _ _ w => Heap.get?_push_of_some _ w, turn_list a _, ⟨_, Heap.get?_push_size _ rfl, rfl, rfl⟩, fp, z⟩
  · obtain ⟨us, _, pl, _⟩ := J.tuple sq
    exact wpAny_pyIter_tuple (show st1.heap.IsTuple a us.toArray from pl) ⟨_, _, _, _, H1, rfl, J.kept (t' := st1.toks) fun _ _ w => Heap.get?_push_of_some _ w, turn_tuple a _, ⟨_, Heap.get?_push_size _ rfl, rfl, rfl⟩, fp, z⟩
theorem i_seq {tg : Expr} (he : E3 X Z e te) : I3 X Z tg e (iSeq te) := (pi_either he).imp fun σ H R3 h => by
  obtain ⟨F, δ, μ, R, s, sl, h, k⟩ := h
  refine ⟨F, δ, μ, _, s, sl, h, fun F1 v H1 d μ1 g r1 q1 => ?_⟩
  cases r1 with
  | lst f e rs => exact ⟨_, rfl, .inl ⟨⟨_, SqL.of e⟩, k F1 H1 _ _ μ1 _ g (itl_ok fun F2 H2 μ2 g2 _ => lst_at (.lst f e rs) g2) q1⟩⟩
  | scr f rs => exact ⟨_, rfl, .inl ⟨⟨_, f.sq⟩, k F1 H1 _ _ μ1 _ g (itl_ok fun F2 H2 μ2 g2 _ => scr_at (.scr f rs) g2) q1⟩⟩
  | tup f e rs => exact ⟨_, rfl, .inr ⟨⟨_, SqT.of e⟩, k F1 H1 _ _ μ1 _ g (itt_ok fun F2 H2 μ2 g2 _ => tup_at (.tup f e rs) g2) q1⟩⟩
  | ref a =>
    obtain ⟨xs, em, q1⟩ := q1
    refine ⟨a, rfl, .inl ⟨?_, k F1 H1 _ _ μ1 _ g (itl_ok fun F2 H2 μ2 g2 hp => ?_) q1⟩⟩
    · obtain ⟨_, vs, e3, rs⟩ := g.sim.obj _ _ em
      exact ⟨vs, SqL.of e3⟩
    · obtain ⟨_, vs, e3, rs⟩ := g2.sim.obj _ _ hp
      exact ⟨vs, SqL.of e3, rs⟩
  | _ => exact (show False from q1).elim
/-! range -/
def rgD (lo : Int) (n : Nat) : List D := (List.range n).map fun i => .int (lo + (i : Nat))
theorem itr_ok {K : Kn} {Z : Zn K} {F : Addr → Prop} {H : Hp} {μ : Mu} {lo : Int} {n : Nat} : ItOk Z F H μ (rgD lo n) (fun _ => True) (Itr lo n) := by
  have hl : (rgD lo n).length = n := by simp [rgD]
  refine ⟨fun F1 H1 μ1 i g hp hi => by rw [hl] at hi; exact hi, fun F1 H1 μ1 g hp => by rw [hl]; exact Nat.le_refl _, fun F1 H1 μ1 i x H2 g hp hy hi => ?_⟩
  obtain ⟨rfl, rfl⟩ := hy
  rw [hl] at hi
  exact ⟨F1, .int (lo + i), Step.refl g.sim, by simp [rgD, hi], .int _⟩
def iRg1 (ta : TA3) : TI3 := fun δ μ R => ta δ μ fun ds μ1 => match ds with
  | [.int j] => -(2 ^ 62) ≤ j ∧ j < 2 ^ 62 ∧ R (rgD 0 j.toNat) (fun _ => True) μ1
  | _ => False
theorem i_range1 {tg : Expr} (hm : X.mg "range" = none) (ha : A3 X Z [a] tr) (hg : Gl X "range" := by rfl) (hs : starEach [a] X.env = [(false, eval a X.env)] := by rfl) : I3 X Z tg (.Call (.Name "range" p) [a] [] pos) (iRg1 tr) := (pi_range1 hg hm ha hs).imp fun σ H R3 h => by
  obtain ⟨F, δ, μ, R, s, sl, h, k⟩ := h
  refine ⟨F, δ, μ, _, s, sl, h, fun F1 vs H1 ds μ1 g r1 q1 => ?_⟩
  split at q1
  · rename_i j
    obtain ⟨v, rfl, r⟩ := one_of r1
    cases r
    exact ⟨j, rfl, q1.1, q1.2.1, k F1 H1 _ _ μ1 _ g itr_ok q1.2.2⟩
  · exact q1.elim
def iRg2 (ta : TA3) : TI3 := fun δ μ R => ta δ μ fun ds μ1 => match ds with
  | [.int i, .int j] => (-(2 ^ 62) ≤ i ∧ i < 2 ^ 62 ∧ -(2 ^ 62) ≤ j ∧ j < 2 ^ 62) ∧ R (rgD i (j - i).toNat) (fun _ => True) μ1
  | _ => False
theorem i_range2 {tg : Expr} (hm : X.mg "range" = none) (ha : A3 X Z [a, b] tr) (hg : Gl X "range" := by rfl) (hs : starEach [a, b] X.env = [(false, eval a X.env), (false, eval b X.env)] := by rfl) (hs2 : starEach [b] X.env = [(false, eval b X.env)] := by rfl) : I3 X Z tg (.Call (.Name "range" p) [a, b] [] pos) (iRg2 tr) := (pi_range2 hg hm ha hs hs2).imp fun σ H R3 h => by
  obtain ⟨F, δ, μ, R, s, sl, h, k⟩ := h
  refine ⟨F, δ, μ, _, s, sl, h, fun F1 vs H1 ds μ1 g r1 q1 => ?_⟩
  split at q1
  · rename_i i j
    cases r1 with
    | cons r1 t => cases t with
      | cons r2 t =>
        cases t; cases r1; cases r2
        exact ⟨i, j, rfl, q1.1, k F1 H1 _ _ μ1 _ g itr_ok q1.2⟩
  · exact q1.elim
/-! the signs of a text -/
def signsD (z : Str) : List D := z.cps.toList.map fun c => .str ⟨#[c]⟩
def iStr3 (te : TE3) : TI3 := fun δ μ R => te δ μ fun d μ1 => match d with
  | .str z => R (signsD z) (fun _ => True) μ1
  | _ => False
theorem its_ok {K : Kn} {Z : Zn K} {F : Addr → Prop} {H : Hp} {μ : Mu} {z : Str} : ItOk Z F H μ (signsD z) (fun _ => True) (Its z) := by
  have hl : (signsD z).length = z.cps.size := by simp [signsD]
  refine ⟨fun F1 H1 μ1 i g hp hi => by rw [hl] at hi; exact hi, fun F1 H1 μ1 g hp => by rw [hl]; exact Nat.le_refl _, fun F1 H1 μ1 i x H2 g hp hy hi => ?_⟩
  obtain ⟨rfl, c, ec, rfl⟩ := hy
  refine ⟨F1, .str ⟨#[c]⟩, Step.refl g.sim, ?_, .str _⟩
  unfold signsD
  rw [List.getElem?_map, Array.getElem?_toList, ec]
  rfl
theorem i_str {tg : Expr} (he : E3 X Z e te) : I3 X Z tg e (iStr3 te) := (pi_str he).imp fun σ H R3 h => by
  obtain ⟨F, δ, μ, R, s, sl, h, k⟩ := h
  refine ⟨F, δ, μ, _, s, sl, h, fun F1 v H1 d μ1 g r1 q1 => ?_⟩
  cases r1 <;> first | exact (show False from q1).elim | skip
  exact ⟨_, rfl, k F1 H1 _ _ μ1 _ g its_ok q1⟩
/-! one name as a comprehension's target -/
theorem tg_name {K : Kn} (i : Nat) : TgL K (gName i) (gN i) [i] := ⟨fun F H σ δ δ' d v Q sl r e k => by
    cases e
    exact k _ (fun ws h => wipe_set_mem σ (some v) ws i (h i List.mem_cons_self)) (sl.set i r)⟩
/-! name = [..] where the name is no cell -/
theorem s_setLc {j : Nat} {y : Str} {py spos : Pos} {elt tg iter : Expr} {ifs : List Expr} {scope : Scope} {own : List (Str × Nat)} {wi : TI3} {g : TG3} {tt : TT3} {vs : List Nat} (hc : X.calm = true) (hN : X.N.Nodup) (hi : I3 X Z tg iter wi) (ok : BlkOk X.N X.env.scope scope own) {g2 : TG}
    (lg : TgL X.kn g2 g vs) (hv : ∀ i ∈ vs, i ∈ own.map (·.2))
    (hg : ∀ (s : Shared) (H : Hp) (C : Addr) (cl : List (Str × Addr)) (fp : List Addr), PG (X.blk s H scope (compEnvC scope cl C X.env) fp) tg g2)
    (ht : ∀ (s : Shared) (H : Hp) (C : Addr) (cl : List (Str × Addr)) (fp : List Addr), Ts3 (X.blk s H scope (compEnvC scope cl C X.env) fp) Z ifs tt)
    (he : ∀ (s : Shared) (H : Hp) (C : Addr) (cl : List (Str × Addr)) (fp : List Addr), E3 (X.blk s H scope (compEnvC scope cl C X.env) fp) Z elt te)
    (hsw : swapsWith (.ListComp elt [⟨tg, iter, ifs, 0⟩] scope pos) (some (.Name y py)) spos.line X.env = pure true)
    (hy : X.N[j]? = some y := by rfl) (hyl : X.env.scope.names.lookup y = some .local := by rfl)
    (hs : ∀ x, foldedSetIterable iter X.env x = pure x := by intro _; rfl) :
    S3 X Z (.Assign [.Name y py] (.ListComp elt [⟨tg, iter, ifs, 0⟩] scope pos) spos) (sSet j (vLc wi g tt te (own.map (·.2)))) :=
  (ps_setLc (wi := lowI Z wi) (g := g2) (tt := lowT Z tt) (te := low Z te) hc hN hy hyl hsw hi ok hg ht he hs).imp fun D σ H h => by
    obtain ⟨F, δ, μ, D3, s, sl, h, k⟩ := h
    exact low_lc lg hv ⟨F, δ, μ, _, s, sl, h, fun F1 v H1 d μ1 g r1 q1 => k.nx F1 _ H1 _ μ1 g ((sl.st g).set j r1) q1⟩
/-! {} and written dicts -/
def vDict0 : TE3 := fun _ μ R => R (.dct []) μ
theorem e_dict0 : E3 X Z (.Dict [] [] pos) vDict0 := pe_dnewK.imp fun σ H Q h => by
  obtain ⟨F, δ, μ, R, s, sl, h, k⟩ := h
  intro p hp
  have g := s.frzS (o := .dK []) hp
  exact k _ _ _ _ μ g (.dct (.inr rfl) (.inl upd_same) .nil) h
def vDict0T : TE3 := fun _ μ R => ∀ q, μ q = none → R (.ref q) (mset μ q (.dct []))
theorem e_dict0T : E3 X Z (.Dict [] [] pos) vDict0T := pe_dnewK.imp fun σ H Q h => by
  obtain ⟨F, δ, μ, R, s, sl, h, k⟩ := h
  intro p hp
  have g := s.trkS (o := .dK []) (m := .dct []) hp fun g' e => ⟨[], e, .nil⟩
  exact k _ _ _ _ _ g (.ref p) (h p (s.free hp))
end
end L3

namespace L3
open PySem PySem.Spec L2
/-! ### dicts with int and text keys -/
def valD (kvs : List (Key × D)) (k : Key) : Option D := (kvs.find? fun kv => decide (kv.1 = k)).map (·.2)
def putD (kvs : List (Key × D)) (k : Key) (v : D) : List (Key × D) :=
  if (kvs.any fun kv => decide (kv.1 = k)) = true then kvs.map (fun kv => if kv.1 = k then (kv.1, v) else kv) else kvs ++ [(k, v)]
def mergeD (kvs more : List (Key × D)) : List (Key × D) := more.foldl (fun acc kv => putD acc kv.1 kv.2) kvs
def keyOf : D → Option Key
  | .int i => some (.inl i)
  | .str x => some (.inr x)
  | _ => none
section
variable {K : Kn} {F : Addr → Prop} {H : Hp}
theorem keyOf_ok {x : D} {v : V} {k : Key} (r : Rp K F H x v) (h : keyOf x = some k) : v = kV k := by
  cases r <;> cases h <;> rfl
theorem Rpk.length : ∀ {ds : List (Key × D)} {vs : List (Key × V)}, Rpk K F H ds vs → ds.length = vs.length
  | _, _, .nil => rfl
  | _, _, .cons _ t => by rw [List.length_cons, List.length_cons, Rpk.length t]
theorem Rpk.val {k : Key} : ∀ {ds : List (Key × D)} {vs : List (Key × V)}, Rpk K F H ds vs → (∀ d, valD ds k = some d → ∃ v, valV vs k = some v ∧ Rp K F H d v) ∧ (valD ds k = none → valV vs k = none)
  | _, _, .nil => ⟨fun d h => (by cases h), fun _ => rfl⟩
  | _, _, .cons (k := k') (d := d') (v := v') (ds := ds') (vs := vs') r t => by
    have ih := Rpk.val (k := k) t
    by_cases e : k' = k
    · have e1 : valD ((k', d') :: ds') k = some d' := by simp [valD, List.find?_cons, e]
      have e2 : valV ((k', v') :: vs') k = some v' := valV_pos (p := (k', v')) e
      rw [e1, e2]
      exact ⟨fun d h => (by cases h; exact ⟨v', rfl, r⟩), fun h => (by cases h)⟩
    · have e1 : valD ((k', d') :: ds') k = valD ds' k := by simp [valD, List.find?_cons, e]
      have e2 : valV ((k', v') :: vs') k = valV vs' k := valV_neg (p := (k', v')) e
      rw [e1, e2]
      exact ih
theorem Rpk.keys : ∀ {ds : List (Key × D)} {vs : List (Key × V)}, Rpk K F H ds vs → ds.map (·.1) = vs.map (·.1)
  | _, _, .nil => rfl
  | _, _, .cons r t => by rw [List.map_cons, List.map_cons, Rpk.keys t]
theorem Rpk.append : ∀ {ds es : List (Key × D)} {vs us : List (Key × V)}, Rpk K F H ds vs → Rpk K F H es us → Rpk K F H (ds ++ es) (vs ++ us)
  | _, _, _, _, .nil, s => s
  | _, _, _, _, .cons h r, s => .cons h (Rpk.append r s)
theorem Rpk.upd {k : Key} {d : D} {v : V} (h : Rp K F H d v) : ∀ {ds : List (Key × D)} {vs : List (Key × V)}, Rpk K F H ds vs → Rpk K F H (ds.map fun kv => if kv.1 = k then (kv.1, d) else kv) (vs.map fun kv => if kv.1 = k then (kv.1, v) else kv)
  | _, _, .nil => .nil
  | _, _, .cons (k := k') r t => by
    rw [List.map_cons, List.map_cons]
    by_cases e : k' = k
    · simp only [e, if_true]
      exact .cons h (Rpk.upd h t)
    · simp only [e, if_false]
      exact .cons r (Rpk.upd h t)
theorem Rpk.has {k : Key} : ∀ {ds : List (Key × D)} {vs : List (Key × V)}, Rpk K F H ds vs → (ds.any fun kv => decide (kv.1 = k)) = (vs.any fun kv => decide (kv.1 = k))
  | _, _, .nil => rfl
  | _, _, .cons r t => by rw [List.any_cons, List.any_cons, Rpk.has t]
theorem Rpk.put {k : Key} {d : D} {v : V} {ds : List (Key × D)} {vs : List (Key × V)} (r : Rpk K F H ds vs) (h : Rp K F H d v) : Rpk K F H (putD ds k d) (putK vs k v) := by
  unfold putD putK
  rw [r.has]
  split
  · exact r.upd h
  · exact r.append (.cons h .nil)
theorem Rpk.merge : ∀ {es : List (Key × D)} {us : List (Key × V)} {ds : List (Key × D)} {vs : List (Key × V)}, Rpk K F H es us → Rpk K F H ds vs → Rpk K F H (mergeD ds es) (mergeK vs us)
  | _, _, _, _, .nil, r => r
  | _, _, _, _, .cons (k := k) h t, r => by
    have z := Rpk.merge t (r.put (k := k) h)
    exact z
end
/-- the pairs of a dict, frozen or tracked -/
def dctOf (μ : Mu) : D → Option (List (Key × D))
  | .dct kvs => some kvs
  | .ref a => match μ a with
    | some (.dct kvs) => some kvs
    | _ => none
  | _ => none
theorem dct_of {K : Kn} {Z : Zn K} {F : Addr → Prop} {H : Hp} {μ : Mu} {x : D} {v : V} {xs : List (Key × D)} (s : Sim Z F H μ) (r : Rp K F H x v) (h : dctOf μ x = some xs) : ∃ p vs, v = .ref p ∧ Rd H p (.dK vs) ∧ Rpk K F H xs vs := by
  cases r with
  | dct f e rs => cases h; exact ⟨_, _, rfl, e, rs⟩
  | ref a =>
    have h' : (match μ a with
      | some (.dct xs) => some xs
      | _ => none) = some xs := h
    split at h'
    · rename_i ys e2
      cases h'
      obtain ⟨_, vs, e3, rs⟩ := s.obj _ _ e2
      exact ⟨_, vs, rfl, .inl e3, rs⟩
    · cases h'
  | _ => cases h
section
variable {X : Cx} {Z : Zn X.kn} {e a b c o i v kx : Expr} {es : List Expr} {ta tb tc te to ti tv tk : TE3} {tr : TA3} {pos p apos cpos : Pos} {x : Str}
def vPairs : List (TE3 × TE3) → St3 → Mu → (List (D × D) → Mu → Prop) → Prop
  | [], _, μ, R => R [] μ
  | (tk, tv) :: r, δ, μ, R => tk δ μ fun x μ1 => tv δ μ1 fun y μ2 => vPairs r δ μ2 fun ps μ3 => R ((x, y) :: ps) μ3
def keysOf : List (D × D) → Option (List (Key × D))
  | [] => some []
  | (k, d) :: r => match keyOf k, keysOf r with
    | some k', some r' => some ((k', d) :: r')
    | _, _ => none
def vDisp (trs : List (TE3 × TE3)) : TE3 := fun δ μ R => vPairs trs δ μ fun ps μ1 => ∃ kvs, keysOf ps = some kvs ∧ kvs.length ≤ 15 ∧ R (.dct (mergeD [] kvs)) μ1
def lowPs {K : Kn} (Z : Zn K) : List (TE3 × TE3) → List (TE × TE)
  | [] => []
  | (a, b) :: r => (low Z a, low Z b) :: lowPs Z r
def Ps3 (X : Cx) (Z : Zn X.kn) (pos : Pos) (keys : List (Option Expr)) (values : List Expr) (trs : List (TE3 × TE3)) : Prop := PPs X pos keys values (lowPs Z trs)
theorem ps3_nil : Ps3 X Z pos [] [] [] := pps_nil
theorem ps3_cons {ks : List (Option Expr)} {vs : List Expr} {trs : List (TE3 × TE3)} (hk : E3 X Z kx tk) (hv : E3 X Z v tv) (hr : Ps3 X Z pos ks vs trs) : Ps3 X Z pos (some kx :: ks) (v :: vs) ((tk, tv) :: trs) := pps_cons hk hv hr
inductive Rpp (K : Kn) (F : Addr → Prop) (H : Hp) : List (D × D) → List (V × V) → Prop
  | nil : Rpp K F H [] []
  | cons {d e : D} {v u : V} {ds : List (D × D)} {vs : List (V × V)} : Rp K F H d v → Rp K F H e u → Rpp K F H ds vs → Rpp K F H ((d, e) :: ds) ((v, u) :: vs)
theorem Rpp.keys {K : Kn} {F : Addr → Prop} {H : Hp} : ∀ {ds : List (D × D)} {vs : List (V × V)} {kvs : List (Key × D)}, Rpp K F H ds vs → keysOf ds = some kvs → ∃ ks, vs = ks.map (fun kv => (kV kv.1, kv.2)) ∧ Rpk K F H kvs ks
  | _, _, _, .nil, h => by cases h; exact ⟨[], rfl, .nil⟩
  | _, _, kvs, .cons (d := d) (ds := ds) r q t, h => by
    unfold keysOf at h
    split at h
    · rename_i k' r' e1 e2
      cases h
      obtain ⟨ks, rfl, rk⟩ := Rpp.keys t e2
      obtain rfl := keyOf_ok r e1
      exact ⟨(k', _) :: ks, rfl, .cons q rk⟩
    · cases h
theorem low_pairs {K : Kn} {Z : Zn K} {σ : L2.St} : ∀ {trs : List (TE3 × TE3)} {F : Addr → Prop} {H : Hp} {δ : St3} {μ : Mu} {R : List (D × D) → Mu → Prop} {Q : List (V × V) → Hp → Prop}, Sim Z F H μ → Sl K F H σ δ → vPairs trs δ μ R →
    (∀ F' vs H' ds μ', Step Z F H μ F' H' μ' → Rpp K F' H' ds vs → R ds μ' → Q vs H') → tPairs (lowPs Z trs) σ H Q
  | [], F, H, δ, μ, R, Q, s, sl, h, k => k F [] H [] μ (Step.refl s) .nil h
  | (a, b) :: r, F, H, δ, μ, R, Q, s, sl, h, k => by
    refine ⟨F, δ, μ, _, s, sl, h, fun F1 v H1 d μ1 g1 r1 q1 => ⟨F1, δ, μ1, _, g1.sim, sl.st g1, q1, fun F2 u H2 d2 μ2 g2 r2 q2 => ?_⟩⟩
    refine low_pairs g2.sim (sl.st (g1.trans g2)) q2 fun F3 vs H3 ds μ3 g3 r3 q3 => ?_
    exact k F3 _ H3 _ μ3 ((g1.trans g2).trans g3) (.cons (r1.st (g2.trans g3)) (r2.st g3) r3) q3
theorem e_disp {keys : List (Option Expr)} {values : List Expr} {trs : List (TE3 × TE3)} (h : Ps3 X Z pos keys values trs) (hall : keys.all (·.isSome) = true := by rfl) (hl : keys.length = values.length := by rfl) (h0 : keys ≠ [] := by simp) (h15 : keys.length ≤ 15 := by simp) :
    E3 X Z (.Dict keys values pos) (vDisp trs) := (pe_disp h hall hl h0 h15).imp fun σ H Q h => by
  obtain ⟨F, δ, μ, R, s, sl, h, k⟩ := h
  intro p hp
  have g := s.newS (o := .dK []) hp
  have nF : ¬ F p := fun f => by
    obtain ⟨u, hu⟩ := s.dom p f
    rw [hp] at hu
    cases hu
  refine low_pairs g.sim (sl.st g) h fun F1 vs H1 ds μ1 g1 r1 q1 => ?_
  obtain ⟨n1, e1, f1⟩ := g1.fm p _ upd_same (s.free hp) nF
  obtain ⟨kvs, ek, hz, q1⟩ := q1
  obtain ⟨ks, rfl, rk⟩ := r1.keys ek
  refine ⟨e1, ks, rfl, by rw [← rk.length]; exact hz, ?_⟩
  have nF1 : ¬ F1 p := f1
  have gg := (g.trans g1).priv (o := .dK (mergeK [] ks)) s hp nF1 n1
  have g2 := gg.shut (o := .dK (mergeK [] ks)) s hp n1 upd_same
  have gp := (g1.sim.raw.priv (o := .dK (mergeK [] ks)) nF1 n1).1
  have gq : Grow F1 (L2.upd H1 p (.dK (mergeK [] ks))) (fun a => F1 a ∨ a = p) (L2.upd H1 p (.dK (mergeK [] ks))) := ⟨fun _ h => .inl h, fun _ _ _ h => h, fun _ _ _ _ h => h⟩
  exact k _ _ _ _ μ1 g2 (.dct (.inr rfl) (.inl upd_same) (((Rpk.merge rk .nil).grow gp).grow gq)) q1
end
end L3

namespace L3
open PySem PySem.Spec L2
/-! ### readings that end without changing what is tracked -/
theorem lc_map {te : TE3} {δ : St3} {R : List D → Mu → Prop} {i : Nat} {μ : Mu} (f : D → D) : ∀ (ds acc : List D), (∀ d ∈ ds, ∀ R' : DK, R' (f d) μ → te (δ.set i (some d)) μ R') → acc.length + ds.length ≤ sizeLine → R (acc ++ ds.map f) μ →
    lcW (fun _ => True) (gN i) vYes te δ R ds acc μ
  | [], acc, _, _, k => ⟨trivial, by simpa using k⟩
  | d :: ds, acc, h, hl, k => by
    rw [List.length_cons] at hl
    refine ⟨trivial, by omega, ?_⟩
    change (if true = true then te (δ.set i (some d)) μ (fun y μ2 => lcW (fun _ => True) (gN i) vYes te δ R ds (acc ++ [y]) μ2) else lcW (fun _ => True) (gN i) vYes te δ R ds acc μ)
    rw [if_pos rfl]
    refine h d List.mem_cons_self _ (lc_map f ds (acc ++ [f d]) (fun d' hd => h d' (List.mem_cons_of_mem _ hd)) (by simp; omega) ?_)
    simpa using k
theorem lc_filter {tt : TT3} {te : TE3} {δ : St3} {R : List D → Mu → Prop} {i : Nat} {μ : Mu} (p : D → Bool) (f : D → D) : ∀ (ds acc : List D), (∀ d ∈ ds, ∀ R' : Bool → Mu → Prop, R' (p d) μ → tt (δ.set i (some d)) μ R') →
    (∀ d ∈ ds, p d = true → ∀ R' : DK, R' (f d) μ → te (δ.set i (some d)) μ R') → acc.length + ds.length ≤ sizeLine → R (acc ++ (ds.filter p).map f) μ → lcW (fun _ => True) (gN i) tt te δ R ds acc μ
  | [], acc, _, _, _, k => ⟨trivial, by simpa using k⟩
  | d :: ds, acc, ht, h, hl, k => by
    rw [List.length_cons] at hl
    refine ⟨trivial, by omega, ?_⟩
    show tt (δ.set i (some d)) μ _
    refine ht d List.mem_cons_self _ ?_
    have ht' := fun d' hd => ht d' (List.mem_cons_of_mem _ hd)
    have h' := fun d' hd => h d' (List.mem_cons_of_mem _ hd)
    cases e : p d with
    | true =>
      rw [if_pos rfl]
      refine h d List.mem_cons_self e _ (lc_filter p f ds (acc ++ [f d]) ht' h' (by simp; omega) ?_)
      simpa [List.filter_cons, e] using k
    | false =>
      rw [if_neg Bool.false_ne_true]
      refine lc_filter p f ds acc ht' h' (by omega) ?_
      simpa [List.filter_cons, e] using k
theorem lc_mapOf {α : Type} {te : TE3} {δ : St3} {R : List D → Mu → Prop} {i : Nat} {μ : Mu} (e f : α → D) : ∀ (xs : List α) (acc : List D), (∀ x ∈ xs, ∀ R' : DK, R' (f x) μ → te (δ.set i (some (e x))) μ R') → acc.length + xs.length ≤ sizeLine → R (acc ++ xs.map f) μ →
    lcW (fun _ => True) (gN i) vYes te δ R (xs.map e) acc μ
  | [], acc, _, _, k => ⟨trivial, by simpa using k⟩
  | d :: ds, acc, h, hl, k => by
    rw [List.length_cons] at hl
    refine ⟨trivial, by omega, ?_⟩
    change (if true = true then te (δ.set i (some (e d))) μ (fun y μ2 => lcW (fun _ => True) (gN i) vYes te δ R (ds.map e) (acc ++ [y]) μ2) else lcW (fun _ => True) (gN i) vYes te δ R (ds.map e) acc μ)
    rw [if_pos rfl]
    refine h d List.mem_cons_self _ (lc_mapOf e f ds (acc ++ [f d]) (fun d' hd => h d' (List.mem_cons_of_mem _ hd)) (by simp; omega) ?_)
    simpa using k
theorem lc_filterOf {α : Type} {tt : TT3} {te : TE3} {δ : St3} {R : List D → Mu → Prop} {i : Nat} {μ : Mu} (p : α → Bool) (e f : α → D) : ∀ (xs : List α) (acc : List D), (∀ x ∈ xs, ∀ R' : Bool → Mu → Prop, R' (p x) μ → tt (δ.set i (some (e x))) μ R') →
    (∀ x ∈ xs, p x = true → ∀ R' : DK, R' (f x) μ → te (δ.set i (some (e x))) μ R') → acc.length + xs.length ≤ sizeLine → R (acc ++ (xs.filter p).map f) μ → lcW (fun _ => True) (gN i) tt te δ R (xs.map e) acc μ
  | [], acc, _, _, _, k => ⟨trivial, by simpa using k⟩
  | d :: ds, acc, ht, h, hl, k => by
    rw [List.length_cons] at hl
    refine ⟨trivial, by omega, ?_⟩
    show tt (δ.set i (some (e d))) μ _
    refine ht d List.mem_cons_self _ ?_
    have ht' := fun d' hd => ht d' (List.mem_cons_of_mem _ hd)
    have h' := fun d' hd => h d' (List.mem_cons_of_mem _ hd)
    cases q : p d with
    | true =>
      rw [if_pos rfl]
      refine h d List.mem_cons_self q _ (lc_filterOf p e f ds (acc ++ [f d]) ht' h' (by simp; omega) ?_)
      simpa [List.filter_cons, q] using k
    | false =>
      rw [if_neg Bool.false_ne_true]
      refine lc_filterOf p e f ds acc ht' h' (by omega) ?_
      simpa [List.filter_cons, q] using k
/-- a for by what holds ahead of each turn, by the items that are left; the body for any next that W lets -/
theorem for_ind {Pm : Mu → Prop} {g : TG3} {tb : TS3} {Z : Ends3} (W : List D → St3 → Mu → Prop) (h0 : ∀ δ μ, W [] δ μ → Pm μ ∧ Z.nx δ μ)
    (hs : ∀ d ds δ μ, W (d :: ds) δ μ → Pm μ ∧ ∃ δ', g d δ = some δ' ∧ ∀ N : St3 → Mu → Prop, (∀ δ' μ', W ds δ' μ' → N δ' μ') → tb { Z with nx := N, ct := N, bk := Z.nx } δ' μ) : ∀ ds δ μ, W ds δ μ → forW Pm g tb Z ds δ μ
  | [], δ, μ, w => h0 δ μ w
  | d :: ds, δ, μ, w => by
    obtain ⟨hP, δ', e, h⟩ := hs d ds δ μ w
    refine ⟨hP, ?_⟩
    rw [e]
    exact h _ fun δ2 μ2 w2 => for_ind W h0 hs ds δ2 μ2 w2
/-- a for over a range, by the turn's number -/
theorem for_rg {tb : TS3} {Z : Ends3} {i : Nat} {lo : Int} {n : Nat} (W : Nat → St3 → Mu → Prop) {δ : St3} {μ : Mu} (w0 : W 0 δ μ) (h0 : ∀ δ μ, W n δ μ → Z.nx δ μ)
    (hs : ∀ k δ μ, k < n → W k δ μ → ∀ N : St3 → Mu → Prop, (∀ δ' μ', W (k + 1) δ' μ' → N δ' μ') → tb { Z with nx := N, ct := N, bk := Z.nx } (δ.set i (some (.int (lo + (k : Nat))))) μ) : forW (fun _ => True) (gN i) tb Z (rgD lo n) δ μ := by
  refine for_ind (W := fun ds δ μ => ∃ k, k ≤ n ∧ ds = (rgD lo n).drop k ∧ W k δ μ) ?_ ?_ _ _ _ ⟨0, Nat.zero_le _, rfl, w0⟩
  · rintro δ μ ⟨k, hk, e, w⟩
    have hl : (rgD lo n).length = n := by simp [rgD]
    have : k = n := by
      have := congrArg List.length e
      rw [List.length_drop, hl] at this
      simp at this
      omega
    subst this
    exact ⟨trivial, h0 δ μ w⟩
  · rintro d ds δ μ ⟨k, hk, e, w⟩
    have hl : (rgD lo n).length = n := by simp [rgD]
    have hlt : k < n := by
      have := congrArg List.length e
      rw [List.length_drop, hl] at this
      simp at this
      omega
    rw [List.drop_eq_getElem_cons (by rw [hl]; exact hlt)] at e
    obtain ⟨e1, e2⟩ := List.cons.inj e
    have ed : d = .int (lo + (k : Nat)) := by rw [e1]; simp [rgD]
    subst ed
    exact ⟨trivial, _, rfl, fun N hN => hs k δ μ hlt w N fun δ' μ' w' => hN δ' μ' ⟨k + 1, hlt, e2, w'⟩⟩
/-- a comprehension that may change what is tracked -/
theorem lc_ind {g : TG3} {tt : TT3} {te : TE3} {δ : St3} {R : List D → Mu → Prop} {Pm : Mu → Prop} (W : List D → List D → Mu → Prop) (h0 : ∀ acc μ, W [] acc μ → Pm μ ∧ R acc μ)
    (hs : ∀ d ds acc μ, W (d :: ds) acc μ → Pm μ ∧ acc.length < sizeLine ∧ ∃ δ', g d δ = some δ' ∧ ∀ N : List D → Mu → Prop, (∀ acc' μ', W ds acc' μ' → N acc' μ') → tt δ' μ fun b μ1 => if b = true then te δ' μ1 fun y μ2 => N (acc ++ [y]) μ2 else N acc μ1) : ∀ ds acc μ, W ds acc μ → lcW Pm g tt te δ R ds acc μ
  | [], acc, μ, w => h0 acc μ w
  | d :: ds, acc, μ, w => by
    obtain ⟨hP, hl, δ', e, h⟩ := hs d ds acc μ w
    refine ⟨hP, hl, ?_⟩
    rw [e]
    exact h _ fun acc' μ' w' => lc_ind W h0 hs ds acc' μ' w'
/-- .. over a range, without a test, by the turn's number -/
theorem lc_rg {te : TE3} {δ : St3} {R : List D → Mu → Prop} {i : Nat} {lo : Int} {n : Nat} (hn : n < sizeLine) (W : Nat → List D → Mu → Prop) {μ : Mu} (w0 : W 0 [] μ) (hW : ∀ k acc μ, W k acc μ → acc.length = k) (h0 : ∀ acc μ, W n acc μ → R acc μ)
    (hs : ∀ k acc μ, k < n → W k acc μ → ∀ N : DK, (∀ y μ', W (k + 1) (acc ++ [y]) μ' → N y μ') → te (δ.set i (some (.int (lo + (k : Nat))))) μ N) : lcW (fun _ => True) (gN i) vYes te δ R (rgD lo n) [] μ := by
  have hl : (rgD lo n).length = n := by simp [rgD]
  refine lc_ind (W := fun ds acc μ => ∃ k, k ≤ n ∧ ds = (rgD lo n).drop k ∧ W k acc μ) ?_ ?_ _ _ _ ⟨0, Nat.zero_le _, rfl, w0⟩
  · rintro acc μ ⟨k, hk, e, w⟩
    have : k = n := by
      have := congrArg List.length e
      rw [List.length_drop, hl] at this
      simp at this
      omega
    subst this
    exact ⟨trivial, h0 acc μ w⟩
  · rintro d ds acc μ ⟨k, hk, e, w⟩
    have hlt : k < n := by
      have := congrArg List.length e
      rw [List.length_drop, hl] at this
      simp at this
      omega
    rw [List.drop_eq_getElem_cons (by rw [hl]; exact hlt)] at e
    obtain ⟨e1, e2⟩ := List.cons.inj e
    have ed : d = .int (lo + (k : Nat)) := by rw [e1]; simp [rgD]
    subst ed
    refine ⟨trivial, by rw [hW k acc μ w]; omega, _, rfl, fun N hN => ?_⟩
    change (if true = true then te (δ.set i (some (.int (lo + (k : Nat))))) μ (fun y μ2 => N (acc ++ [y]) μ2) else N acc μ)
    rw [if_pos rfl]
    exact hs k acc μ hlt w _ fun y μ' w' => hN _ _ ⟨k + 1, hlt, e2, w'⟩
theorem ix_ref {μ : Mu} {b : Addr} {xs : List D} {i : Int} {d : D} {R : DK} (e : μ b = some (.lst xs)) (h : atI xs i = some d) (k : R d μ) : gIx (.ref b) (.int i) μ R := ⟨xs, d, by simp only [seqOf, e], h, k⟩
theorem ix_lst {μ : Mu} {xs : List D} {i : Int} {d : D} {R : DK} (h : atI xs i = some d) (k : R d μ) : gIx (.lst xs) (.int i) μ R := ⟨xs, d, rfl, h, k⟩
theorem ix_tup {μ : Mu} {xs : List D} {i : Int} {d : D} {R : DK} (h : atI xs i = some d) (k : R d μ) : gIx (.tup xs) (.int i) μ R := ⟨xs, d, rfl, h, k⟩
theorem set_ref {μ : Mu} {b : Addr} {xs : List D} {i : Int} {j : Nat} {v : D} {R : Mu → Prop} (e : μ b = some (.lst xs)) (h : ixN xs.length i = some j) (k : R (mset μ b (.lst (xs.set j v)))) : gSetL (.ref b) (.int i) v μ R := ⟨b, xs, i, j, rfl, rfl, e, h, k⟩
theorem atI_of {α : Type} {xs : List α} {i : Int} {d : α} (h0 : 0 ≤ i) (h : xs[i.toNat]? = some d) : atI xs i = some d := by
  have hl : i.toNat < xs.length := (List.getElem?_eq_some_iff.mp h).1
  unfold atI ixN
  rw [if_pos h0, if_pos (by omega)]
  exact h
theorem endsOf_rt {R : DK} : (endsOf R).rt = fun d μ => fin R d μ := rfl
theorem endsOf_nx {R : DK} : (endsOf R).nx = fun _ μ => fin R .non μ := rfl
theorem gAdd_ii {i j : Int} {μ : Mu} {R : DK} : gAdd (.int i) (.int j) μ R = R (.int (i + j)) μ := rfl
theorem gAdd_ss {i j : Str} {μ : Mu} {R : DK} : gAdd (.str i) (.str j) μ R = (i.length + j.length ≤ sizeLine ∧ R (.str (i ++ j)) μ) := rfl
theorem gAdd_ll {i j : List D} {μ : Mu} {R : DK} (hz : i.length + j.length ≤ sizeLine) (h : R (.lst (i ++ j)) μ) : gAdd (.lst i) (.lst j) μ R := ⟨i, j, rfl, rfl, hz, h⟩
theorem gNeg_i {i : Int} {μ : Mu} {R : DK} : gNeg (.int i) μ R = R (.int (-i)) μ := rfl
theorem gMax2_ii {i j : Int} {μ : Mu} {R : DK} : gMax2 [.int i, .int j] μ R = R (.int (max i j)) μ := rfl
theorem gMin2_ii {i j : Int} {μ : Mu} {R : DK} : gMin2 [.int i, .int j] μ R = R (.int (min i j)) μ := rfl
theorem gLen_s {z : Str} {μ : Mu} {R : DK} : gLen [.str z] μ R = (z.length ≤ sizeLine ∧ R (.int z.length) μ) := rfl
theorem gLen_of {x : D} {xs : List D} {μ : Mu} {R : DK} (e : seqOf μ x = some xs) (h : R (.int xs.length) μ) : gLen [x] μ R := by
  cases x with
  | str z => cases e
  | _ => exact ⟨xs, e, h⟩
theorem gIsi_of {x : D} {n m : String} {b : Bool} {μ : Mu} {R : DK} (e : tyD μ x = some n) (k : kitB n m = some b) (h : R (.bl b) μ) : gIsi [x, .ty m] μ R := ⟨n, b, e, k, h⟩
theorem gEqS_ii {i j : Int} {μ : Mu} {R : DK} : gEqS (.int i) (.int j) μ R = R (.bl (decide (i = j))) μ := rfl
theorem gEqS_ss {i j : Str} {μ : Mu} {R : DK} : gEqS (.str i) (.str j) μ R = R (.bl (decide (i = j))) μ := rfl
theorem gEqS_bb {i j : Bool} {μ : Mu} {R : DK} : gEqS (.bl i) (.bl j) μ R = R (.bl (decide (i = j))) μ := rfl
theorem gNeS_ii {i j : Int} {μ : Mu} {R : DK} : gNeS (.int i) (.int j) μ R = R (.bl (!decide (i = j))) μ := rfl
theorem gNeS_ss {i j : Str} {μ : Mu} {R : DK} : gNeS (.str i) (.str j) μ R = R (.bl (!decide (i = j))) μ := rfl
theorem gIsN_n {x : D} {μ : Mu} {R : DK} : gIsN x .non μ R = R (.bl (isNonD x)) μ := rfl
theorem gNotN_n {x : D} {μ : Mu} {R : DK} : gNotN x .non μ R = R (.bl (!isNonD x)) μ := rfl
theorem gSl_s {z : Str} {lo hi : Option Int} {μ : Mu} {R : DK} : gSl (.str z) lo hi μ R = (z.length ≤ sizeLine ∧ R (.str (cutS z lo hi)) μ) := rfl
theorem gIx_s {z : Str} {i : Int} {μ : Mu} {R : DK} {c : Nat} (hz : z.length ≤ sizeLine) (h : atI z.cps.toList i = some c) (k : R (.str ⟨#[c]⟩) μ) : gIx (.str z) (.int i) μ R := ⟨c, hz, h, k⟩
/-! ### the law is entered with the script -/
theorem rps_ints {K : Kn} {F : Addr → Prop} {H : Hp} : ∀ ns : List Int, Rps K F H (ns.map D.int) (ns.map V.int)
  | [] => .nil
  | n :: r => .cons (.int n) (rps_ints r)
theorem enter_scr {K : Kn} {H : Hp} {a : Addr} {ns : List Int} {sp : Sp3} (hS : SqL K H a (ns.map V.int)) (h : sp [.scr (ns.map D.int)] (fun _ => none) (fun d _ => d = .bl true)) : lift K 1 sp [.ref a] H (fun v _ => v = .bl true) fun _ _ _ => False := by
  refine ⟨fun x => x = a ∧ Rd H a (.lst (ns.map V.int)), [.scr (ns.map D.int)], fun _ => none, fun d _ => d = .bl true, rfl, ⟨⟨fun x f => ?_, fun x o e => (by cases e)⟩, trivial⟩, .cons (.scr ?_ (rps_ints ns)) .nil, h, fun F' v H' d μ' _ r e => ?_⟩
  · obtain ⟨rfl, f | ⟨o, f⟩⟩ := f
    · exact ⟨_, f⟩
    · exact ⟨_, f⟩
  · rcases hS with r | r
    · exact .inl ⟨⟨rfl, r⟩, r⟩
    · exact .inr r
  · subst e
    cases r
    rfl
/-! ### isinstance by the written types -/
theorem kb_NoneType_int : kitB "NoneType" "int" = some false := by decide +kernel
theorem kb_NoneType_bool : kitB "NoneType" "bool" = some false := by decide +kernel
theorem kb_NoneType_str : kitB "NoneType" "str" = some false := by decide +kernel
theorem kb_NoneType_list : kitB "NoneType" "list" = some false := by decide +kernel
theorem kb_NoneType_tuple : kitB "NoneType" "tuple" = some false := by decide +kernel
theorem kb_NoneType_dict : kitB "NoneType" "dict" = some false := by decide +kernel
theorem kb_bool_int : kitB "bool" "int" = some true := by decide +kernel
theorem kb_bool_bool : kitB "bool" "bool" = some true := by decide +kernel
theorem kb_bool_str : kitB "bool" "str" = some false := by decide +kernel
theorem kb_bool_list : kitB "bool" "list" = some false := by decide +kernel
theorem kb_bool_tuple : kitB "bool" "tuple" = some false := by decide +kernel
theorem kb_bool_dict : kitB "bool" "dict" = some false := by decide +kernel
theorem kb_int_int : kitB "int" "int" = some true := by decide +kernel
theorem kb_int_bool : kitB "int" "bool" = some false := by decide +kernel
theorem kb_int_str : kitB "int" "str" = some false := by decide +kernel
theorem kb_int_list : kitB "int" "list" = some false := by decide +kernel
theorem kb_int_tuple : kitB "int" "tuple" = some false := by decide +kernel
theorem kb_int_dict : kitB "int" "dict" = some false := by decide +kernel
theorem kb_str_int : kitB "str" "int" = some false := by decide +kernel
theorem kb_str_bool : kitB "str" "bool" = some false := by decide +kernel
theorem kb_str_str : kitB "str" "str" = some true := by decide +kernel
theorem kb_str_list : kitB "str" "list" = some false := by decide +kernel
theorem kb_str_tuple : kitB "str" "tuple" = some false := by decide +kernel
theorem kb_str_dict : kitB "str" "dict" = some false := by decide +kernel
theorem kb_tuple_int : kitB "tuple" "int" = some false := by decide +kernel
theorem kb_tuple_bool : kitB "tuple" "bool" = some false := by decide +kernel
theorem kb_tuple_str : kitB "tuple" "str" = some false := by decide +kernel
theorem kb_tuple_list : kitB "tuple" "list" = some false := by decide +kernel
theorem kb_tuple_tuple : kitB "tuple" "tuple" = some true := by decide +kernel
theorem kb_tuple_dict : kitB "tuple" "dict" = some false := by decide +kernel
theorem kb_list_int : kitB "list" "int" = some false := by decide +kernel
theorem kb_list_bool : kitB "list" "bool" = some false := by decide +kernel
theorem kb_list_str : kitB "list" "str" = some false := by decide +kernel
theorem kb_list_list : kitB "list" "list" = some true := by decide +kernel
theorem kb_list_tuple : kitB "list" "tuple" = some false := by decide +kernel
theorem kb_list_dict : kitB "list" "dict" = some false := by decide +kernel
theorem kb_dict_int : kitB "dict" "int" = some false := by decide +kernel
theorem kb_dict_bool : kitB "dict" "bool" = some false := by decide +kernel
theorem kb_dict_str : kitB "dict" "str" = some false := by decide +kernel
theorem kb_dict_list : kitB "dict" "list" = some false := by decide +kernel
theorem kb_dict_tuple : kitB "dict" "tuple" = some false := by decide +kernel
theorem kb_dict_dict : kitB "dict" "dict" = some true := by decide +kernel
end L3

namespace L3
open PySem PySem.Spec PyProof.Rows L2
/-! ### a def's promise where no repr is under way -/
structure RoomG (k : Nat) (A : Around) : Prop where
  rm : Room k A
  gd : A.guards = some []
theorem RoomG.mono {j k : Nat} {A : Around} (r : RoomG k A) (h : j ≤ k) : RoomG j A := ⟨r.rm.mono h, r.gd⟩
structure FnG (P : Program) (w : World) (K : PySem.W.Frag) (mg : Str → Option Value) (base : Heap) (X0 : CXT) (k : Nat) (f : Addr) (fd : FuncData) (ps : List Str) (sp : Sp) : Prop where
  wide : ∀ xs H Q E, sp xs H Q E → xs.length = ps.length
  go : ∀ (A : Around) (fs : List Env) (s : Shared) (H : Hp) (args : Args) (us : List Value) (xs : List V) (Q : VK) (E : XK), RoomG k A → Env0 P w K mg base A fs s H → BindsTo s fd args (ps.zip us) →
    Vals xs us → sp xs H Q E → codeAny (model P w) A (.call (.ref f) args) (CR X0 fs P w H s Q E) s
theorem FnG.mono {P : Program} {w : World} {K : PySem.W.Frag} {mg : Str → Option Value} {base : Heap} {X0 : CXT} {j k : Nat} {f : Addr} {fd : FuncData} {ps : List Str} {sp : Sp} (F : FnG P w K mg base X0 j f fd ps sp) (h : j ≤ k) : FnG P w K mg base X0 k f fd ps sp :=
  ⟨F.wide, fun A fs s H args us xs Q E r => F.go A fs s H args us xs Q E (r.mono h)⟩
/-- by the body -/
theorem fng_of {X0 : CXT} {P : Program} {w : World} {K : PySem.W.Frag} {mg : Str → Option Value} {base : Heap} {k : Nat} {f : Addr} {nm qual : Str} {pr : Arguments} {bd : List Stmt} {sc : Scope} {d1 d2 d3 d4 cdv ct oc : Value} {an od : Option Addr}
    {osl : Array (Option Value)} {N ps : List Str} {sp : Sp} (lk : K.lookup f = some ⟨oc, od, .func (PySem.W.fnOf nm qual pr bd sc d1 d2 d3 d4 an cdv ct), osl⟩) (cd : PySem.W.codeIn K cdv qual = true) (S : FnScope N ps sc)
    (wide : ∀ xs H Q E, sp xs H Q E → xs.length = ps.length)
    (hb : ∀ (A : Around) (fs : List Env) (s : Shared) (H : Hp) (xs : List V) (Q : VK) (E : XK), RoomG k (A.deeper (envOfC qual sc s.heap.objs.size f cdv)) → sp xs H Q E →
      ∃ t, PSs (cxOf X0 P w K mg base N qual sc f cdv A fs s H E) bd t ∧ t { nx := fun _ H1 => Q .non H1, rt := Q } (start N xs) H) :
    FnG P w K mg base X0 (k + 1) f (PySem.W.fnOf nm qual pr bd sc d1 d2 d3 d4 an cdv ct) ps sp := by
  refine ⟨wide, fun A fs s H args us xs Q E room e0 hbind rv hsp => ?_⟩
  have kept : ∀ b o, base.get? b = some o → s.heap.get? b = some o := fun b o e => (e0.bs b o e).1
  have KX : K.In s.heap := e0.mod.kin.keeps kept
  have noLim : s.heap.NoLimit := e0.mod.nolimit.keeps kept
  refine codeAny_call_function room.rm.depth (KX _ _ lk) rfl S.co S.gen rfl (PySem.W.codeRec_of KX cd) (hbind _ _ _ _ ?_)
  refine wpAny_newFunctionEnv_cells S.kind (fun y hy => ?_) fun env he s1 x => ?_
  · rcases S.par y.1 (List.of_mem_zip (show (y.1, y.2) ∈ _ from hy)).1 with q | q
    · exact .inl q
    · exact .inr ⟨q, PySem.W.cellsFrom_some _ _ _ (.inl q)⟩
  subst he
  refine ⟨noLim.keeps x.toInCall.keep, codeAny_func ?_⟩
  obtain ⟨t, ht, hq⟩ := hb A fs s H xs Q E ⟨room.rm.deeper _, room.gd⟩ hsp
  have I0 := inv_start (CX := X0) (E := E) S room.rm.hd e0 (wide _ _ _ _ hsp) rv x
  refine wpAny_mono (ht.run [] s1 (start N xs) H _ I0 hq) (fun fl s2 hs => ?_) fun _ _ hs => hs
  cases fl with
  | ret u => obtain ⟨v, σ2, H2, J, r2, q⟩ := hs; exact ⟨v, H2, J.os, J.bare, J.base, J.hok, r2, q⟩
  | next => obtain ⟨σ2, H2, J, q⟩ := hs; exact ⟨.non, H2, J.os, J.bare, J.base, J.hok, rfl, q⟩
  | brk => obtain ⟨_, _, _, q⟩ := hs; exact False.elim q
  | cont => obtain ⟨_, _, _, q⟩ := hs; exact False.elim q
section
variable {X : Cx} {Z : Zn X.kn} {X0 : CXT} {k : Nat} {f C : Addr} {fd : FuncData} {ps : List Str} {sp : Sp} {E : XK}
/-- the callee runs -/
theorem run_g {pins : List (Addr × Obj)} {σ : L2.St} {H : Hp} {s : Shared} {Q : VK} {us as : List Value} {kw : List (Str × Value)} {xs : List V} (F : FnG X.prog X.w X.K X.mg X.base X0 k f fd ps sp) (hr : RoomG k X.A) (hx : Passes X0 X E)
    (I : Inv X pins σ H s) (hb : BindsTo s fd ⟨as, kw⟩ (ps.zip us)) (rv : Vals xs us) (h : sp xs H Q E) : wpAny (model X.prog X.w) X.A (call (.ref f) as kw) (EP X pins σ Q) X.xe s := by
  refine wpAny_call (codeAny_mono (F.go X.A X.stack s H _ us xs Q E hr I.env0 hb rv h) fun res s2 hq => ?_)
  match res, hq with
  | .error er, hq => exact hx pins σ H s er s2 I hq
  | .ok (.ret u), hq => exact I.after hq
/-- a new object, then __init__ -/
theorem run_gmake {pins : List (Addr × Obj)} {σ : L2.St} {H : Hp} {s : Shared} {Q : VK} {as : List Value} {kw : List (Str × Value)} (M : Mk X.K C f) (F : FnG X.prog X.w X.K X.mg X.base X0 k f fd ps sp) (hr : RoomG (k + 1) X.A) (hx : Passes X0 X E)
    (I : Inv X pins σ H s)
    (h : ∀ x dx, H x = none → H dx = none → dx ≠ x → ∃ us xs, (∀ s1 : Shared, X.K.In s1.heap → BindsTo s1 fd ⟨.ref x :: as, kw⟩ (ps.zip us)) ∧ Vals xs us ∧ sp xs (upd (upd H dx (.own x)) x (.ins C dx [])) (fun v H2 => v = .non ∧ Q (.ref x) H2) E) :
    wpAny (model X.prog X.w) X.A (call (.ref C) as kw) (EP X pins σ Q) X.xe s := by
  obtain ⟨us, xs, hb, rv, hq⟩ := h (s.heap.objs.size + 1) s.heap.objs.size (I.hok.fresh (Nat.le_succ _)) (I.hok.fresh (Nat.le_refl _)) (Nat.ne_of_lt (Nat.lt_succ_self _))
  have J := Inv.made (C := C) I
  have gd : (X.A.under (.builtin "type.__call__" ⟨.ref C :: as, kw⟩)).guards = some [] := by
    have : (X.A.under (.builtin "type.__call__" ⟨.ref C :: as, kw⟩)).guards = X.A.guards := by
      first | rfl | simp [Around.under, Code.guards, Code.isGuard, guardIds, pushGuards]
    rw [this]; exact hr.gd
  refine wpAny_call (make_map (f := f) I.kIn M.makes M.init (beq_iff_eq.mp M.fn) (codeAny_mono (F.go _ X.stack _ _ _ us xs _ E ⟨hr.rm.make C as kw, gd⟩ (J.env0.make C as kw) (hb _ J.kIn) rv hq) fun res s2 hq2 => ?_))
  match res, hq2 with
  | .error er, hq2 => exact hx pins σ _ _ er s2 J hq2
  | .ok (.ret u), hq2 =>
    obtain ⟨v, H2, J2, r2, e2, q2⟩ := J.after hq2
    subst e2
    exact ⟨r2, .ref (s.heap.objs.size + 1), H2, J2, rfl, q2⟩
end
end L3

namespace L3
open PySem PySem.Spec PyProof.Rows L2
/-- what is known of the heap behind the top, beyond Mod -/
structure BaseX (base : Heap) : Prop where
  nd : ∃ mc, base.Ns cStatics mc ∧ mc "sys.int_max_str_digits" = none
/-- the script is seen, frozen, unless the written part holds it -/
def scrH (K : PySem.W.Frag) (a : Addr) (us : List Value) (ns : List Int) : Hp := fun b => if b = a ∧ K.lookup a = none then some (.frz { cls := .type "list", data := .seq us.toArray } (.lst (ns.map V.int))) else none
theorem scrH_some {K : PySem.W.Frag} {a b : Addr} {us : List Value} {ns : List Int} {u : HO} (h : scrH K a us ns b = some u) : b = a ∧ K.lookup a = none ∧ u = .frz { cls := .type "list", data := .seq us.toArray } (.lst (ns.map V.int)) := by
  unfold scrH at h
  split at h
  · rename_i c
    cases h
    exact ⟨c.1, c.2, rfl⟩
  · cases h
theorem scrH_none {K : PySem.W.Frag} {a b : Addr} {us : List Value} {ns : List Int} (h : ¬ (b = a ∧ K.lookup a = none)) : scrH K a us ns b = none := if_neg h
theorem enter_law {P : Program} {w : World} {K : PySem.W.Frag} {mg mb : Str → Option Value} {X0 : CXT} {k : Nat} {fa a : Addr} {fd : FuncData} {x : Str} {sp : Sp} {s1 : Shared} {us : List Value} {ns : List Int}
    (KX : K.In s1.heap) (h1 : s1.heap.Ns mainGlobals mg) (h2 : s1.heap.Ns builtinsNs mb) (h3 : ∀ x : Str, x ≠ "__name__" → mb x = bootBuiltins x) (h4 : s1.heap.NoLimit) (h5 : ∃ mc, s1.heap.Ns cStatics mc ∧ mc "sys.int_max_str_digits" = none) (hg : s1.gens = #[])
    (ha : s1.heap.get? a = some { cls := .type "list", data := .seq us.toArray }) (hi : IntsAre us ns) (hl : ns.length ≤ sizeLine) (hr : RoomG k callerA)
    (F : ∀ base : Heap, K.In base → base.Ns mainGlobals mg → BaseX base → FnG P w K mg base X0 k fa fd [x] sp) (hbind : ∀ (s : Shared) (u : Value), BindsTo s fd ⟨[u], []⟩ [(x, u)])
    (hsp : ∀ H : Hp, SqL K H a (ns.map V.int) → sp [.ref a] H (fun v _ => v = .bl true) fun _ _ _ => False)
    (hX0 : ∀ H e s2, X0 [] H s1 (fun _ _ _ => False) e s2 → False) :
    codeAny (model P w) callerA (.call (.ref fa) ⟨[.ref a], []⟩) (fun r s2 => r = .ok (.ret (.bool true)) ∧ OldK s1.heap s2.heap ∧ s2.os = s1.os ∧ AllBare s2.gens) s1 := by
  have rv := vals_ints hi
  have lz : us.length = ns.length := by rw [← rv.length, List.length_map]
  generalize eH : scrH K a us ns = H
  have look : ∀ {b u}, H b = some u → b = a ∧ K.lookup a = none ∧ u = .frz { cls := .type "list", data := .seq us.toArray } (.lst (ns.map V.int)) := fun h => scrH_some (eH ▸ h)
  have sq : SqL K H a (ns.map V.int) := by
    cases hk : K.lookup a with
    | some o =>
      have e := KX a o hk
      rw [ha] at e
      cases e
      exact .inr ⟨_, us.toArray, _, hk, rfl, rfl, rfl, by rw [List.size_toArray, lz]; exact hl, by simpa using rv⟩
    | none =>
      refine .inl (.inr ⟨{ cls := .type "list", data := .seq us.toArray }, ?_⟩)
      rw [← eH]
      exact if_pos ⟨rfl, hk⟩
  have ok : HOk P w H s1.heap := fun b u h => by
    obtain ⟨rfl, _, rfl⟩ := look h
    exact ⟨ha, by rw [List.length_map]; exact hl, us, _, rv, ha⟩
  -- an object that is no list of this form stays in sight
  have seen : ∀ {b : Addr} {o : Obj}, s1.heap.get? b = some o → (b = a → K.lookup a ≠ none) → (hidT s1.heap H).get? b = some o := fun {b o} e n => hidT_get e (by
    rw [← eH]
    exact scrH_none fun ⟨z1, z2⟩ => n z1 z2)
  have dict : ∀ {b : Addr} {m : Str → Option Value}, s1.heap.Ns b m → (hidT s1.heap H).Ns b m := fun {b m} ⟨o, es, ep, e, dd, rest⟩ => ⟨o, es, ep, seen e (fun z => by
    subst z
    rw [ha] at e
    cases e
    cases (show Data.seq us.toArray _ = Data.dict es ep from dd)), dd, rest⟩
  have KB : K.In (hidT s1.heap H) := fun b o e => seen (KX b o e) fun z n => by rw [z, n] at e; cases e
  have e0 : Env0 P w K mg (hidT s1.heap H) callerA [] s1 H :=
    ⟨rfl, ⟨KB, dict h1, ⟨mb, dict h2, h3⟩, let ⟨mc, q1, q2⟩ := h4; ⟨mc, dict q1, q2⟩⟩, fun b o e => of_hidT e, Nat.le_of_eq (hidT_size _ _), trivial, fun b hb => absurd (show b ∈ ([] : List Addr) from hb) (by simp), ok, .of_eq hg⟩
  have BX : BaseX (hidT s1.heap H) := ⟨let ⟨mc, q1, q2⟩ := h5; ⟨mc, dict q1, q2⟩⟩
  refine codeAny_mono ((F _ KB (dict h1) BX).go callerA [] s1 H _ [.ref a] [.ref a] _ _ hr e0 (hbind s1 (.ref a)) (.cons rfl .nil) (hsp H sq)) fun res s2 h => ?_
  match res, h with
  | .error er, h => exact (hX0 H er s2 h).elim
  | .ok (.ret u), h =>
    obtain ⟨v, H2, os, bare, un, ok2, r2, q⟩ := h
    obtain rfl : v = .bl true := q
    obtain rfl : u = Value.bool true := r2
    refine ⟨rfl, OldK.of_keep fun b o e => ?_, os, bare⟩
    cases q : H b with
    | none => exact un.keep b o e q (by intro z; exact absurd (show b ∈ ([] : List Addr) from z) (by simp)) (by simp)
    | some u =>
      obtain ⟨rfl, _, rfl⟩ := look q
      have e2 := (ok2 _ _ (un.frzs _ _ _ q)).1
      rw [ha] at e
      cases e
      exact e2
/-- the goal that k_head leaves -/
theorem walkG {l : PySem.W.OpenLaw} {n k : Nat} {q : Program} {loose : List Str} {XP : (Str → Option Value) → Heap → Prop} {YP : World → Heap → Prop} {d : DefRec} {K : Params → PySem.W.Frag} {X0 : World → CXT} {sp : World → Sp} {x : Str}
    (hn : l.most = some n) (hn2 : n ≤ sizeLine) (hdf : d.params.defaults = []) (hr : Room k callerA) (hY : ∀ (w : World) (h : Heap), YP w h → (K w.params).In h)
    (F : ∀ (w : World) (mg : Str → Option Value) (fa : Addr) (h : Heap), (K w.params).In h → h.Ns mainGlobals mg → mg d.name = some (.ref fa) →
      ∃ fd : FuncData, (∀ (s : Shared) (u : Value), BindsTo s fd ⟨[u], []⟩ [(x, u)]) ∧ ∀ base : Heap, (K w.params).In base → base.Ns mainGlobals mg → BaseX base → FnG l.prog w (K w.params) mg base (X0 w) k fa fd [x] (sp w))
    (hsp : ∀ (w : World) (H : Hp) (a : Addr) (ns : List Int), ns.length ≤ n → SqL (K w.params) H a (ns.map V.int) → sp w [.ref a] H (fun v _ => v = .bl true) fun _ _ _ => False)
    (hX0 : ∀ (w : World) (H : Hp) (s : Shared) (e : Value) (s2 : Shared), X0 w [] H s (fun _ _ _ => False) e s2 → False) :
    PySem.W.WalkO q loose XP YP l.row.toRowW d [] (fun f vs => PySem.call f vs) := by
  refine Att.attach_call hn hdf fun w s0 s1 mg mb fa o pm cd doc a us ns G Y ho hd hcd hmg hobj hints hlen hg => ?_
  obtain ⟨fd, hb, hF⟩ := F w mg fa _ (hY w _ Y) G.T.g hmg
  exact enter_law (hY w _ Y) G.T.g G.T.b G.T.builtins G.T.nolimit G.T.nodigits hg hobj hints (Nat.le_trans hlen hn2) ⟨hr, rfl⟩ hF hb (fun H hS => hsp w H a ns hlen hS) fun H e s2 => hX0 w H s1 e s2
/-! ### a def of the text -/
section
variable {P : Program} {w : World} {K : PySem.W.Frag} {mg : Str → Option Value} {base : Heap}
/-- a def or method as it stands behind the top; dfl: the defaults, kwd: those of the keyword-only ones -/
structure Def3 (K : PySem.W.Frag) (x qual : Str) (st : Stmt) (dfl : List V) (kwd : List (Str × V)) (f : Addr) (fd : FuncData) : Prop where
  ex : ∃ (oc : Value) (od : Option Addr) (dV kV doc pm : Value) (an : Option Addr) (cdv ct : Value) (osl : Array (Option Value)),
    fd = PySem.W.fnOf x qual (defArgs st) (defBody st) (defScope st) dV kV doc pm an cdv ct ∧ K.lookup f = some ⟨oc, od, .func fd, osl⟩ ∧ PySem.W.codeIn K cdv qual = true ∧ DflV K dV dfl ∧ KwdV K kV kwd
  kp : PySem.W.keepIn K (.ref f) = true
theorem Def3.ok3 {x qual : Str} {st : Stmt} {dfl : List V} {kwd : List (Str × V)} {f : Addr} {fd : FuncData} {N ps : List Str} {k : Nat} {sp : Sp3} (F : Def3 K x qual st dfl kwd f fd) (S : FnScope N ps (defScope st))
    (hb : ∀ (cdv : Value) (A : Around) (fs : List Env) (s : Shared) (H : Hp) (E : XK), RoomG k (A.deeper (envOfC qual (defScope st) s.heap.objs.size f cdv)) →
      ∃ t, Ss3 (cxOf CX0 P w K mg base N qual (defScope st) f cdv A fs s H E).nox (Zn.top _) (defBody st) t ∧ ∀ ds μ R, ds.length = ps.length → sp ds μ R → t (endsOf R) (start3 N ds) μ) : FnG P w K mg base CX0 (k + 1) f fd ps (lift ⟨K, P, w⟩ ps.length sp) := by
  obtain ⟨oc, od, dV, kV, doc, pm, an, cdv, ct, osl, rfl, lk, cd, _⟩ := F.ex
  refine fng_of lk cd S (fun _ _ _ _ h => lift_len h) fun A fs s H xs Q E hr h => ?_
  obtain ⟨F', ds, μ, R, l, sm, r, hsp, kk⟩ := h
  obtain ⟨t, h1, h2⟩ := hb cdv A fs s H E hr
  exact ⟨_, PSs.nox h1, F', _, μ, _, sm, Sl.start r, h2 ds μ R l hsp, fin_ends kk⟩
/-- where a parameter's value comes from: the values, the keywords, the defaults -/
inductive Src where
  | pos (i : Nat) | kw (i : Nat) | dfl (i : Nat)
def pick {α : Type} (z : α) (us ws ds : List α) : Src → α
  | .pos i => us.getD i z
  | .kw i => ws.getD i z
  | .dfl i => ds.getD i z
def picks {α : Type} (z : α) (os : List Src) (us ws ds : List α) : List α := os.map (pick z us ws ds)
/-- how n values and the keywords ks are bound -/
structure Bd3 (K : PySem.W.Frag) (fd : FuncData) (ps : List Str) (n : Nat) (ks : List Str) (os : List Src) (dfl : List V) : Prop where
  len : os.length = ps.length
  to : ∃ ds : List Value, Vals dfl ds ∧ ∀ (s : Shared) (us ws : List Value), K.In s.heap → us.length = n → ws.length = ks.length → BindsTo s fd ⟨us, ks.zip ws⟩ (ps.zip (picks .none os us ws ds))
variable {x qual : Str} {st : Stmt} {f : Addr} {fd : FuncData} {ps : List Str} {dfl : List V} {kwd : List (Str × V)}
/-- no defaults -/
theorem Def3.bind0 (F : Def3 K x qual st [] kwd f fd) (n : Nat) (ks : List Str) (os : List Src) (hl : os.length = ps.length)
    (h : ∀ (kV doc pm : Value) (an : Option Addr) (cdv ct : Value) (us ws : List Value), us.length = n → ws.length = ks.length → bindArgs (PySem.W.fnOf x qual (defArgs st) (defBody st) (defScope st) .none kV doc pm an cdv ct) ⟨us, ks.zip ws⟩ = pure (ps.zip (picks .none os us ws []))) :
    Bd3 K fd ps n ks os [] := by
  obtain ⟨oc, od, dV, kV, doc, pm, an, cdv, ct, osl, rfl, lk, cd, hD, hK⟩ := F.ex
  rcases hD with ⟨_, rfl⟩ | ⟨e, _⟩
  · exact ⟨hl, [], .nil, fun s us ws X l1 l2 => .of_eq (h kV doc pm an cdv ct us ws l1 l2)⟩
  · exact absurd rfl e
/-- with defaults -/
theorem Def3.bindD (F : Def3 K x qual st dfl kwd f fd) (hd : dfl ≠ []) (n : Nat) (ks : List Str) (os : List Src) (hl : os.length = ps.length)
    (h : ∀ (T : Addr) (kV doc pm : Value) (an : Option Addr) (cdv ct : Value) (us ws ds : List Value), us.length = n → ws.length = ks.length → ds.length = dfl.length →
      ∃ k, bindArgs (PySem.W.fnOf x qual (defArgs st) (defBody st) (defScope st) (.ref T) kV doc pm an cdv ct) ⟨us, ks.zip ws⟩ = seqItems? (.ref T) >>= k ∧ k (some ds.toArray) = pure (ps.zip (picks .none os us ws ds))) :
    Bd3 K fd ps n ks os dfl := by
  obtain ⟨oc, od, dV, kV, doc, pm, an, cdv, ct, osl, rfl, lk, cd, hD, hK⟩ := F.ex
  rcases hD with ⟨e, _⟩ | ⟨_, T, o, its, m, rfl, lT, oT, rT⟩
  · exact absurd e hd
  · refine ⟨hl, its, rT, fun s us ws X l1 l2 => ?_⟩
    obtain ⟨kk, e1, e2⟩ := h T kV doc pm an cdv ct us ws its l1 l2 rT.length.symm
    refine BindsTo.of_looks fun M => ?_
    rw [e1]
    exact looks_items X lT oT (.of_pure e2)
/-- keyword-only defaults alone; ms: those that lack -/
theorem Def3.bindK (F : Def3 K x qual st [] kwd f fd) (hk : kwd ≠ []) (ms : List (Str × V)) (hms : ∀ q ∈ ms, q ∈ kwd) (n : Nat) (ks : List Str) (os : List Src) (hl : os.length = ps.length)
    (h : ∀ (D : Addr) (doc pm : Value) (an : Option Addr) (cdv ct : Value) (us ws mv : List Value), us.length = n → ws.length = ks.length → mv.length = ms.length →
      KwChain D ((ms.map (·.1)).zip mv) (bindArgs (PySem.W.fnOf x qual (defArgs st) (defBody st) (defScope st) .none (.ref D) doc pm an cdv ct) ⟨us, ks.zip ws⟩) (ps.zip (picks .none os us ws mv))) :
    Bd3 K fd ps n ks os (ms.map (·.2)) := by
  obtain ⟨oc, od, dV, kV, doc, pm, an, cdv, ct, osl, rfl, lk, cd, hD, hK⟩ := F.ex
  rcases hD with ⟨_, rfl⟩ | ⟨e, _⟩
  · rcases hK with e | ⟨D, rfl, hq⟩
    · exact absurd e hk
    · obtain ⟨mv, l3, rk, hks⟩ := kwd_vals (ms := ms) fun q hm => hq q (hms q hm)
      exact ⟨hl, mv, rk, fun s us ws X l1 l2 => BindsTo.of_looks fun M => KwChain.looks X hks (h D doc pm an cdv ct us ws mv l1 l2 l3)⟩
  · exact absurd rfl e
/-- both kinds -/
theorem Def3.bindB (F : Def3 K x qual st dfl kwd f fd) (hd : dfl ≠ []) (hk : kwd ≠ []) (ms : List (Str × V)) (hms : ∀ q ∈ ms, q ∈ kwd) (n : Nat) (ks : List Str) (os : List Src) (hl : os.length = ps.length)
    (h : ∀ (T D : Addr) (doc pm : Value) (an : Option Addr) (cdv ct : Value) (us ws ds mv : List Value), us.length = n → ws.length = ks.length → ds.length = dfl.length → mv.length = ms.length →
      ∃ k, bindArgs (PySem.W.fnOf x qual (defArgs st) (defBody st) (defScope st) (.ref T) (.ref D) doc pm an cdv ct) ⟨us, ks.zip ws⟩ = seqItems? (.ref T) >>= k ∧ KwChain D ((ms.map (·.1)).zip mv) (k (some ds.toArray)) (ps.zip (picks .none os us ws (ds ++ mv)))) :
    Bd3 K fd ps n ks os (dfl ++ ms.map (·.2)) := by
  obtain ⟨oc, od, dV, kV, doc, pm, an, cdv, ct, osl, rfl, lk, cd, hD, hK⟩ := F.ex
  rcases hD with ⟨e, _⟩ | ⟨_, T, o, its, m, rfl, lT, oT, rT⟩
  · exact absurd e hd
  · rcases hK with e | ⟨D, rfl, hq⟩
    · exact absurd e hk
    · obtain ⟨mv, l3, rk, hks⟩ := kwd_vals (ms := ms) fun q hm => hq q (hms q hm)
      refine ⟨hl, its ++ mv, rT.append rk, fun s us ws X l1 l2 => ?_⟩
      obtain ⟨kk, e1, e2⟩ := h T D doc pm an cdv ct us ws its mv l1 l2 rT.length.symm l3
      refine BindsTo.of_looks fun M => ?_
      rw [e1]
      exact looks_items X lT oT (KwChain.looks X hks e2)
end
/-! ### the relations of what is picked -/
section
variable {K : Kn} {F : Addr → Prop} {H : Hp}
theorem vals_getD {vs : List V} {us : List Value} (r : Vals vs us) (i : Nat) : RelV (vs.getD i .non) (us.getD i .none) := by
  rw [List.getD_eq_getElem?_getD, List.getD_eq_getElem?_getD]
  cases e : vs[i]? with
  | some v =>
    obtain ⟨u, e1, r1⟩ := r.get e
    rw [e1]
    exact r1
  | none =>
    have : us[i]? = none := by
      rw [List.getElem?_eq_none_iff] at e ⊢
      rw [← r.length]
      exact e
    rw [this]
    rfl
theorem vals_picks {vs zs dv : List V} {us ws ds : List Value} (r1 : Vals vs us) (r2 : Vals zs ws) (r3 : Vals dv ds) : ∀ os : List Src, Vals (picks .non os vs zs dv) (picks .none os us ws ds)
  | [] => .nil
  | o :: os => by
    refine .cons ?_ (vals_picks r1 r2 r3 os)
    cases o with
    | pos i => exact vals_getD r1 i
    | kw i => exact vals_getD r2 i
    | dfl i => exact vals_getD r3 i
theorem rps_getD {ds : List D} {vs : List V} (r : Rps K F H ds vs) (i : Nat) : Rp K F H (ds.getD i .non) (vs.getD i .non) := by
  rw [List.getD_eq_getElem?_getD, List.getD_eq_getElem?_getD]
  cases e : ds[i]? with
  | some d =>
    obtain ⟨v, e1, r1⟩ := r.get e
    rw [e1]
    exact r1
  | none =>
    have : vs[i]? = none := by
      rw [List.getElem?_eq_none_iff] at e ⊢
      rw [← r.length]
      exact e
    rw [this]
    exact .non
theorem rps_picks {ds zs fs : List D} {vs us ws : List V} (r1 : Rps K F H ds vs) (r2 : Rps K F H zs us) (r3 : Rps K F H fs ws) : ∀ os : List Src, Rps K F H (picks .non os ds zs fs) (picks .non os vs us ws)
  | [] => .nil
  | o :: os => by
    refine .cons ?_ (rps_picks r1 r2 r3 os)
    cases o with
    | pos i => exact rps_getD r1 i
    | kw i => exact rps_getD r2 i
    | dfl i => exact rps_getD r3 i
end
/-- defaults: flat things -/
def flV : D → V
  | .bl b => .bl b
  | .int i => .int i
  | .str x => .str x
  | _ => .non
theorem flV_ok {K : Kn} {F : Addr → Prop} {H : Hp} : ∀ {ds : List D}, ds.all flatD = true → Rps K F H ds (ds.map flV)
  | [], _ => .nil
  | d :: ds, h => by
    rw [List.all_cons, Bool.and_eq_true] at h
    refine .cons ?_ (flV_ok h.2)
    cases d <;> first | exact .non | exact .bl _ | exact .int _ | exact .str _ | cases h.1
end L3

namespace L3
open PySem PySem.Spec PyProof.Rows L2
/-! ### repr -/
def ShowOk (p : PyData) : Prop := p.showable = true ∧ p.hasDict = false ∧ p.depth ≤ 100 ∧ p.shown.length ≤ sizeLine
theorem call_repr {X : Cx} {k : Nat} (hr : RoomG k X.A) : CallR X (.builtin "repr") (fun xs H Q => ∃ v p, xs = [v] ∧ Dp X.K H v p ∧ ShowOk p ∧ Q (.str p.shown) H) := by
  intro pins s σ H xs us Q I rs h
  obtain ⟨v, p, rfl, rd, ⟨h1, h2, h3, h4⟩, q⟩ := h
  cases rs with
  | cons r rs =>
    cases rs
    rename_i u
    obtain ⟨as, rds⟩ := Dp.reads I p v u rd r
    have hu := hr.rm.un
    have fin : ∀ h' t tk, (∀ b o, s.heap.get? b = some o → h'.get? b = some o) → EP X pins σ Q (.str p.shown t) { s with heap := h', toks := tk } := fun h' t tk kp => ⟨.str p.shown, H, I.kept kp, ⟨_, rfl⟩, q⟩
    cases rds with
    | none => exact P.repr_of_none ⟨.str PyData.none.shown, H, I.tok _, ⟨_, rfl⟩, q⟩
    | bool b => exact P.repr_of_bool ⟨.str (PyData.bool b).shown, H, I.tok _, ⟨_, by cases b <;> rfl⟩, q⟩
    | int i t => exact P.repr_of_int (by simpa [PyData.showable] using h1) ⟨.str (PyData.int i).shown, H, I.tok _, ⟨s.toks, by simp [PyData.shown]⟩, q⟩
    | str x t => exact P.repr_of_str ⟨.str (PyData.str x).shown, H, I.tok _, ⟨s.toks, by simp [PyData.shown]⟩, q⟩ (by simpa [PyData.shown] using h4)
    | list e1 e2 e3 e4 => exact repr_of_reads' (.list e1 e2 e3 e4) h1 (fun z => by rw [h2] at z; cases z) hr.gd (by omega) (fun _ _ e => e) fin h4
    | tuple e1 e2 e3 e4 => exact repr_of_reads' (.tuple e1 e2 e3 e4) h1 (fun z => by rw [h2] at z; cases z) hr.gd (by omega) (fun _ _ e => e) fin h4
    | dict e1 e2 e3 e4 e5 => cases h2
/-! what a tree shows -/
mutual
inductive Sh (μ : Mu) : D → PyData → Prop
  | non : Sh μ .non .none
  | bl (b : Bool) : Sh μ (.bl b) (.bool b)
  | int (i : Int) : Sh μ (.int i) (.int i)
  | str (x : Str) : Sh μ (.str x) (.str x)
  | lst {xs : List D} {ps : List PyData} : Shs μ xs ps → Sh μ (.lst xs) (.list ps)
  | scr {xs : List D} {ps : List PyData} : Shs μ xs ps → Sh μ (.scr xs) (.list ps)
  | tup {xs : List D} {ps : List PyData} : Shs μ xs ps → Sh μ (.tup xs) (.tuple ps)
  | ref {a : Addr} {xs : List D} {ps : List PyData} : μ a = some (.lst xs) → Shs μ xs ps → Sh μ (.ref a) (.list ps)
inductive Shs (μ : Mu) : List D → List PyData → Prop
  | nil : Shs μ [] []
  | cons {x : D} {xs : List D} {p : PyData} {ps : List PyData} : Sh μ x p → Shs μ xs ps → Shs μ (x :: xs) (p :: ps)
end
mutual
theorem Sh.dp {K : Kn} {Z : Zn K} {F : Addr → Prop} {H : Hp} {μ : Mu} (s : Sim Z F H μ) {d : D} {p : PyData} {v : V} : Sh μ d p → Rp K F H d v → Dp K H v p
  | .non, r => by cases r; exact .non
  | .bl b, r => by cases r; exact .bl b
  | .int i, r => by cases r; exact .int i
  | .str x, r => by cases r; exact .str x
  | .lst h, r => by
    cases r with
    | lst f e rs => exact .lst (SqL.of e) (Shs.dp s h rs)
  | .scr h, r => by
    cases r with
    | scr f rs => exact .lst f.sq (Shs.dp s h rs)
  | .tup h, r => by
    cases r with
    | tup f e rs => exact .tup (SqT.of e) (Shs.dp s h rs)
  | .ref e h, r => by
    cases r
    obtain ⟨_, vs, e3, rs⟩ := s.obj _ _ e
    exact .lst (SqL.of e3) (Shs.dp s h rs)
theorem Shs.dp {K : Kn} {Z : Zn K} {F : Addr → Prop} {H : Hp} {μ : Mu} (s : Sim Z F H μ) {ds : List D} {ps : List PyData} : ∀ {vs : List V}, Shs μ ds ps → Rps K F H ds vs → DpAll K H vs ps
  | _, .nil, r => by cases r; exact .nil
  | _, .cons h t, r => by
    cases r with
    | cons r1 rs => exact .cons (Sh.dp s h r1) (Shs.dp s t rs)
end
def gRepr : GA := fun ds μ R => ∃ d p, ds = [d] ∧ Sh μ d p ∧ ShowOk p ∧ R (.str p.shown) μ
theorem c_repr {X : Cx} {Z : Zn X.kn} {k : Nat} (hr : RoomG k X.A) : CallL X Z (.builtin "repr") gRepr := ⟨_, call_repr hr, fun F H μ ds vs R Q s rs q kk => by
  obtain ⟨d, p, rfl, sh, ok, q⟩ := q
  obtain ⟨v, rfl, r⟩ := one_of rs
  exact ⟨v, p, rfl, sh.dp s r, ok, kk F _ H _ μ (Step.refl s) (.str _) q⟩⟩
/-! ### == of data -/
section
variable {X : Cx} {Z : Zn X.kn}
def gEqD : G2 := fun x y μ R => ∃ d e, Sh μ x d ∧ Sh μ y e ∧ SeqAt.shaped d = true ∧ SeqAt.shaped e = true ∧ R (.bl (PyData.eqv d e)) μ
def gNeD : G2 := fun x y μ R => ∃ d e, Sh μ x d ∧ Sh μ y e ∧ SeqAt.shaped d = true ∧ SeqAt.shaped e = true ∧ R (.bl (!PyData.eqv d e)) μ
theorem o_eqD {k : Nat} (hr : RoomG k X.A) : OpL X Z (compareOp .Eq) gEqD := ⟨_, op_eqD (by have := hr.rm.un; omega), fun F H μ x y vx vy R Q s rx ry q kk => by
  obtain ⟨d, e, h1, h2, h3, h4, q⟩ := q
  exact ⟨d, e, h1.dp s rx, h2.dp s ry, h3, h4, kk F _ H _ μ (Step.refl s) (.bl _) q⟩⟩
theorem o_neD {k : Nat} (hr : RoomG k X.A) : OpL X Z (compareOp .NotEq) gNeD := ⟨_, op_neD (by have := hr.rm.un; omega), fun F H μ x y vx vy R Q s rx ry q kk => by
  obtain ⟨d, e, h1, h2, h3, h4, q⟩ := q
  exact ⟨d, e, h1.dp s rx, h2.dp s ry, h3, h4, kk F _ H _ μ (Step.refl s) (.bl _) q⟩⟩
end
end L3

namespace L3
open PySem PySem.Spec PyProof.Rows L2
section
variable {X : Cx} {Z : Zn X.kn}
/-! ### str, int, abs -/
def gStr : GA := fun ds μ R => match ds with
  | [.int i] => i.natAbs.log2 < 1920 ∧ R (.str (toString i)) μ
  | _ => False
theorem c_str : CallL X Z (.type "str") gStr := ⟨_, call_str_int, fun F H μ ds vs R Q s rs q k => by
  unfold gStr at q
  split at q
  · obtain ⟨v, rfl, r⟩ := one_of rs
    cases r
    exact ⟨_, rfl, q.1, k F _ H _ μ (Step.refl s) (.str _) q.2⟩
  · exact q.elim⟩
def gInt : GA := fun ds μ R => match ds with
  | [.int i] => R (.int i) μ
  | [.bl b] => R (.int (if b then 1 else 0)) μ
  | [.str a] => ∃ n, PySem.intText? a = some n ∧ a.length ≤ 640 ∧ R (.int n) μ
  | _ => False
theorem CallR.or {f : Value} {r r' : List V → Hp → VK → Prop} (h : CallR X f r) (h' : CallR X f r') : CallR X f (fun xs H Q => r xs H Q ∨ r' xs H Q) := fun pins s σ H xs us Q I rs q => q.elim (h pins s σ H xs us Q I rs) (h' pins s σ H xs us Q I rs)
theorem c_int : CallL X Z (.type "int") gInt := ⟨_, CallR.or call_int1 call_int_str, fun F H μ ds vs R Q s rs q k => by
  unfold gInt at q
  split at q
  · obtain ⟨v, rfl, r⟩ := one_of rs
    cases r
    exact .inl (.inl ⟨_, rfl, k F _ H _ μ (Step.refl s) (.int _) q⟩)
  · obtain ⟨v, rfl, r⟩ := one_of rs
    cases r
    exact .inl (.inr ⟨_, rfl, k F _ H _ μ (Step.refl s) (.int _) q⟩)
  · obtain ⟨v, rfl, r⟩ := one_of rs
    cases r
    obtain ⟨n, h1, h2, q⟩ := q
    exact .inr ⟨_, n, rfl, h1, h2, k F _ H _ μ (Step.refl s) (.int _) q⟩
  · exact q.elim⟩
def gAbs : GA := fun ds μ R => match ds with
  | [.int i] => R (.int (if i < 0 then -i else i)) μ
  | _ => False
theorem c_abs : CallL X Z (.builtin "abs") gAbs := ⟨_, call_abs, fun F H μ ds vs R Q s rs q k => by
  unfold gAbs at q
  split at q
  · obtain ⟨v, rfl, r⟩ := one_of rs
    cases r
    exact ⟨_, rfl, k F _ H _ μ (Step.refl s) (.int _) q⟩
  · exact q.elim⟩
/-! ### x.split(y): a new list -/
theorem rps_strs {K : Kn} {F : Addr → Prop} {H : Hp} : ∀ ys : List Str, Rps K F H (ys.map D.str) (ys.map V.str)
  | [] => .nil
  | y :: r => .cons (.str y) (rps_strs r)
def gSplit : GM := fun x ds μ R => match x, ds with
  | .str a, [.str b] => (b.length == 0) = false ∧ a.length + 2 ≤ sizeLine ∧ ∀ q, μ q = none → R (.ref q) (mset μ q (.lst ((Txt.split a b).map D.str)))
  | _, _ => False
theorem m_split : MtL X Z "str.split" "str" gSplit := ⟨_, mt_split, fun F H μ x ds vx vs R Q s rx rs q k => by
  unfold gSplit at q
  split at q
  · rename_i a b
    obtain ⟨v, rfl, r⟩ := one_of rs
    cases r
    cases rx
    refine ⟨_, _, rfl, rfl, q.1, q.2.1, fun p hp => ?_⟩
    have g := s.trkS (o := .lst ((Txt.split a b).map V.str)) (m := .lst ((Txt.split a b).map D.str)) hp fun g' e => ⟨_, e, rps_strs _⟩
    exact k _ _ _ _ _ g (.ref p) (q.2.2 p (s.free hp))
  · exact q.elim⟩
end
end L3
namespace L3
open PySem PySem.Spec PyProof.Rows L2
/-! ### every parameter by its place -/
def allPos (n : Nat) : List Src := (List.range n).map Src.pos
theorem picks_all {α : Type} {z : α} {us ws ds : List α} {n : Nat} (h : us.length = n) : picks z (allPos n) us ws ds = us := by
  subst h
  unfold picks allPos
  rw [List.map_map]
  apply List.ext_getElem?
  intro i
  rw [List.getElem?_map]
  by_cases hi : i < us.length
  · rw [List.getElem?_range hi]
    show some (us.getD i z) = us[i]?
    rw [List.getD_eq_getElem?_getD, List.getElem?_eq_getElem hi]
    rfl
  · rw [List.getElem?_eq_none_iff.mpr (by simpa using hi), List.getElem?_eq_none_iff.mpr (by simpa using hi)]
    rfl
/-! ### `binding` by the written text -/
theorem Def3.bindA {K : PySem.W.Frag} {x qual : Str} {st : Stmt} {f : Addr} {fd : FuncData} {ps : List Str} {kwd : List (Str × V)} (F : Def3 K x qual st [] kwd f fd) (n : Nat) (hl : ps.length = n)
    (h : ∀ (kV doc pm : Value) (an : Option Addr) (cdv ct : Value) (us : List Value), us.length = n → bindArgs (PySem.W.fnOf x qual (defArgs st) (defBody st) (defScope st) .none kV doc pm an cdv ct) ⟨us, []⟩ = pure (ps.zip us)) : Bd3 K fd ps n [] (allPos n) [] :=
  F.bind0 n [] (allPos n) (by simp [allPos, hl]) fun kV doc pm an cdv ct us ws h1 h2 => by
    rw [picks_all h1]
    exact h kV doc pm an cdv ct us h1
theorem def_mk {K : PySem.W.Frag} {x qual : Str} {st : Stmt} {f : Addr} {oc : Value} {od an : Option Addr} {osl : Array (Option Value)} {dV kV doc pm cdv ct : Value} {dfl : List V} {kwd : List (Str × V)} (l : K.lookup f = some ⟨oc, od, .func (PySem.W.fnOf x qual (defArgs st) (defBody st) (defScope st) dV kV doc pm an cdv ct), osl⟩)
    (c : PySem.W.codeIn K cdv qual = true) (k : PySem.W.keepIn K (.ref f) = true) (hd : DflV K dV dfl) (hk : KwdV K kV kwd) : Def3 K x qual st dfl kwd f (PySem.W.fnOf x qual (defArgs st) (defBody st) (defScope st) dV kV doc pm an cdv ct) := ⟨⟨oc, od, dV, kV, doc, pm, an, cdv, ct, osl, rfl, l, c, hd, hk⟩, k⟩
theorem dfl0 {K : PySem.W.Frag} : DflV K .none [] := .inl ⟨rfl, rfl⟩
theorem kwd0 {K : PySem.W.Frag} {kV : Value} : KwdV K kV [] := .inl rfl
theorem kwd1 {K : PySem.W.Frag} {kD : Addr} {kwd : List (Str × V)} (h : ∀ q ∈ kwd, ∃ u, PySem.W.nsIn K kD q.1 = some (some u) ∧ RelV q.2 u) : KwdV K (.ref kD) kwd := .inr ⟨kD, rfl, h⟩
end L3

namespace L3
open PySem PySem.Spec PyProof.Rows L2
/-! ### what a callee's promise lets a caller wish -/
structure Lft (X : Cx) (Z : Zn X.kn) (X0 : CXT) (n : Nat) (sp : Sp3) (lsp : Sp) (E : XK) : Prop where
  pass : Passes X0 X E
  go : ∀ F H μ ds vs (R : DK) (Q : VK), ds.length = n → Sim Z F H μ → Rps X.kn F H ds vs → sp ds μ R → (∀ F' v H' d μ', Step Z F H μ F' H' μ' → Rp X.kn F' H' d v → R d μ' → Q v H') → lsp vs H Q E
theorem lf0 {X : Cx} {Z : Zn X.kn} {n : Nat} {sp : Sp3} : Lft X Z CX0 n sp (lift X.kn n sp) E0 :=
  ⟨pass0, fun F H μ ds vs R Q l s r h k => ⟨F, ds, μ, R, l, s.up, r, h, fun F' v H' d μ' g => k F' v H' d μ' (g.on s)⟩⟩
/-! ### calls -/
def K3 (X : Cx) (Z : Zn X.kn) (kws : List Keyword) (t : TA3) : Prop := PK X kws (lowA Z t)
theorem _root_.L2.PK.imp {X : Cx} {e : List Keyword} {t t' : TA} (h : PK X e t) (i : ∀ σ H Q, t' σ H Q → t σ H Q) : PK X e t' := ⟨fun p pins s σ H Q I q => h.run p pins s σ H Q I (i _ _ _ q)⟩
/-- x called with n values and the keywords ks -/
structure Cal3 (P : Program) (w : World) (K : PySem.W.Frag) (mg : Str → Option Value) (base : Heap) (X0 : CXT) (k : Nat) (x : Str) (n : Nat) (ks : List Str) (os : List Src) (dfl : List D) (np : Nat) (lsp : Sp) : Prop where
  ex : ∃ (f : Addr) (fd : FuncData) (ps : List Str), mg x = some (.ref f) ∧ PySem.W.keepIn K (.ref f) = true ∧ Bd3 K fd ps n ks os (dfl.map flV) ∧ FnG P w K mg base X0 k f fd ps lsp
  fl : dfl.all flatD = true
  np : os.length = np
def vCal (n m : Nat) (os : List Src) (dfl : List D) (sp : Sp3) (tr tk : TA3) : TE3 := fun δ μ R => tr δ μ fun ds μ1 => tk δ μ1 fun zs μ2 => ds.length = n ∧ zs.length = m ∧ sp (picks .non os ds zs dfl) μ2 R
/-- what is known behind a list of arguments -/
def Got {K : Kn} (Z : Zn K) (F : Addr → Prop) (H : Hp) (μ : Mu) (R : List D → Mu → Prop) (vs : List V) (H1 : Hp) : Prop := ∃ F1 ds μ1, Step Z F H μ F1 H1 μ1 ∧ Rps K F1 H1 ds vs ∧ R ds μ1
theorem got {K : Kn} {Z : Zn K} {F : Addr → Prop} {H : Hp} {μ : Mu} {R : List D → Mu → Prop} {σ : L2.St} {δ : St3} {t : TA3} (sm : Sim Z F H μ) (sl : Sl K F H σ δ) (h : t δ μ R) : lowA Z t σ H (Got Z F H μ R) :=
  ⟨F, δ, μ, R, sm, sl, h, fun F1 vs H1 ds μ1 g r1 q1 => ⟨F1, ds, μ1, g, r1, q1⟩⟩
section
variable {X : Cx} {Z : Zn X.kn} {X0 : CXT} {e o : Expr} {es : List Expr} {kws : List Keyword} {tr tk : TA3} {te to : TE3} {x : Str} {p pos : Pos} {k n np : Nat} {ks : List Str} {os : List Src} {dfl : List D} {sp : Sp3} {lsp : Sp} {E : XK} {j : Nat}
theorem k_nil : K3 X Z [] vNil := pk_nil.imp fun σ H Q h => by
  obtain ⟨F, δ, μ, R, s, sl, h, kk⟩ := h
  exact kk F [] H [] μ (Step.refl s) .nil h
theorem k_cons {nm : Option Str} {kpos : Pos} (ha : E3 X Z e te) (hr : K3 X Z kws tk) : K3 X Z (⟨nm, e, kpos⟩ :: kws) (vCons te tk) := (pk_cons ha hr).imp fun _ _ _ h => low_cons h
theorem run_cal {pins : List (Addr × Obj)} {σ : L2.St} {H : Hp} {s : Shared} {Q : VK} {us ws : List Value} {f : Addr} {fd : FuncData} {ps : List Str} {vs zs : List V} {F : Addr → Prop} {μ : Mu} {ds es : List D} {R : DK} (L : Lft X Z X0 np sp lsp E)
    (hb : Bd3 X.K fd ps n ks os (dfl.map flV)) (fl : dfl.all flatD = true) (hnp : os.length = np) (G : FnG X.prog X.w X.K X.mg X.base X0 k f fd ps lsp) (hr : RoomG k X.A) (I : Inv X pins σ H s) (r1 : Vals vs us) (r2 : Vals zs ws)
    (sm : Sim Z F H μ) (q1 : Rps X.kn F H ds vs) (q2 : Rps X.kn F H es zs) (l1 : ds.length = n) (l2 : es.length = ks.length) (hsp : sp (picks .non os ds es dfl) μ R)
    (kk : ∀ F' v H' d μ', Step Z F H μ F' H' μ' → Rp X.kn F' H' d v → R d μ' → Q v H') : wpAny (model X.prog X.w) X.A (call (.ref f) us (ks.zip ws)) (EP X pins σ Q) X.xe s := by
  obtain ⟨hl, dv, rd, hb⟩ := hb
  refine run_g G hr L.pass I (hb s us ws I.kIn (by rw [← r1.length, ← q1.length, l1]) (by rw [← r2.length, ← q2.length, l2])) (vals_picks r1 r2 rd os) ?_
  exact L.go F H μ _ _ R Q (by rw [← hnp]; exact List.length_map _) sm (rps_picks q1 q2 (flV_ok fl) os) hsp kk
/-- f(e, ..) -/
theorem e_calP (L : Lft X Z X0 np sp lsp E) (c : Cal3 X.prog X.w X.K X.mg X.base X0 k x n [] os dfl np lsp) (hr : RoomG j X.A) (ha : A3 X Z (e :: es) tr) (hk : k ≤ j := by decide) (hg : Gl X x := by rfl) (hd : (x == ("__debug__" : Str)) = false := by decide)
    (he : starEach (e :: es) X.env = (false, eval e X.env) :: starEach es X.env := by rfl) (hpl : (backTo pos (starEach es X.env)).any (·.1) = false := by rfl) : E3 X Z (.Call (.Name x p) (e :: es) [] pos) (vCal n 0 os dfl sp tr vNil) := by
  obtain ⟨f, fd, ps, hm, kp, hb, G⟩ := c.ex
  refine ⟨fun pins s σ H Q I h => ?_⟩
  refine wpAny_Call_Name_kw (ld_glob I hg hm ?_ hd)
  obtain ⟨F, δ, μ, R, sm, sl, h, kk⟩ := h
  refine PySem.W.callWith_K (h₀ := X.base) I.ok.mod.kin kp (thn (ha.run pos pins s σ H _ I (got sm sl h))
    fun us s1 ⟨vs, H1, I1, r, F1, ds, μ1, g, r1, q1⟩ => ⟨I1.kIn, ?_⟩) he hpl
  exact run_cal (us := us) (ws := []) (ks := []) L hb c.fl c.np G (hr.mono hk) I1 r .nil g.sim r1 .nil q1.1 rfl q1.2.2 fun F2 v H2 d μ2 g2 r2 q2 => kk F2 v H2 d μ2 (g.trans g2) r2 q2
/-- f() -/
theorem e_cal0 (L : Lft X Z X0 np sp lsp E) (c : Cal3 X.prog X.w X.K X.mg X.base X0 k x n [] os dfl np lsp) (hr : RoomG j X.A) (hk : k ≤ j := by decide) (hg : Gl X x := by rfl) (hd : (x == ("__debug__" : Str)) = false := by decide) : E3 X Z (.Call (.Name x p) [] [] pos) (vCal n 0 os dfl sp vNil vNil) := by
  obtain ⟨f, fd, ps, hm, kp, hb, G⟩ := c.ex
  refine ⟨fun pins s σ H Q I h => ?_⟩
  refine wpAny_Call_Name_kw (ld_glob I hg hm ?_ hd)
  obtain ⟨F, δ, μ, R, sm, sl, h, kk⟩ := h
  exact PySem.W.callWith_K0 I.kIn kp (run_cal (us := []) (ws := []) (ks := []) L hb c.fl c.np G (hr.mono hk) I .nil .nil sm .nil .nil h.1 rfl h.2.2 kk)
/-- f(e, .., k = v, ..) -/
theorem e_calK {m : Nat} (L : Lft X Z X0 np sp lsp E) (c : Cal3 X.prog X.w X.K X.mg X.base X0 k x n ks os dfl np lsp) (hr : RoomG j X.A) (ha : A3 X Z (e :: es) tr) (hkw : K3 X Z kws tk) (hk : k ≤ j := by decide) (hg : Gl X x := by rfl) (hd : (x == ("__debug__" : Str)) = false := by decide)
    (hall : (backToKw pos (keywordEach kws X.env)).all (·.1.isSome) = true := by rfl) (hks : (backToKw pos (keywordEach kws X.env)).filterMap (·.1) = ks := by rfl)
    (he : starEach (e :: es) X.env = (false, eval e X.env) :: starEach es X.env := by rfl)
    (hpl : ((backTo pos (starEach (e :: es) X.env)).any (·.1) || (backToKw pos (keywordEach kws X.env)).any (·.1.isNone)) = false := by rfl) (hm : ks.length = m := by rfl) : E3 X Z (.Call (.Name x p) (e :: es) kws pos) (vCal n m os dfl sp tr tk) := by
  subst hm
  obtain ⟨f, fd, ps, hm, kp, hb, G⟩ := c.ex
  refine ⟨fun pins s σ H Q I h => ?_⟩
  refine wpAny_Call_Name_kw (ld_glob I hg hm ?_ hd)
  obtain ⟨F, δ, μ, R, sm, sl, h, kk⟩ := h
  refine PySem.W.callWith_KW (h₀ := X.base) I.ok.mod.kin kp hall (thn (ha.run pos pins s σ H _ I (got sm sl h))
    fun us s1 ⟨vs, H1, I1, r, F1, ds, μ1, g, r1, q1⟩ => ?_) hpl he
  refine thn (hkw.run pos pins s1 σ H1 _ I1 (got g.sim (sl.st g) q1))
    fun ws s2 ⟨zs, H2, I2, rz, F2, ds2, μ2, g2, r2, q2⟩ => ⟨I2.kIn, ?_⟩
  rw [hks]
  exact run_cal L hb c.fl c.np G (hr.mono hk) I2 r rz g2.sim (r1.st g2) r2 q2.1 q2.2.1 q2.2.2 fun F3 v H3 d μ3 g3 r3 q3 => kk F3 v H3 d μ3 ((g.trans g2).trans g3) r3 q3
theorem vCal_all {n : Nat} {sp : Sp3} {tr : TA3} : vCal n 0 (allPos n) [] sp tr vNil = vCall n sp tr := by
  funext δ μ R
  unfold vCall vCal vNil
  congr 1
  funext ds μ1
  apply propext
  constructor
  · intro ⟨h1, _, h2⟩; rw [picks_all h1] at h2; exact ⟨h1, h2⟩
  · intro ⟨h1, h2⟩; exact ⟨h1, rfl, by rw [picks_all h1]; exact h2⟩
theorem e_cal (L : Lft X Z X0 n sp lsp E) (c : Cal3 X.prog X.w X.K X.mg X.base X0 k x n [] (allPos n) [] n lsp) (hr : RoomG j X.A) (ha : A3 X Z (e :: es) tr) (hk : k ≤ j := by decide) (hg : Gl X x := by rfl) (hd : (x == ("__debug__" : Str)) = false := by decide)
    (he : starEach (e :: es) X.env = (false, eval e X.env) :: starEach es X.env := by rfl) (hpl : (backTo pos (starEach es X.env)).any (·.1) = false := by rfl) : E3 X Z (.Call (.Name x p) (e :: es) [] pos) (vCall n sp tr) := by
  have h : E3 X Z (.Call (.Name x p) (e :: es) [] pos) (vCal n 0 (allPos n) [] sp tr vNil) := e_calP L c hr ha hk hg hd he hpl
  rw [vCal_all] at h
  exact h
end
end L3

namespace L3
open PySem PySem.Spec PyProof.Rows L2
/-! ### instances -/
def insOf (μ : Mu) (n : Str) : D → Option (List (Str × D))
  | .obj m fs => if m = n then some fs else none
  | .ref a => match μ a with
    | some (.ins m fs) => if m = n then some fs else none
    | _ => none
  | _ => none
theorem ins_of {K : Kn} {F : Addr → Prop} {H : Hp} {μ : Mu} {x : D} {v : V} {n : Str} {fs : List (Str × D)} (s : Sim0 K F H μ) (r : Rp K F H x v) (h : insOf μ n x = some fs) : ∃ C a dx gs, v = .ref a ∧ clsA K n C ∧ H a = some (.ins C dx gs) ∧ Rpf K F H fs gs := by
  cases r with
  | @obj n' C' fs' gs' a' dx' c f e rs =>
    have h' : (if n' = n then some fs' else none) = some fs := h
    split at h'
    · rename_i z
      cases h'
      subst z
      exact ⟨_, _, _, _, rfl, c, e, rs⟩
    · cases h'
  | ref a =>
    have h' : (match μ a with
      | some (.ins m fs) => if m = n then some fs else none
      | _ => none) = some fs := h
    split at h'
    · rename_i m gs e2
      split at h'
      · rename_i z
        cases h'
        subst z
        obtain ⟨_, C, dx, vs, c, e3, rs⟩ := s.obj _ _ e2
        exact ⟨C, _, dx, vs, rfl, c, e3, rs⟩
      · cases h'
    · cases h'
  | _ => cases h
section
variable {K : Kn} {F : Addr → Prop} {H : Hp}
theorem Rpf.length : ∀ {ds : List (Str × D)} {vs : List (Str × V)}, Rpf K F H ds vs → ds.length = vs.length
  | _, _, .nil => rfl
  | _, _, .cons _ t => by rw [List.length_cons, List.length_cons, Rpf.length t]
theorem Rpf.val {k : Str} : ∀ {ds : List (Str × D)} {vs : List (Str × V)}, Rpf K F H ds vs → (∀ d, ds.lookup k = some d → ∃ v, vs.lookup k = some v ∧ Rp K F H d v) ∧ (ds.lookup k = none → vs.lookup k = none)
  | _, _, .nil => ⟨fun d h => (by cases h), fun _ => rfl⟩
  | _, _, .cons (f := k') (d := d') (v := v') (ds := ds') (vs := vs') r t => by
    have ih := Rpf.val (k := k) t
    cases hb : (k == k') with
    | true =>
      have e1 : List.lookup k ((k', d') :: ds') = some d' := by simp only [List.lookup, hb]
      have e2 : List.lookup k ((k', v') :: vs') = some v' := by simp only [List.lookup, hb]
      rw [e1, e2]
      exact ⟨fun d h => (by cases h; exact ⟨v', rfl, r⟩), fun h => (by cases h)⟩
    | false =>
      have e1 : List.lookup k ((k', d') :: ds') = List.lookup k ds' := by simp only [List.lookup, hb]
      have e2 : List.lookup k ((k', v') :: vs') = List.lookup k vs' := by simp only [List.lookup, hb]
      rw [e1, e2]
      exact ih
def putFD (f : Str) (v : D) : List (Str × D) → List (Str × D)
  | [] => [(f, v)]
  | (g, x) :: r => if g = f then (g, v) :: r else (g, x) :: putFD f v r
theorem Rpf.put {f : Str} {d : D} {v : V} (h : Rp K F H d v) : ∀ {ds : List (Str × D)} {vs : List (Str × V)}, Rpf K F H ds vs → Rpf K F H (putFD f d ds) (putF f v vs)
  | _, _, .nil => .cons h .nil
  | _, _, .cons (f := g) r t => by
    show Rpf K F H (if g = f then _ else _) (if g = f then _ else _)
    by_cases e : g = f
    · rw [if_pos e, if_pos e]; exact .cons h t
    · rw [if_neg e, if_neg e]; exact .cons r (Rpf.put h t)
end
/-- what is known of a class of the program -/
structure ClsK (K : PySem.W.Frag) (n : Str) (C : Addr) : Prop where
  at_ : PySem.W.nsIn K mainGlobals n = some (some (.ref C))
  cl : Cls K C
  kp : PySem.W.keepIn K (.ref C) = true
  ty : ((PySem.W.clsIn K C).isSome && PySem.W.typeIn K (.ref C) == some (.type "type")) = true
  ca : PySem.W.findIn K (.ref C) "__class__" = some (some (.builtin "object.__class__"))
  cg : PySem.W.specialIn K (.builtin "object.__class__") "__get__" = some (some (.builtin "getset_descriptor.__get__"))
  ct : PySem.W.takesIn K (.builtin "object.__class__") = some true
  cm : PySem.W.mroIn K C (.type "object") = some true
/-- a class of the program by its name -/
structure Cl3 (K : PySem.W.Frag) (mg : Str → Option Value) (n : Str) : Prop where
  ex : ∃ C, ClsK K n C ∧ mg n = some (.ref C)
/-- a field of a class of the program: no attribute of the class -/
structure Fl3 (K : PySem.W.Frag) (n f : Str) : Prop where
  ex : ∃ C, PySem.W.nsIn K mainGlobals n = some (some (.ref C)) ∧ Cls K C ∧ NoAttr K C f
theorem Fl3.of {K : Kn} {n f : Str} {C : Addr} (h : Fl3 K.K n f) (c : clsA K n C) : Cls K.K C ∧ NoAttr K.K C f := by
  obtain ⟨C', e, a, b⟩ := h.ex
  obtain rfl := clsA.inj (K := K) (show clsA K n C' from e) c
  exact ⟨a, b⟩
section
variable {X : Cx} {Z : Zn X.kn} {X0 : CXT} {e o : Expr} {es : List Expr} {kws : List Keyword} {tr tk : TA3} {te to : TE3} {x : Str} {p pos apos : Pos} {k np : Nat} {ks : List Str} {os : List Src} {dfl : List D} {sp : Sp3} {lsp : Sp} {E : XK} {j : Nat} {n f m : Str}
/-- e.f -/
def vFld (n f : Str) (te : TE3) : TE3 := fun δ μ R => te δ μ fun x μ1 => ∃ fs d, insOf μ1 n x = some fs ∧ fs.lookup f = some d ∧ R d μ1
theorem e_fld (T : Fl3 X.K n f) (he : E3 X Z e te) (hb : attributeBase e f X.env (eval e X.env) = eval e X.env := by rfl) : E3 X Z (.Attribute e f pos) (vFld n f te) := (pe_fld he hb).imp fun σ H Q h => by
  obtain ⟨F, δ, μ, R, s, sl, h, k⟩ := h
  refine ⟨F, δ, μ, _, s, sl, h, fun F1 v H1 d μ1 g r1 q1 => ?_⟩
  obtain ⟨fs, y, e1, e2, q1⟩ := q1
  obtain ⟨C, a, dx, gs, rfl, c, e3, rf⟩ := ins_of g.sim.raw r1 e1
  obtain ⟨u, e4, r4⟩ := rf.val.1 y e2
  obtain ⟨t1, t2⟩ := T.of c
  exact ⟨a, C, dx, gs, u, rfl, e3, t1, t2, e4, k F1 u H1 y μ1 g r4 q1⟩
/-- o.f = e -/
def sFld3 (n f : Str) (te to : TE3) : TS3 := fun D δ μ => te δ μ fun d μ1 => to δ μ1 fun x μ2 => ∃ a fs, x = .ref a ∧ μ2 a = some (.ins n fs) ∧ fs.length < 1000 ∧ D.nx δ (mset μ2 a (.ins n (putFD f d fs)))
theorem put_fld {F : Addr → Prop} {H : Hp} {μ : Mu} {a : Addr} {fs : List (Str × D)} {d : D} {v : V} (s : Sim Z F H μ) (h : μ a = some (.ins n fs)) (r : Rp X.kn F H d v) : ∃ C dx gs, clsA X.kn n C ∧ H a = some (.ins C dx gs) ∧ fs.length = gs.length ∧ Step Z F H μ F (upd H a (.ins C dx (putF f v gs))) (mset μ a (.ins n (putFD f d fs))) := by
  obtain ⟨_, C, dx, gs, c, e, rf⟩ := s.obj _ _ h
  exact ⟨C, dx, gs, c, e, rf.length, s.putS h fun g' e' => ⟨C, dx, _, c, e', (rf.grow g').put (r.grow g')⟩⟩
theorem s_fld {pos' : Pos} (T : Fl3 X.K n f) (he : E3 X Z e te) (ho : E3 X Z o to) (hs : swapsWith e (some (.Attribute o f pos')) pos.line X.env = pure false := by rfl) : S3 X Z (.Assign [.Attribute o f pos'] e pos) (sFld3 n f te to) := (ps_fld ho he hs).imp fun D σ H h => by
  obtain ⟨F, δ, μ, D3, s, sl, h, k⟩ := h
  refine ⟨F, δ, μ, _, s, sl, h, fun F1 v H1 d μ1 g r1 q1 => ⟨F1, δ, μ1, _, g.sim, sl.st g, q1, fun F2 u H2 x μ2 g2 r2 q2 => ?_⟩⟩
  obtain ⟨a, fs, rfl, ea, hl, q2⟩ := q2
  cases r2
  obtain ⟨C, dx, gs, c, e3, el, g3⟩ := put_fld (f := f) g2.sim ea (r1.st g2)
  obtain ⟨t1, t2⟩ := T.of c
  exact ⟨a, C, dx, gs, rfl, e3, t1, t2, by rw [← el]; exact hl, k.nx F2 σ _ δ _ ((g.trans g2).trans g3) (sl.st ((g.trans g2).trans g3)) q2⟩
/-- a class as a value -/
theorem e_gcls (T : Cl3 X.K X.mg x) (hg : Gl X x := by rfl) (hd : (x == ("__debug__" : Str)) = false := by decide) : E3 X Z (.Name x pos) (vC (.cls x)) := by
  obtain ⟨C, c, hm⟩ := T.ex
  exact (pe_glob (v := .ref C) hg hm rfl hd).imp fun _ _ _ h => lowC (v := .ref C) (fun _ _ => .cls (show clsA X.kn x C from c.at_)) h
/-! isinstance of own classes, and of several built-in types -/
/-- x is an instance of n, of no class, .. -/
def ownD (μ : Mu) : D → Option (Option Str)
  | .non => some none | .bl _ => some none | .int _ => some none | .str _ => some none
  | .tup _ => some none | .lst _ => some none | .dct _ => some none
  | .obj n _ => some (some n)
  | .ref a => match μ a with
    | some (.lst _) => some none
    | some (.dct _) => some none
    | some (.ins n _) => some (some n)
    | _ => none
  | _ => none
theorem bt_own {K : PySem.W.Frag} {T : String} {l : List Value} (C : Addr) (h : PySem.fastBuiltinMro T = some l) (h2 : (l.all fun v => match v with
    | .type _ => true
    | _ => false) = true) (ty : ((PySem.W.clsIn K C).isSome && PySem.W.typeIn K (.ref C) == some (.type "type")) = true) : PySem.W.kitOne K (.type T) (.ref C) = some false := by
  unfold PySem.W.kitOne PySem.W.kitCls
  rw [if_neg (by intro z; exact absurd (beq_iff_eq.mp z) (by intro q; cases q))]
  simp only [ty, if_true]
  show Option.map (fun x => x.contains (Value.ref C)) (PySem.fastBuiltinMro T) = some false
  rw [h, Option.map_some]
  congr 1
  cases hc : l.contains (Value.ref C) with
  | false => rfl
  | true =>
    rw [List.contains_iff_mem] at hc
    have := List.all_eq_true.mp h2 _ hc
    cases this
/-- two classes of the program, neither over the other -/
structure Ap3 (K : PySem.W.Frag) (n m : Str) : Prop where
  ex : ∃ C C', ClsK K n C ∧ PySem.W.nsIn K mainGlobals m = some (some (.ref C')) ∧ PySem.W.kitOne K (.ref C) (.ref C') = some false
def gIsC (m : Str) (ns : List Str) : GA := fun ds μ R => ∃ x y, ds = [x, .cls m] ∧ ownD μ x = some y ∧ (∀ n, y = some n → n = m ∨ n ∈ ns) ∧ R (.bl (decide (y = some m))) μ
theorem c_isC {ns : List Str} (T : Cl3 X.K X.mg m) (hns : ∀ n ∈ ns, Ap3 X.K n m) : CallL X Z (.builtin "isinstance") (gIsC m ns) := ⟨_, call_isi, fun F H μ ds vs R Q s rs q k => by
  obtain ⟨x, y, rfl, e1, hy, q⟩ := q
  obtain ⟨C, c, hm⟩ := T.ex
  cases rs with
  | cons r1 t => cases t with
    | cons r2 t =>
      cases t
      cases r2 with
      | @cls _ C9 cc =>
      obtain rfl : C = C9 := (clsA.inj (K := X.kn) cc c.at_).symm
      have bt : ∀ {T : String} {l : List Value} {v : V}, y = none → PySem.fastBuiltinMro T = some l → (l.all fun v => match v with
          | .type _ => true
          | _ => false) = true → TyX X.K H v (.type T) → rIsi X.K [v, .ref C] H Q := fun {T l v} hz h1 h2 h3 => by
        subst hz
        exact ⟨v, _, _, _, false, rfl, .own C, h3, bt_own C h1 h2 c.ty, k F _ H _ μ (Step.refl s) (.bl _) q⟩
      have bo : ∀ {a C2 dx : Addr} {gs : List (Str × V)} {n : Str}, y = some n → clsA X.kn n C2 → H a = some (.ins C2 dx gs) → rIsi X.K [.ref a, .ref C] H Q := fun {a C2 dx gs n} hz h1 h2 => by
        subst hz
        by_cases z : n = m
        · subst z
          obtain rfl : C = C2 := (clsA.inj (K := X.kn) h1 c.at_).symm
          refine ⟨_, _, _, _, true, rfl, .own C, .base (.ins h2 c.cl c.ca c.cg c.ct c.cm), ?_, ?_⟩
          · unfold PySem.W.kitOne
            rw [if_pos (beq_self_eq_true _)]
          · have := k F (.bl true) H (.bl true) μ (Step.refl s) (.bl _)
            simp only [decide_true] at q
            exact this q
        · obtain ⟨C3, C', c2, c3, e3⟩ := (hns n ((hy n rfl).resolve_left z)).ex
          obtain rfl : C2 = C3 := (clsA.inj (K := X.kn) c2.at_ h1).symm
          obtain rfl : C = C' := (clsA.inj (K := X.kn) c3 c.at_).symm
          refine ⟨_, _, _, _, false, rfl,   .own C, .base (.ins h2 c2.cl c2.ca c2.cg c2.ct c2.cm), e3, ?_⟩
          have : decide (some n = some m) = false := decide_eq_false fun q => z (Option.some.inj q)
          rw [this] at q
          exact k F (.bl false) H (.bl false) μ (Step.refl s) (.bl _) q
      cases r1 with
      | non => cases e1; exact bt rfl (T := "NoneType") rfl (by decide +kernel) (.base .non)
      | bl b => cases e1; exact bt rfl (T := "bool") rfl (by decide +kernel) (.base (.bl b))
      | int b => cases e1; exact bt rfl (T := "int") rfl (by decide +kernel) (.base (.int b))
      | str b => cases e1; exact bt rfl (T := "str") rfl (by decide +kernel) (.base (.str b))
      | tup f e rs => cases e1; exact bt rfl (T := "tuple") rfl (by decide +kernel) (.base (.tup e))
      | lst f e rs => cases e1; exact bt rfl (T := "list") rfl (by decide +kernel) (.base (.lst e))
      | dct f e rs =>
        cases e1
        rcases e with e | ⟨o, e⟩
        · exact bt rfl (T := "dict") rfl (by decide +kernel) (.base (.dK e))
        · exact bt rfl (T := "dict") rfl (by decide +kernel) (.fDict e)
      | obj c f e rs => cases e1; exact bo rfl c e
      | ref a =>
        have h' : (match μ a with
          | some (.lst _) => some none
          | some (.dct _) => some none
          | some (.ins n _) => some (some n)
          | _ => none) = some y := e1
        split at h'
        · rename_i xs e2
          cases h'
          obtain ⟨_, vs, e3, rs⟩ := s.obj _ _ e2
          exact bt rfl (T := "list") rfl (by decide +kernel) (.base (.lst e3))
        · rename_i xs e2
          cases h'
          obtain ⟨_, vs, e3, rs⟩ := s.obj _ _ e2
          exact bt rfl (T := "dict") rfl (by decide +kernel) (.base (.dK e3))
        · rename_i xs n e2
          cases h'
          obtain ⟨_, C2, dx, gs, c2, e3, rs⟩ := s.obj _ _ e2
          exact bo rfl c2 e3
        · cases h'
      | _ => cases e1⟩
/-! ### methods -/
/-- o.m called with cnt values and the keywords ks, o an instance of n -/
structure Met3 (P : Program) (w : World) (K : PySem.W.Frag) (mg : Str → Option Value) (base : Heap) (X0 : CXT) (k : Nat) (n m : Str) (cnt : Nat) (ks : List Str) (os : List Src) (dfl : List D) (np : Nat) (lsp : Sp) : Prop where
  ex : ∃ (C f : Addr) (fd : FuncData) (ps : List Str), PySem.W.nsIn K mainGlobals n = some (some (.ref C)) ∧ Cls K C ∧ Meth K C m f ∧ Bd3 K fd ps (cnt + 1) ks os (dfl.map flV) ∧ FnG P w K mg base X0 k f fd ps lsp
  fl : dfl.all flatD = true
  np : os.length = np
def vMet (n m : Str) (cnt : Nat) (os : List Src) (dfl : List D) (sp : Sp3) (to : TE3) (tr : TA3) : TE3 := fun δ μ R => to δ μ fun x μ1 => ∃ fs, insOf μ1 n x = some fs ∧ fs.lookup m = none ∧ tr δ μ1 fun ds μ2 => ds.length = cnt ∧ sp (picks .non os (x :: ds) [] dfl) μ2 R
def Got1 {K : Kn} (Z : Zn K) (F : Addr → Prop) (H : Hp) (μ : Mu) (R : DK) (v : V) (H1 : Hp) : Prop := ∃ F1 d μ1, Step Z F H μ F1 H1 μ1 ∧ Rp K F1 H1 d v ∧ R d μ1
theorem got1 {K : Kn} {Z : Zn K} {F : Addr → Prop} {H : Hp} {μ : Mu} {R : DK} {σ : L2.St} {δ : St3} {t : TE3} (sm : Sim Z F H μ) (sl : Sl K F H σ δ) (h : t δ μ R) : low Z t σ H (Got1 Z F H μ R) :=
  ⟨F, δ, μ, R, sm, sl, h, fun F1 v H1 d μ1 g r1 q1 => ⟨F1, d, μ1, g, r1, q1⟩⟩
theorem e_met {pl : Sem Bool} {cnt : Nat} (L : Lft X Z X0 np sp lsp E) (c : Met3 X.prog X.w X.K X.mg X.base X0 k n m cnt [] os dfl np lsp) (hr : RoomG j X.A) (ho : E3 X Z o to) (ha : A3 X Z (e :: es) tr) (hk : k ≤ j := by decide)
    (hst : starEach (e :: es) X.env = (false, eval e X.env) :: starEach es X.env := by rfl) (hpl : (backTo pos (starEach es X.env)).any (·.1) = false := by rfl)
    (ht : eval (.Call (.Attribute o m apos) (e :: es) [] pos) X.env = (do
      let ov ← eval o X.env
      standAt apos.atName
      let (f, first) ← holding [ov] (getMethod ov m pl)
      callWith pos f first (backTo pos (starEach (e :: es) X.env)) (backToKw pos (keywordEach [] X.env))) := by rfl) :
    E3 X Z (.Call (.Attribute o m apos) (e :: es) [] pos) (vMet n m cnt os dfl sp to tr) := by
  obtain ⟨C, f, fd, ps, hC, cl, hm, hb, G⟩ := c.ex
  refine ⟨fun pins s σ H Q I h => ?_⟩
  obtain ⟨F, δ, μ, R, sm, sl, h, kk⟩ := h
  refine PySem.W.methodCall_KW (pl := pl) (thn (ho.run pins s σ H _ I (got1 sm sl h)) fun u s1 ⟨v, H1, I1, rx, F1, x, μ1, g, r1, fs, ei, en, q⟩ => ?_) ht
  obtain ⟨C2, a, dx, gs, rfl, c2, ea, rf⟩ := ins_of g.sim.raw r1 ei
  obtain rfl : C = C2 := (clsA.inj (K := X.kn) c2 hC).symm
  obtain rfl : u = Value.ref a := rx
  refine getmeth_ok I1 ea cl hm (rf.val.2 en) ?_
  refine PySem.W.callWith_K (first := [.ref a]) (h₀ := X.base) I.ok.mod.kin hm.kp (thn (ha.run pos pins s1 σ H1 _ I1 (got g.sim (sl.st g) q)) fun us s2 ⟨vs, H2, I2, r, F2, ds, μ2, g2, r2, q2⟩ => ⟨I2.kIn, ?_⟩) hst hpl
  exact run_cal (us := .ref a :: us) (ws := []) (ks := []) (vs := .ref a :: vs) (ds := x :: ds) L hb c.fl c.np G (hr.mono hk) I2 (.cons rfl r) .nil g2.sim (.cons (r1.st g2) r2) .nil (by rw [List.length_cons, q2.1]) rfl q2.2
    fun F3 v H3 d μ3 g3 r3 q3 => kk F3 v H3 d μ3 ((g.trans g2).trans g3) r3 q3
theorem e_met0 {pl : Sem Bool} {cnt : Nat} (L : Lft X Z X0 np sp lsp E) (c : Met3 X.prog X.w X.K X.mg X.base X0 k n m cnt [] os dfl np lsp) (hr : RoomG j X.A) (ho : E3 X Z o to) (hk : k ≤ j := by decide)
    (ht : eval (.Call (.Attribute o m apos) [] [] pos) X.env = (do
      let ov ← eval o X.env
      standAt apos.atName
      let (f, first) ← holding [ov] (getMethod ov m pl)
      callWith pos f first (backTo pos (starEach [] X.env)) (backToKw pos (keywordEach [] X.env))) := by rfl) :
    E3 X Z (.Call (.Attribute o m apos) [] [] pos) (vMet n m cnt os dfl sp to vNil) := by
  obtain ⟨C, f, fd, ps, hC, cl, hm, hb, G⟩ := c.ex
  refine ⟨fun pins s σ H Q I h => ?_⟩
  obtain ⟨F, δ, μ, R, sm, sl, h, kk⟩ := h
  refine PySem.W.methodCall_KW (pl := pl) (thn (ho.run pins s σ H _ I (got1 sm sl h)) fun u s1 ⟨v, H1, I1, rx, F1, x, μ1, g, r1, fs, ei, en, q⟩ => ?_) ht
  obtain ⟨C2, a, dx, gs, rfl, c2, ea, rf⟩ := ins_of g.sim.raw r1 ei
  obtain rfl : C = C2 := (clsA.inj (K := X.kn) c2 hC).symm
  obtain rfl : u = Value.ref a := rx
  refine getmeth_ok I1 ea cl hm (rf.val.2 en) ?_
  exact PySem.W.callWith_K0 (first := [.ref a]) I1.kIn hm.kp (run_cal (us := [.ref a]) (ws := []) (ks := []) (vs := [.ref a]) (ds := [x]) L hb c.fl c.np G (hr.mono hk) I1 (.cons rfl .nil) .nil g.sim (.cons r1 .nil) .nil (by rw [← q.1]; rfl) rfl q.2
    fun F3 v H3 d μ3 g3 r3 q3 => kk F3 v H3 d μ3 (g.trans g3) r3 q3)
/-! ### new instances -/
structure Mak3 (P : Program) (w : World) (K : PySem.W.Frag) (mg : Str → Option Value) (base : Heap) (X0 : CXT) (k : Nat) (n : Str) (cnt : Nat) (ks : List Str) (os : List Src) (dfl : List D) (np : Nat) (lsp : Sp) : Prop where
  ex : ∃ (C f : Addr) (fd : FuncData) (ps : List Str), PySem.W.nsIn K mainGlobals n = some (some (.ref C)) ∧ mg n = some (.ref C) ∧ Mk K C f ∧ Bd3 K fd ps (cnt + 1) ks os (dfl.map flV) ∧ FnG P w K mg base X0 k f fd ps lsp
  fl : dfl.all flatD = true
  np : os.length = np
def vMak (n : Str) (cnt m : Nat) (os : List Src) (dfl : List D) (sp : Sp3) (tr tk : TA3) : TE3 := fun δ μ R => tr δ μ fun ds μ1 => tk δ μ1 fun zs μ2 => ds.length = cnt ∧ zs.length = m ∧
  ∀ q, μ2 q = none → sp (picks .non os (.ref q :: ds) zs dfl) (mset μ2 q (.ins n [])) fun d μ3 => d = .non ∧ fin R (.ref q) μ3
theorem run_mak {pins : List (Addr × Obj)} {σ : L2.St} {H : Hp} {s : Shared} {Q : VK} {us ws : List Value} {C f : Addr} {fd : FuncData} {ps : List Str} {vs zs : List V} {F : Addr → Prop} {μ : Mu} {ds es : List D} {R : DK} {cnt : Nat} (L : Lft X Z X0 np sp lsp E)
    (hC : PySem.W.nsIn X.K mainGlobals n = some (some (.ref C))) (M : Mk X.K C f)
    (hb : Bd3 X.K fd ps (cnt + 1) ks os (dfl.map flV)) (fl : dfl.all flatD = true) (hnp : os.length = np) (G : FnG X.prog X.w X.K X.mg X.base X0 k f fd ps lsp) (hr : RoomG (k + 1) X.A) (I : Inv X pins σ H s) (r1 : Vals vs us) (r2 : Vals zs ws)
    (sm : Sim Z F H μ) (q1 : Rps X.kn F H ds vs) (q2 : Rps X.kn F H es zs) (l1 : ds.length = cnt) (l2 : es.length = ks.length) (hsp : ∀ q, μ q = none → sp (picks .non os (.ref q :: ds) es dfl) (mset μ q (.ins n [])) fun d μ3 => d = .non ∧ fin R (.ref q) μ3)
    (kk : ∀ F' v H' d μ', Step Z F H μ F' H' μ' → Rp X.kn F' H' d v → R d μ' → Q v H') : wpAny (model X.prog X.w) X.A (call (.ref C) us (ks.zip ws)) (EP X pins σ Q) X.xe s := by
  obtain ⟨hl, dv, rd, hb⟩ := hb
  refine run_gmake M G hr L.pass I fun x dx hx hdx ne => ?_
  refine ⟨picks .none os (.ref x :: us) ws dv, picks .non os (.ref x :: vs) zs (dfl.map flV), fun s1 k1 => hb s1 (.ref x :: us) ws k1 (by rw [List.length_cons, ← r1.length, ← q1.length, l1]) (by rw [← r2.length, ← q2.length, l2]), vals_picks (.cons (show RelV (.ref x) (.ref x) from rfl) r1) r2 rd os, ?_⟩
  have g1 := sm.newS (o := .own x) hdx
  have hx1 : upd H dx (.own x) x = none := by rw [upd_ne (Ne.symm ne)]; exact hx
  have g2 := g1.sim.trkS (o := .ins C dx []) (m := .ins n []) hx1 fun g' e => ⟨C, dx, [], hC, e, .nil⟩
  have g := g1.trans g2
  refine L.go F _ _ _ _ (fun d μ3 => d = .non ∧ fin R (.ref x) μ3) _ (by rw [← hnp]; exact List.length_map _) g.sim (rps_picks (.cons (.ref x) (q1.st g)) (q2.st g) (flV_ok fl) os) (hsp x (sm.free hx)) ?_
  rintro F' v H' d μ' g3 r3 ⟨rfl, d', μ4, l4, f4, q4⟩
  cases r3
  refine ⟨rfl, kk _ _ _ d' μ4 ((g.trans g3).trans (g3.sim.dropS l4)) (Rp.gone g3.sim.raw f4 (.ref x)) q4⟩
theorem e_mak {cnt : Nat} (L : Lft X Z X0 np sp lsp E) (c : Mak3 X.prog X.w X.K X.mg X.base X0 k x cnt [] os dfl np lsp) (hr : RoomG j X.A) (ha : A3 X Z (e :: es) tr) (hk : k + 1 ≤ j := by decide) (hg : Gl X x := by rfl) (hd : (x == ("__debug__" : Str)) = false := by decide)
    (he : starEach (e :: es) X.env = (false, eval e X.env) :: starEach es X.env := by rfl) (hpl : (backTo pos (starEach es X.env)).any (·.1) = false := by rfl) : E3 X Z (.Call (.Name x p) (e :: es) [] pos) (vMak x cnt 0 os dfl sp tr vNil) := by
  obtain ⟨C, f, fd, ps, hC, hm, M, hb, G⟩ := c.ex
  refine ⟨fun pins s σ H Q I h => ?_⟩
  refine wpAny_Call_Name_kw (ld_glob I hg hm ?_ hd)
  obtain ⟨F, δ, μ, R, sm, sl, h, kk⟩ := h
  refine PySem.W.callWith_K (h₀ := X.base) I.ok.mod.kin M.kp (thn (ha.run pos pins s σ H _ I (got sm sl h))
    fun us s1 ⟨vs, H1, I1, r, F1, ds, μ1, g, r1, q1⟩ => ⟨I1.kIn, ?_⟩) he hpl
  exact run_mak (us := us) (ws := []) (ks := []) L hC M hb c.fl c.np G (hr.mono hk) I1 r .nil g.sim r1 .nil q1.1 rfl q1.2.2 fun F2 v H2 d μ2 g2 r2 q2 => kk F2 v H2 d μ2 (g.trans g2) r2 q2
theorem e_makK {cnt m : Nat} (L : Lft X Z X0 np sp lsp E) (c : Mak3 X.prog X.w X.K X.mg X.base X0 k x cnt ks os dfl np lsp) (hr : RoomG j X.A) (ha : A3 X Z (e :: es) tr) (hkw : K3 X Z kws tk) (hk : k + 1 ≤ j := by decide) (hg : Gl X x := by rfl) (hd : (x == ("__debug__" : Str)) = false := by decide)
    (hall : (backToKw pos (keywordEach kws X.env)).all (·.1.isSome) = true := by rfl) (hks : (backToKw pos (keywordEach kws X.env)).filterMap (·.1) = ks := by rfl)
    (he : starEach (e :: es) X.env = (false, eval e X.env) :: starEach es X.env := by rfl)
    (hpl : ((backTo pos (starEach (e :: es) X.env)).any (·.1) || (backToKw pos (keywordEach kws X.env)).any (·.1.isNone)) = false := by rfl) (hmm : ks.length = m := by rfl) : E3 X Z (.Call (.Name x p) (e :: es) kws pos) (vMak x cnt m os dfl sp tr tk) := by
  subst hmm
  obtain ⟨C, f, fd, ps, hC, hm, M, hb, G⟩ := c.ex
  refine ⟨fun pins s σ H Q I h => ?_⟩
  refine wpAny_Call_Name_kw (ld_glob I hg hm ?_ hd)
  obtain ⟨F, δ, μ, R, sm, sl, h, kk⟩ := h
  refine PySem.W.callWith_KW (h₀ := X.base) I.ok.mod.kin M.kp hall (thn (ha.run pos pins s σ H _ I (got sm sl h))
    fun us s1 ⟨vs, H1, I1, r, F1, ds, μ1, g, r1, q1⟩ => ?_) hpl he
  refine thn (hkw.run pos pins s1 σ H1 _ I1 (got g.sim (sl.st g) q1))
    fun ws s2 ⟨zs, H2, I2, rz, F2, ds2, μ2, g2, r2, q2⟩ => ⟨I2.kIn, ?_⟩
  rw [hks]
  exact run_mak L hC M hb c.fl c.np G (hr.mono hk) I2 r rz g2.sim (r1.st g2) r2 q2.1 q2.2.1 q2.2.2 fun F3 v H3 d μ3 g3 r3 q3 => kk F3 v H3 d μ3 ((g.trans g2).trans g3) r3 q3
/-- f(k = v, ..) -/
theorem e_calK0 {cnt m : Nat} (L : Lft X Z X0 np sp lsp E) (c : Cal3 X.prog X.w X.K X.mg X.base X0 k x cnt ks os dfl np lsp) (hr : RoomG j X.A) (hkw : K3 X Z kws tk) (hk : k ≤ j := by decide) (hg : Gl X x := by rfl) (hd : (x == ("__debug__" : Str)) = false := by decide)
    (hall : (backToKw pos (keywordEach kws X.env)).all (·.1.isSome) = true := by rfl) (hks : (backToKw pos (keywordEach kws X.env)).filterMap (·.1) = ks := by rfl)
    (hpl : ((backTo pos (starEach [] X.env)).any (·.1) || (backToKw pos (keywordEach kws X.env)).any (·.1.isNone)) = false := by rfl) (hm : ks.length = m := by rfl) : E3 X Z (.Call (.Name x p) [] kws pos) (vCal cnt m os dfl sp vNil tk) := by
  subst hm
  obtain ⟨f, fd, ps, hm, kp, hb, G⟩ := c.ex
  refine ⟨fun pins s σ H Q I h => ?_⟩
  refine wpAny_Call_Name_kw (ld_glob I hg hm ?_ hd)
  obtain ⟨F, δ, μ, R, sm, sl, h, kk⟩ := h
  refine PySem.W.callWith_KW0 (h₀ := X.base) I.ok.mod.kin kp hall ?_ hpl
  refine thn (hkw.run pos pins s σ H _ I (got sm sl h))
    fun ws s2 ⟨zs, H2, I2, rz, F2, ds2, μ2, g2, r2, q2⟩ => ⟨I2.kIn, ?_⟩
  rw [hks]
  exact run_cal (us := []) (vs := []) L hb c.fl c.np G (hr.mono hk) I2 .nil rz g2.sim .nil r2 q2.1 q2.2.1 q2.2.2 fun F3 v H3 d μ3 g3 r3 q3 => kk F3 v H3 d μ3 (g2.trans g3) r3 q3
end
end L3

namespace L3
open PySem PySem.Spec PyProof.Rows L2
/-! ### dicts whose keys are tuples of flat things, by values -/
def valX {β : Type} (xs : List (LK × Addr × β)) (k : LK) : Option β := (xs.find? fun x => decide (x.1 = k)).map (·.2.2)
def putX {β : Type} (xs : List (LK × Addr × β)) (k : LK) (b : Addr) (v : β) : List (LK × Addr × β) :=
  if (valX xs k).isSome then xs.map (fun x => if x.1 = k then (x.1, x.2.1, v) else x) else xs ++ [(k, b, v)]
def PrX (xs : List (LK × Addr × V)) (ys : List (LK × Addr × Value)) : Prop := Paired (fun (p : LK × Addr × V) (q : LK × Addr × Value) => p.1 = q.1 ∧ p.2.1 = q.2.1 ∧ RelV p.2.2 q.2.2) xs ys
theorem PrX.val {xs : List (LK × Addr × V)} {ys : List (LK × Addr × Value)} (r : PrX xs ys) (k : LK) : RelO (valX xs k) ((atKey ys k).map (·.2)) := by
  unfold PrX at r
  induction r with
  | nil => exact True.intro
  | @cons p q ps qs h t ih =>
    obtain ⟨h1, _, h2⟩ := h
    unfold valX atKey at ih ⊢
    rw [List.find?_cons, List.find?_cons]
    by_cases e : p.1 = k
    · have e' : q.1 = k := h1.symm.trans e
      simp only [e, e', decide_true]
      exact h2
    · have e' : ¬ q.1 = k := fun z => e (h1.trans z)
      simp only [e, e', decide_false]
      exact ih
theorem PrX.length {xs : List (LK × Addr × V)} {ys : List (LK × Addr × Value)} (r : PrX xs ys) : xs.length = ys.length := Paired.length r
theorem PrX.keys {xs : List (LK × Addr × V)} {ys : List (LK × Addr × Value)} (r : PrX xs ys) : xs.map (·.1) = ys.map (·.1) := by
  unfold PrX at r
  induction r with
  | nil => rfl
  | cons h t ih => rw [List.map_cons, List.map_cons, ih, h.1]
theorem PrX.upd {xs : List (LK × Addr × V)} {ys : List (LK × Addr × Value)} (r : PrX xs ys) (k : LK) {v : V} {u : Value} (rv : RelV v u) : PrX (xs.map fun x => if x.1 = k then (x.1, x.2.1, v) else x) (ys.map (putAt k u)) := by
  unfold PrX at r ⊢
  induction r with
  | nil => exact .nil
  | @cons p q ps qs h t ih =>
    rw [List.map_cons, List.map_cons]
    refine .cons ?_ ih
    obtain ⟨h1, h2, h3⟩ := h
    unfold putAt
    by_cases e : p.1 = k
    · rw [if_pos e, if_pos (h1.symm.trans e)]; exact ⟨h1, h2, rv⟩
    · rw [if_neg e, if_neg fun z => e (h1.trans z)]; exact ⟨h1, h2, h3⟩
theorem PrX.put {xs : List (LK × Addr × V)} {ys : List (LK × Addr × Value)} (r : PrX xs ys) (k : LK) (b : Addr) {v : V} {u : Value} (rv : RelV v u) : PrX (putX xs k b v) (storedH ys k b u) := by
  have e : (valX xs k).isSome = (atKey ys k).isSome := by rw [(r.val k).isSome_eq, Option.isSome_map]
  unfold putX storedH
  rw [e]
  by_cases q : (atKey ys k).isSome = true
  · rw [if_pos q, if_pos q]; exact r.upd k rv
  · rw [if_neg q, if_neg q]; exact Paired.snoc r ⟨rfl, rfl, rv⟩
theorem valX_none {xs : List (LK × Addr × V)} {k : LK} (h : valX xs k = none) : k ∉ xs.map (·.1) := by
  intro hm
  obtain ⟨x, hx, rfl⟩ := List.mem_map.mp hm
  unfold valX at h
  rw [Option.map_eq_none_iff, List.find?_eq_none] at h
  exact h x hx (decide_eq_true rfl)
theorem putX_keys {xs : List (LK × Addr × V)} {k : LK} {b : Addr} {v : V} (n : (xs.map (·.1)).Nodup) : ((putX xs k b v).map (·.1)).Nodup := by
  unfold putX
  split
  · rename_i h
    have : (xs.map fun x => if x.1 = k then (x.1, x.2.1, v) else x).map (·.1) = xs.map (·.1) := by
      rw [List.map_map]
      apply List.map_congr_left
      intro x _
      show (if x.1 = k then (x.1, x.2.1, v) else x).1 = x.1
      split <;> rfl
    rw [this]
    exact n
  · rename_i h
    rw [List.map_append, List.nodup_append]
    refine ⟨n, by simp, fun a ha c hc e => ?_⟩
    have hn : valX xs k = none := by cases q : valX xs k with | none => rfl | some _ => rw [q] at h; exact (h rfl).elim
    simp at hc
    subst e hc
    exact valX_none hn ha
theorem putX_mem {xs : List (LK × Addr × V)} {k : LK} {b : Addr} {v : V} {P : LK → Addr → Prop} (h : ∀ p ∈ xs, P p.1 p.2.1) (hk : P k b) : ∀ p ∈ putX xs k b v, P p.1 p.2.1 := by
  unfold putX
  intro p hp
  split at hp
  · obtain ⟨x, hx, rfl⟩ := List.mem_map.mp hp
    have := h x hx
    split <;> exact this
  · rcases List.mem_append.mp hp with hp | hp
    · exact h p hp
    · rw [List.mem_singleton.mp hp]; exact hk
theorem putX_length {xs : List (LK × Addr × V)} {k : LK} {b : Addr} {v : V} : (putX xs k b v).length ≤ xs.length + 1 := by
  unfold putX
  split <;> simp
/-- leaves as keys -/
theorem leaf_is {P : Program} {w : World} {k : Leaf} {u : Value} (r : RelV (leafV k) u) : (leafKind P w).is k u = true := by
  cases k with
  | none => cases (show u = Value.none from r); rfl
  | num i => obtain ⟨t, rfl⟩ := (show ∃ t, u = Value.int i t from r); exact decide_eq_true rfl
  | text x => obtain ⟨t, rfl⟩ := (show ∃ t, u = Value.str x t from r); show Value.isStrOf x (.str x t) = true; simp [Value.isStrOf, Value.isStr]
theorem leaf_items {P : Program} {w : World} : ∀ {ks : List Leaf} {us : List Value}, Vals (ks.map leafV) us → ItemsAre (leafKind P w) ks us
  | [], _, r => by rw [List.map_nil] at r; cases r; exact .nil
  | k :: ks, _, r => by
    rw [List.map_cons] at r
    cases r with
    | cons h t => exact .cons (leaf_is h) (leaf_items t)
section
variable {K : Kn} {H : Hp} {h : Heap} {a b : Addr}
theorem lkey_of {ks : LK} (ok : HOk K.P K.w H h) (e : H b = some (.tup (ks.map leafV))) : (lkH K).is h ks b := by
  obtain ⟨_, its, r, o, h1, h2, n, h3⟩ := (show ObjOk K.P K.w H h b (.tup (ks.map leafV)) from ok b _ e)
  exact ⟨o, its.toArray, n, h1, h2, h3, by simpa using leaf_items r⟩
/-- the keys' tuples stand there -/
def KeysX (H : Hp) (xs : List (LK × Addr × V)) : Prop := ∀ p ∈ xs, H p.2.1 = some (.tup (p.1.map leafV))
theorem dcn_of {xs : List (LK × Addr × V)} (ok : HOk K.P K.w H h) (e : H a = some (dcnO K a xs)) (kx : KeysX H xs) : xs.length ≤ sizeLine ∧ (a == sysModules) = false ∧ (xs.map (·.1)).Nodup ∧ ∃ ys, PrX xs ys ∧ h.DictOfH (lkH K) a ys := by
  obtain ⟨⟨z, y, n, ys, o, es, ep, r, h1, h2, h3, h4⟩, _⟩ := ok a _ e
  refine ⟨z, y, n, ys, r, o, es, ep, h1, h2, h3, h4, fun x hx => ?_, by rw [← PrX.keys r]; exact n⟩
  obtain ⟨j, p, hj, hp, e1, e2, _⟩ := paired_ix' r hx
  rw [← e1, ← e2]
  exact lkey_of ok (kx p (List.mem_of_getElem? hp))
where
  paired_ix' {xs : List (LK × Addr × V)} {ys : List (LK × Addr × Value)} (r : PrX xs ys) {x : LK × Addr × Value} (hx : x ∈ ys) : ∃ (j : Nat) (p : LK × Addr × V), ys[j]? = some x ∧ xs[j]? = some p ∧ p.1 = x.1 ∧ p.2.1 = x.2.1 ∧ RelV p.2.2 x.2.2 := by
    unfold PrX at r
    induction r with
    | nil => cases hx
    | @cons p q ps qs h t ih =>
      rcases List.mem_cons.mp hx with rfl | hx
      · exact ⟨0, p, rfl, rfl, h⟩
      · obtain ⟨j, p, h1, h2, h3⟩ := ih hx
        exact ⟨j + 1, p, h1, h2, h3⟩
theorem dcn_new {H' : Hp} {h' : Heap} {xs : List (LK × Addr × V)} {ys : List (LK × Addr × Value)} (z : xs.length ≤ sizeLine) (hd : (a == sysModules) = false) (n : (xs.map (·.1)).Nodup) (r : PrX xs ys) (dd : h'.DictOfH (lkH K) a ys) : ObjOk K.P K.w H' h' a (dcnO K a xs) := by
  obtain ⟨o, es, ep, h1, h2, h3, h4, _, _⟩ := dd
  refine ⟨⟨z, hd, n, ys, o, es, ep, r, h1, h2, h3, h4⟩, ⟨o, h1⟩, fun g1 g2 ⟨_, _, _, ys', o', es', ep', r', h1', h2', h3', h4'⟩ k => ⟨z, hd, n, ys', o', es', ep', r', k _ h1', h2', h3', h4'⟩⟩
end
/-- what the dict at a holds at the key y -/
def DGx (K : Kn) (H : Hp) (a : Addr) (y : V) (r : Option V) : Prop := (∃ kvs k, Rd H a (.dK kvs) ∧ y = kV k ∧ r = valV kvs k) ∨ ∃ xs k b, H a = some (dcnO K a xs) ∧ KeysX H xs ∧ y = .ref b ∧ H b = some (.tup (k.map leafV)) ∧ r = valX xs k
def DPx (K : Kn) (H : Hp) (a : Addr) (y v : V) (H' : Hp) : Prop := (∃ kvs k, H a = some (.dK kvs) ∧ y = kV k ∧ kvs.length < sizeLine ∧ H' = upd H a (.dK (putK kvs k v))) ∨
  ∃ xs k b, H a = some (dcnO K a xs) ∧ KeysX H xs ∧ y = .ref b ∧ H b = some (.tup (k.map leafV)) ∧ xs.length < sizeLine ∧ H' = upd H a (dcnO K a (putX xs k b v))
section
variable {X : Cx} {pins : List (Addr × Obj)} {σ : L2.St} {H : Hp} {s : Shared} {a : Addr} {y v d : V} {u r : Value} {o : Option V} {A : Around} {E : Value → Shared → Prop}
theorem dx_type (I : Inv X pins σ H s) (g : DGx X.kn H a y o) : s.TypeIs (.ref a) "dict" ∧ (∀ b, Value.ref a = .ref b → ∃ ob, s.heap.get? b = some ob ∧ ob.dict = none) ∧ (a == sysModules) = false := by
  rcases g with ⟨kvs, k, e, _, _⟩ | ⟨xs, k, b, e, kx, _⟩
  · exact isD_at I (.inl ⟨kvs, e⟩)
  · obtain ⟨_, hd, _, ys, _, dd⟩ := dcn_of (K := X.kn) I.hok e kx
    refine ⟨dd.typeIs, fun b q => ?_, hd⟩
    cases q
    obtain ⟨ob, _, _, h1, h2, _⟩ := dd
    exact ⟨ob, h1, h2.2.1⟩
theorem dx_get {Q : Value → Shared → Prop} (hu : A.units + 1 < cLine) (I : Inv X pins σ H s) (g : DGx X.kn H a y (some v)) (ry : RelV y u) (k : ∀ w' s', Inv X pins σ H s' → RelV v w' → Q w' s') : wpAny (model X.prog X.w) A (getItem (.ref a) u) Q E s := by
  rcases g with g | ⟨xs, q, b, e, kx, rfl, eb, l⟩
  · exact d_getItem hu I (.inl g) ry k
  cases (show u = Value.ref b from ry)
  obtain ⟨_, _, _, ys, rel, dd⟩ := dcn_of (K := X.kn) I.hok e kx
  obtain ⟨w', hw, rw'⟩ := RelO.some_of (v := v) (o := (atKey ys q).map (·.2)) (by rw [l]; exact rel.val q)
  obtain ⟨p, hp, hp2⟩ := Option.map_eq_some_iff.mp hw
  refine wpAny_getItem_heap (knd := lkH X.kn) (tupleKind_room_in1 hu) (lkey_of (K := X.kn) I.hok eb) dd hp ?_
  rw [hp2]
  exact k w' _ (I.tok _) rw'
theorem dx_in {Q : Value → Shared → Prop} (hu : A.units + 1 < cLine) (I : Inv X pins σ H s) (g : DGx X.kn H a y o) (ry : RelV y u) (k : ∀ s', Inv X pins σ H s' → Q (.bool o.isSome) s') : wpAny (model X.prog X.w) A (compareOp .In u (.ref a)) Q E s := by
  rcases g with g | ⟨xs, q, b, e, kx, rfl, eb, l⟩
  · exact d_in hu I (.inl g) ry k
  cases (show u = Value.ref b from ry)
  obtain ⟨_, hd, _, ys, rel, dd⟩ := dcn_of (K := X.kn) I.hok e kx
  refine wpAny_in_heap (knd := lkH X.kn) (tupleKind_room_in1 hu) (lkey_of (K := X.kn) I.hok eb) hd dd ?_
  have z := (rel.val q).isSome_eq
  rw [Option.isSome_map] at z
  rw [← z, ← l]
  exact k _ (I.tok _)
theorem dx_notIn {Q : Value → Shared → Prop} (hu : A.units + 1 < cLine) (I : Inv X pins σ H s) (g : DGx X.kn H a y o) (ry : RelV y u) (k : ∀ s', Inv X pins σ H s' → Q (.bool (!o.isSome)) s') : wpAny (model X.prog X.w) A (compareOp .NotIn u (.ref a)) Q E s := by
  rcases g with g | ⟨xs, q, b, e, kx, rfl, eb, l⟩
  · exact d_notIn hu I (.inl g) ry k
  cases (show u = Value.ref b from ry)
  obtain ⟨_, hd, _, ys, rel, dd⟩ := dcn_of (K := X.kn) I.hok e kx
  refine wpAny_notIn_heap (knd := lkH X.kn) (tupleKind_room_in1 hu) (lkey_of (K := X.kn) I.hok eb) hd dd ?_
  have z := (rel.val q).isSome_eq
  rw [Option.isSome_map] at z
  rw [← z, ← l]
  exact k _ (I.tok _)
theorem dx_get1 {Q : Value → Shared → Prop} (hu : A.units + 1 < cLine) (I : Inv X pins σ H s) (g : DGx X.kn H a y o) (ry : RelV y u) (k : ∀ w' s', Inv X pins σ H s' → RelV (o.getD .non) w' → Q w' s') : wpAny (model X.prog X.w) A (call (.builtin "dict.get") [.ref a, u]) Q E s := by
  rcases g with g | ⟨xs, q, b, e, kx, rfl, eb, l⟩
  · exact d_get1 hu I (.inl g) ry k
  cases (show u = Value.ref b from ry)
  obtain ⟨_, hd, _, ys, rel, dd⟩ := dcn_of (K := X.kn) I.hok e kx
  refine call_meetsIn PySem.F.slot_dict_get dd.typeIs PySem.F.entry_dict_get (PySem.F.args_dict_get_2 _ _) (meetsH_dict_get (lkH X.kn) a b hd) ⟨tupleKind_room_in1 hu, q, ys, lkey_of (K := X.kn) I.hok eb, dd, k _ _ (I.tok _) ?_⟩
  rw [l]
  exact (rel.val q).getD rfl
theorem dx_get2 {Q : Value → Shared → Prop} (hu : A.units + 1 < cLine) (I : Inv X pins σ H s) (g : DGx X.kn H a y o) (ry : RelV y u) (rd : RelV d r) (k : ∀ w' s', Inv X pins σ H s' → RelV (o.getD d) w' → Q w' s') : wpAny (model X.prog X.w) A (call (.builtin "dict.get") [.ref a, u, r]) Q E s := by
  rcases g with g | ⟨xs, q, b, e, kx, rfl, eb, l⟩
  · exact d_get2 hu I (.inl g) ry rd k
  cases (show u = Value.ref b from ry)
  obtain ⟨_, hd, _, ys, rel, dd⟩ := dcn_of (K := X.kn) I.hok e kx
  refine call_meetsIn PySem.F.slot_dict_get dd.typeIs PySem.F.entry_dict_get (PySem.F.args_dict_get_3 _ _ _) (meetsH_dict_get_default (lkH X.kn) a b hd r) ⟨tupleKind_room_in1 hu, q, ys, lkey_of (K := X.kn) I.hok eb, dd, k _ _ (I.tok _) ?_⟩
  rw [l]
  exact (rel.val q).getD rd
theorem dx_store {xs : List (LK × Addr × V)} {q : LK} {b : Addr} {h' : Heap} {t' : Nat} {ys : List (LK × Addr × Value)} (I : Inv X pins σ H s) (e : H a = some (dcnO X.kn a xs)) (rel : PrX xs ys) (n : (xs.map (·.1)).Nodup) (hd : (a == sysModules) = false) (hz : xs.length < sizeLine) (rv : RelV v r)
    (dd : h'.DictOfH (lkH X.kn) a (storedH ys q b r)) (hs : Heap.SameBut a s.heap h') : Inv X pins σ (upd H a (dcnO X.kn a (putX xs q b v))) { s with heap := h', toks := t' } := by
  have hl : (putX xs q b v).length ≤ sizeLine := by have := putX_length (xs := xs) (k := q) (b := b) (v := v); omega
  refine d_write I (by rw [e]; exact True.intro) hs ?_ (dcn_new (K := X.kn) hl hd (putX_keys n) (rel.put q b rv) dd)
  obtain ⟨o, _, _, h1, _⟩ := dd
  exact ⟨o, h1⟩
theorem dx_set {H' : Hp} {Q : Unit → Shared → Prop} (hu : A.units + 1 < cLine) (I : Inv X pins σ H s) (g : DPx X.kn H a y v H') (ry : RelV y u) (rv : RelV v r) (k : ∀ s', Inv X pins σ H' s' → Q () s') : wpAny (model X.prog X.w) A (setItem (.ref a) u r) Q E s := by
  rcases g with g | ⟨xs, q, b, e, kx, rfl, eb, hz, rfl⟩
  · exact d_setItem hu I (.inl g) ry rv k
  cases (show u = Value.ref b from ry)
  obtain ⟨z, hd, n, ys, rel, dd⟩ := dcn_of (K := X.kn) I.hok e kx
  exact wpAny_setItem_heap (knd := lkH X.kn) (hsz := by rw [← rel.length]; exact z) (tupleKind_room_in1 hu) (lkey_of (K := X.kn) I.hok eb) dd fun h' dd' hs => k _ (dx_store I e rel n hd hz rv dd' hs)
/-- .. by a comprehension -/
theorem dx_cset {H' : Hp} {Q : Unit → Shared → Prop} (hu : X.A.units < cLine) (I : Inv X pins σ H s) (g : DPx X.kn H a y v H') (ry : RelV y u) (rv : RelV v r) (k : ∀ s', Inv X pins σ H' s' → Q () s') : wpAny (model X.prog X.w) X.A (dictSet a u r) Q E s := by
  rcases g with ⟨kvs, q, e, rfl, hz, rfl⟩ | ⟨xs, q, b, e, kx, rfl, eb, hz, rfl⟩
  · exact d_dictSet I e hz ry rv k
  cases (show u = Value.ref b from ry)
  obtain ⟨z, hd, n, ys, rel, dd⟩ := dcn_of (K := X.kn) I.hok e kx
  exact wpAny_dictSet_heap (knd := lkH X.kn) (hsz := by rw [← rel.length]; exact z) hu (lkey_of (K := X.kn) I.hok eb) dd fun h' dd' hs => k _ (dx_store I e rel n hd hz rv dd' hs)
theorem dcn_empty {K : Kn} {H : Hp} (h : Heap) (hb : sysModules < h.objs.size) : ObjOk K.P K.w H (h.push { cls := .type "dict", data := .dict #[] }) h.objs.size (dcnO K h.objs.size []) :=
  dcn_new (Nat.zero_le _) (beq_eq_false_iff_ne.mpr (Ne.symm (Nat.ne_of_lt hb))) List.nodup_nil (.nil : PrX [] []) ⟨_, #[], 0, Heap.get?_push_size _ rfl, ⟨rfl, rfl, rfl⟩, rfl, rfl, (by simp), List.nodup_nil⟩
end
end L3

namespace L3
open PySem PySem.Spec PyProof.Rows L2
/-! ### dicts of both kinds of keys -/
def leafOf : D → Option Leaf
  | .non => some .none
  | .int i => some (.num i)
  | .str x => some (.text x)
  | _ => none
def leavesOf : List D → Option LK
  | [] => some []
  | d :: r => match leafOf d, leavesOf r with
    | some a, some b => some (a :: b)
    | _, _ => none
def lkOf : D → Option LK
  | .tup xs => leavesOf xs
  | _ => none
def valN (kvs : List (LK × D)) (k : LK) : Option D := (kvs.find? fun kv => decide (kv.1 = k)).map (·.2)
def putN (kvs : List (LK × D)) (k : LK) (v : D) : List (LK × D) := if (valN kvs k).isSome then kvs.map (fun kv => if kv.1 = k then (kv.1, v) else kv) else kvs ++ [(k, v)]
inductive Dic where
  | k (kvs : List (Key × D))
  | n (kvs : List (LK × D))
def Dic.get : Dic → D → Option (Option D)
  | .k kvs, y => (keyOf y).map (valD kvs)
  | .n kvs, y => (lkOf y).map (valN kvs)
def Dic.put : Dic → D → D → Option Dic
  | .k kvs, y, v => (keyOf y).map fun q => .k (putD kvs q v)
  | .n kvs, y, v => (lkOf y).map fun q => .n (putN kvs q v)
def Dic.length : Dic → Nat
  | .k kvs => kvs.length
  | .n kvs => kvs.length
def Dic.fz : Dic → D
  | .k kvs => .dct kvs
  | .n kvs => .dcn kvs
def Dic.mo : Dic → MO
  | .k kvs => .dct kvs
  | .n kvs => .dcn kvs
def dicOf (μ : Mu) : D → Option Dic
  | .dct kvs => some (.k kvs)
  | .dcn kvs => some (.n kvs)
  | .ref a => match μ a with
    | some (.dct kvs) => some (.k kvs)
    | some (.dcn kvs) => some (.n kvs)
    | _ => none
  | _ => none
section
variable {K : Kn} {F : Addr → Prop} {H : Hp}
/-- read -/
def DicR (K : Kn) (F : Addr → Prop) (H : Hp) (a : Addr) : Dic → Prop
  | .k kvs => ∃ ks, Rd H a (.dK ks) ∧ Rpk K F H kvs ks
  | .n kvs => ∃ ks, H a = some (dcnO K a ks) ∧ Rpn K F H kvs ks
theorem dic_of {μ : Mu} {x : D} {v : V} {c : Dic} (s : Sim0 K F H μ) (r : Rp K F H x v) (h : dicOf μ x = some c) : ∃ a, v = .ref a ∧ DicR K F H a c := by
  cases r with
  | dct f e rs => cases h; exact ⟨_, rfl, _, e, rs⟩
  | dcn f e rs => cases h; exact ⟨_, rfl, _, e, rs⟩
  | ref a =>
    have h' : (match μ a with
      | some (.dct kvs) => some (Dic.k kvs)
      | some (.dcn kvs) => some (Dic.n kvs)
      | _ => none) = some c := h
    split at h'
    · rename_i ys e2
      cases h'
      obtain ⟨_, vs, e3, rs⟩ := s.obj _ _ e2
      exact ⟨_, rfl, vs, .inl e3, rs⟩
    · rename_i ys e2
      cases h'
      obtain ⟨_, vs, e3, rs⟩ := s.obj _ _ e2
      exact ⟨_, rfl, vs, e3, rs⟩
    · cases h'
  | _ => cases h
theorem leaf_ok {x : D} {v : V} {k : Leaf} (r : Rp K F H x v) (h : leafOf x = some k) : v = leafV k := by
  cases r <;> cases h <;> rfl
theorem leaves_ok : ∀ {xs : List D} {vs : List V} {ks : LK}, Rps K F H xs vs → leavesOf xs = some ks → vs = ks.map leafV
  | _, _, _, .nil, h => by cases h; rfl
  | _, _, ks, .cons (d := d) (ds := ds) r t, h => by
    unfold leavesOf at h
    split at h
    · rename_i a b e1 e2
      cases h
      rw [List.map_cons, leaf_ok r e1, leaves_ok t e2]
    · cases h
theorem lk_ok {x : D} {v : V} {k : LK} (r : Rp K F H x v) (h : lkOf x = some k) : ∃ b, v = .ref b ∧ F b ∧ H b = some (.tup (k.map leafV)) := by
  cases r with
  | tup f e rs => exact ⟨_, rfl, f, by rw [← leaves_ok rs h]; exact e⟩
  | _ => cases h
theorem Rpn.keysX : ∀ {ds : List (LK × D)} {vs : List (LK × Addr × V)}, Rpn K F H ds vs → KeysX H vs
  | _, _, .nil => fun _ h => by cases h
  | _, _, .cons f e r t => fun p h => by
    rcases List.mem_cons.mp h with rfl | h
    · exact e
    · exact Rpn.keysX t p h
theorem Rpn.length : ∀ {ds : List (LK × D)} {vs : List (LK × Addr × V)}, Rpn K F H ds vs → ds.length = vs.length
  | _, _, .nil => rfl
  | _, _, .cons _ _ _ t => by rw [List.length_cons, List.length_cons, Rpn.length t]
theorem Rpn.val {k : LK} : ∀ {ds : List (LK × D)} {vs : List (LK × Addr × V)}, Rpn K F H ds vs → (∀ d, valN ds k = some d → ∃ v, valX vs k = some v ∧ Rp K F H d v) ∧ (valN ds k = none → valX vs k = none)
  | _, _, .nil => ⟨fun d h => (by cases h), fun _ => rfl⟩
  | _, _, .cons (k := k') (b := b') (d := d') (v := v') (ds := ds') (vs := vs') f e r t => by
    have ih := Rpn.val (k := k) t
    by_cases e : k' = k
    · have e1 : valN ((k', d') :: ds') k = some d' := by simp [valN, List.find?_cons, e]
      have e2 : valX ((k', b', v') :: vs') k = some v' := by simp [valX, List.find?_cons, e]
      rw [e1, e2]
      exact ⟨fun d h => (by cases h; exact ⟨v', rfl, r⟩), fun h => (by cases h)⟩
    · have e1 : valN ((k', d') :: ds') k = valN ds' k := by simp [valN, List.find?_cons, e]
      have e2 : valX ((k', b', v') :: vs') k = valX vs' k := by simp [valX, List.find?_cons, e]
      rw [e1, e2]
      exact ih
theorem Rpn.append : ∀ {ds es : List (LK × D)} {vs us : List (LK × Addr × V)}, Rpn K F H ds vs → Rpn K F H es us → Rpn K F H (ds ++ es) (vs ++ us)
  | _, _, _, _, .nil, s => s
  | _, _, _, _, .cons f e h r, s => .cons f e h (Rpn.append r s)
theorem Rpn.upd {k : LK} {d : D} {v : V} (h : Rp K F H d v) : ∀ {ds : List (LK × D)} {vs : List (LK × Addr × V)}, Rpn K F H ds vs → Rpn K F H (ds.map fun kv => if kv.1 = k then (kv.1, d) else kv) (vs.map fun x => if x.1 = k then (x.1, x.2.1, v) else x)
  | _, _, .nil => .nil
  | _, _, .cons (k := k') f e r t => by
    rw [List.map_cons, List.map_cons]
    by_cases e' : k' = k
    · simp only [e', if_true]
      exact .cons f (e' ▸ e) h (Rpn.upd h t)
    · simp only [e', if_false]
      exact .cons f e r (Rpn.upd h t)
theorem Rpn.put {k : LK} {b : Addr} {d : D} {v : V} {ds : List (LK × D)} {vs : List (LK × Addr × V)} (r : Rpn K F H ds vs) (fb : F b) (eb : H b = some (.tup (k.map leafV))) (h : Rp K F H d v) : Rpn K F H (putN ds k d) (putX vs k b v) := by
  have e : (valN ds k).isSome = (valX vs k).isSome := by
    cases q : valN ds k with
    | none => rw [(r.val (k := k)).2 q]; rfl
    | some x => obtain ⟨v, e, _⟩ := (r.val (k := k)).1 x q; rw [e]; rfl
  unfold putN putX
  rw [e]
  by_cases q : (valX vs k).isSome = true
  · rw [if_pos q, if_pos q]; exact r.upd h
  · rw [if_neg q, if_neg q]; exact r.append (.cons fb eb h .nil)
def RpO (K : Kn) (F : Addr → Prop) (H : Hp) : Option D → Option V → Prop
  | some d, some v => Rp K F H d v
  | none, none => True
  | _, _ => False
/-- what a dict holds at a key -/
theorem DicR.get {a : Addr} {c : Dic} {y : D} {vy : V} {r : Option D} (h : DicR K F H a c) (ry : Rp K F H y vy) (g : c.get y = some r) : ∃ o, DGx K H a vy o ∧ RpO K F H r o := by
  cases c with
  | k kvs =>
    obtain ⟨ks, e, rs⟩ := h
    unfold Dic.get at g
    obtain ⟨q, eq, rfl⟩ := Option.map_eq_some_iff.mp g
    obtain rfl := keyOf_ok ry eq
    refine ⟨valV ks q, .inl ⟨ks, q, e, rfl, rfl⟩, ?_⟩
    cases z : valD kvs q with
    | none => rw [rs.val.2 z]; exact True.intro
    | some d => obtain ⟨w, ew, rw'⟩ := rs.val.1 d z; rw [ew]; exact rw'
  | n kvs =>
    obtain ⟨ks, e, rs⟩ := h
    unfold Dic.get at g
    obtain ⟨q, eq, rfl⟩ := Option.map_eq_some_iff.mp g
    obtain ⟨b, rfl, fb, eb⟩ := lk_ok ry eq
    refine ⟨valX ks q, .inr ⟨ks, q, b, e, rs.keysX, rfl, eb, rfl⟩, ?_⟩
    cases z : valN kvs q with
    | none => rw [rs.val.2 z]; exact True.intro
    | some d => obtain ⟨w, ew, rw'⟩ := rs.val.1 d z; rw [ew]; exact rw'
end
section
variable {X : Cx} {Z : Zn X.kn} {e a b c o i v kx vx f : Expr} {es : List Expr} {ta tb tc te to ti tv tk tx : TE3} {tr : TA3} {pos p apos cpos : Pos} {x : Str} {k : Nat}
theorem hu_g {A : Around} (hr : RoomG k A) : A.units + 1 < cLine := by have := hr.rm.un; omega
/-! subscripts of any kind -/
theorem ix_dx (hu : X.A.units + 1 < cLine) : IxR X (fun x y H Q => ∃ a v, x = .ref a ∧ DGx X.kn H a y (some v) ∧ Q v H) := by
  intro value slice pins s σ H x y v u Q I rx ry h hs
  obtain ⟨a, z, rfl, g, q⟩ := h
  obtain rfl : v = Value.ref a := rx
  have hT := (dx_type I g).1
  have go : wpAny (model X.prog X.w) X.A (getItem (.ref a) u) (EP X pins σ Q) X.xe s := dx_get hu I g ry fun w' s3 I3 rw' => ⟨z, H, I3, rw', q⟩
  unfold subscriptTail
  refine wpAny_bind ?_
  rw [getitemInPython_of_ne hT.not_modules]
  refine wpAny_bind (wpAny_specialOf hT PySem.F.slot_dict_getitem.lookup ?_)
  have fin : wpAny (model X.prog X.w) X.A (subscripted slice false (.ref a) u) (fun r s₃ => wpAny (model X.prog X.w) X.A (letTemporaryGo value (.ref a) r >>= fun _ => pure r) (EP X pins σ Q) X.xe s₃) X.xe s := by
    rw [hs]
    exact wpAny_operating (wpAny_mono go (fun r s₃ h₃ => wpAny_bind (wpAny_letTemporaryGo (wpAny_pure h₃))) fun _ _ x => x)
  first
    | exact wpAny_pure (wpAny_bind fin)
    | exact wpAny_bind (wpAny_pure (wpAny_bind fin))
    | exact wpAny_bind fin
def gAt : G2 := fun x y μ R => (∃ z i c, x = .str z ∧ y = .int i ∧ z.length ≤ sizeLine ∧ atI z.cps.toList i = some c ∧ R (.str ⟨#[c]⟩) μ) ∨ (∃ xs i d, y = .int i ∧ seqOf μ x = some xs ∧ atI xs i = some d ∧ R d μ) ∨ (∃ c d, dicOf μ x = some c ∧ c.get y = some (some d) ∧ R d μ)
theorem e_at {j : Nat} (hr : RoomG j X.A) (ha : E3 X Z a ta) (hb : E3 X Z b tb) (hs : PlainIx b := by exact fun _ _ => rfl) : E3 X Z (.Subscript a b pos) (vOp gAt ta tb) := (pe_ix (ix_seq.or (ix_dx (hu_g hr))) ha hb hs).imp fun _ _ _ h => low_op (fun F H μ x y vx vy R Q s rx ry q kk => by
  rcases q with ⟨z, i, c, rfl, rfl, h1, h2, q⟩ | ⟨xs, i, d, rfl, e1, e2, q⟩ | ⟨c, d, e1, e2, q⟩
  · exact .inl (ix_ok F H μ _ _ vx vy R Q s rx ry ⟨c, h1, h2, q⟩ kk)
  · refine .inl ?_
    cases ry
    obtain ⟨p, vs, rfl, sq, rs⟩ := seq_of s rx e1
    obtain ⟨v, e3, r2⟩ := atI_rel rs e2
    rcases sq with sq | sq
    · exact .inl ⟨p, vs, _, v, rfl, rfl, sq, e3, kk F _ H _ μ (Step.refl s) r2 q⟩
    · exact .inr (.inl ⟨p, vs, _, v, rfl, rfl, sq, e3, kk F _ H _ μ (Step.refl s) r2 q⟩)
  · obtain ⟨p, rfl, dr⟩ := dic_of s.raw rx e1
    obtain ⟨ov, g, z⟩ := dr.get ry e2
    cases ov with
    | none => exact z.elim
    | some w => exact .inr ⟨p, w, rfl, g, kk F _ H _ μ (Step.refl s) z q⟩) h
theorem at_s {μ : Mu} {z : Str} {i : Int} {R : DK} {c : Nat} (hz : z.length ≤ sizeLine) (h : atI z.cps.toList i = some c) (q : R (.str ⟨#[c]⟩) μ) : gAt (.str z) (.int i) μ R := .inl ⟨z, i, c, rfl, rfl, hz, h, q⟩
theorem at_q {μ : Mu} {x : D} {xs : List D} {i : Int} {d : D} {R : DK} (e : seqOf μ x = some xs) (h : atI xs i = some d) (q : R d μ) : gAt x (.int i) μ R := .inr (.inl ⟨xs, i, d, rfl, e, h, q⟩)
theorem at_r {μ : Mu} {a : Addr} {xs : List D} {i : Int} {d : D} {R : DK} (e : μ a = some (.lst xs)) (h : atI xs i = some d) (q : R d μ) : gAt (.ref a) (.int i) μ R := at_q (by simp only [seqOf, e]) h q
theorem at_l {μ : Mu} {xs : List D} {i : Int} {d : D} {R : DK} (h : atI xs i = some d) (q : R d μ) : gAt (.lst xs) (.int i) μ R := at_q rfl h q
theorem at_t {μ : Mu} {xs : List D} {i : Int} {d : D} {R : DK} (h : atI xs i = some d) (q : R d μ) : gAt (.tup xs) (.int i) μ R := at_q rfl h q
theorem at_d {μ : Mu} {x y : D} {c : Dic} {d : D} {R : DK} (e : dicOf μ x = some c) (h : c.get y = some (some d)) (q : R d μ) : gAt x y μ R := .inr (.inr ⟨c, d, e, h, q⟩)
/-! in -/
def gIn (neg : Bool) : G2 := fun x y μ R => (∃ c z, x = .str ⟨#[c]⟩ ∧ y = .str z ∧ R (.bl (if neg then !decide (c ∈ z.cps.toList) else decide (c ∈ z.cps.toList))) μ) ∨
  (∃ xs, seqOf μ y = some xs ∧ flatD x = true ∧ xs.all flatD = true ∧ R (.bl (if neg then !inD x xs else inD x xs)) μ) ∨ (∃ c r, dicOf μ y = some c ∧ c.get x = some r ∧ R (.bl (if neg then !r.isSome else r.isSome)) μ)
theorem op_in_dx (hu : X.A.units + 1 < cLine) : OpR X (compareOp .In) (fun x y H Q => ∃ a o, y = .ref a ∧ DGx X.kn H a x o ∧ Q (.bl o.isSome) H) := by
  intro pins s σ H x y v u Q I rx ry h
  obtain ⟨a, o, rfl, g, q⟩ := h
  obtain rfl : u = Value.ref a := ry
  exact dx_in hu I g rx fun s' I' => ⟨.bl o.isSome, H, I', rfl, q⟩
theorem op_notIn_dx (hu : X.A.units + 1 < cLine) : OpR X (compareOp .NotIn) (fun x y H Q => ∃ a o, y = .ref a ∧ DGx X.kn H a x o ∧ Q (.bl (!o.isSome)) H) := by
  intro pins s σ H x y v u Q I rx ry h
  obtain ⟨a, o, rfl, g, q⟩ := h
  obtain rfl : u = Value.ref a := ry
  exact dx_notIn hu I g rx fun s' I' => ⟨.bl (!o.isSome), H, I', rfl, q⟩
theorem o_in {j : Nat} (hr : RoomG j X.A) : OpL X Z (compareOp .In) (gIn false) := by
  have hd : OpL X Z (compareOp .In) (fun x y μ R => ∃ c r, dicOf μ y = some c ∧ c.get x = some r ∧ R (.bl r.isSome) μ) := ⟨_, op_in_dx (hu_g hr), fun F H μ x y vx vy R Q s rx ry q kk => by
    obtain ⟨c, r, e1, e2, q⟩ := q
    obtain ⟨p, rfl, dr⟩ := dic_of s.raw ry e1
    obtain ⟨ov, g, z⟩ := dr.get rx e2
    refine ⟨p, ov, rfl, g, ?_⟩
    have : ov.isSome = r.isSome := by
      cases r <;> cases ov <;> first | rfl | exact z.elim
    rw [this]
    exact kk F _ H _ μ (Step.refl s) (.bl _) q⟩
  refine ((o_inS.or o_inL).or hd).imp fun x y μ R h => ?_
  rcases h with ⟨c, z, rfl, rfl, q⟩ | ⟨xs, e, h1, h2, q⟩ | h
  · exact .inl (.inl ⟨c, rfl, q⟩)
  · refine .inl (.inr ?_)
    unfold gInL
    rw [e]
    exact ⟨h1, h2, q⟩
  · exact .inr h
theorem o_notIn {j : Nat} (hr : RoomG j X.A) : OpL X Z (compareOp .NotIn) (gIn true) := by
  have hd : OpL X Z (compareOp .NotIn) (fun x y μ R => ∃ c r, dicOf μ y = some c ∧ c.get x = some r ∧ R (.bl (!r.isSome)) μ) := ⟨_, op_notIn_dx (hu_g hr), fun F H μ x y vx vy R Q s rx ry q kk => by
    obtain ⟨c, r, e1, e2, q⟩ := q
    obtain ⟨p, rfl, dr⟩ := dic_of s.raw ry e1
    obtain ⟨ov, g, z⟩ := dr.get rx e2
    refine ⟨p, ov, rfl, g, ?_⟩
    have : ov.isSome = r.isSome := by
      cases r <;> cases ov <;> first | rfl | exact z.elim
    rw [this]
    exact kk F _ H _ μ (Step.refl s) (.bl _) q⟩
  refine ((o_notInS.or o_notInL).or hd).imp fun x y μ R h => ?_
  rcases h with ⟨c, z, rfl, rfl, q⟩ | ⟨xs, e, h1, h2, q⟩ | h
  · exact .inl (.inl ⟨c, rfl, q⟩)
  · refine .inl (.inr ?_)
    unfold gInL
    rw [e]
    exact ⟨h1, h2, q⟩
  · exact .inr h
theorem in_s {neg : Bool} {μ : Mu} {c : Nat} {z : Str} {R : DK} (q : R (.bl (if neg then !decide (c ∈ z.cps.toList) else decide (c ∈ z.cps.toList))) μ) : gIn neg (.str ⟨#[c]⟩) (.str z) μ R := .inl ⟨c, z, rfl, rfl, q⟩
theorem in_q {neg : Bool} {μ : Mu} {x y : D} {xs : List D} {R : DK} (e : seqOf μ y = some xs) (h1 : flatD x = true) (h2 : xs.all flatD = true) (q : R (.bl (if neg then !inD x xs else inD x xs)) μ) : gIn neg x y μ R := .inr (.inl ⟨xs, e, h1, h2, q⟩)
theorem in_d {neg : Bool} {μ : Mu} {x y : D} {c : Dic} {r : Option D} {R : DK} (e : dicOf μ y = some c) (h : c.get x = some r) (q : R (.bl (if neg then !r.isSome else r.isSome)) μ) : gIn neg x y μ R := .inr (.inr ⟨c, r, e, h, q⟩)
/-! o[i] = v -/
def PSet.or {t u : TSet} (h : PSet X t) (h' : PSet X u) : PSet X (fun o i v H Q => t o i v H Q ∨ u o i v H Q) := fun pins s σ H o i v ov iv w Q I ro ri rv q => q.elim (h pins s σ H o i v ov iv w Q I ro ri rv) (h' pins s σ H o i v ov iv w Q I ro ri rv)
theorem set_dx (hu : X.A.units + 1 < cLine) : PSet X (fun o i v H Q => ∃ a H', o = .ref a ∧ DPx X.kn H a i v H' ∧ Q H') := fun pins s σ H o i v ov iv w Q I ro ri rv q => by
  obtain ⟨a, H', rfl, g, q⟩ := q
  obtain rfl : ov = Value.ref a := ro
  exact dx_set hu I g ri rv fun s' I' => ⟨H', I', q⟩
def gSet : D → D → D → Mu → (Mu → Prop) → Prop := fun o i v μ R => ∃ a, o = .ref a ∧ ((∃ xs k j, i = .int k ∧ μ a = some (.lst xs) ∧ ixN xs.length k = some j ∧ R (mset μ a (.lst (xs.set j v)))) ∨ ∃ c c' : Dic, μ a = some c.mo ∧ c.length < sizeLine ∧ c.put i v = some c' ∧ R (mset μ a c'.mo))
theorem put_dic {F : Addr → Prop} {H : Hp} {μ : Mu} {a : Addr} {c c' : Dic} {i v : D} {vi vv : V} (s : Sim Z F H μ) (h : μ a = some c.mo) (hl : c.length < sizeLine) (e : c.put i v = some c') (ri : Rp X.kn F H i vi) (rv : Rp X.kn F H v vv) :
    ∃ H', DPx X.kn H a vi vv H' ∧ Step Z F H μ F H' (mset μ a c'.mo) := by
  cases c with
  | k kvs =>
    obtain ⟨q, eq, rfl⟩ := Option.map_eq_some_iff.mp (show (keyOf i).map (fun q => Dic.k (putD kvs q v)) = some c' from e)
    obtain ⟨_, ks, e3, rs⟩ := s.obj _ _ h
    obtain rfl := keyOf_ok ri eq
    refine ⟨_, .inl ⟨ks, q, e3, rfl, by rw [← rs.length]; exact hl, rfl⟩, s.putS h fun g' e' => ⟨_, e', (rs.grow g').put (rv.grow g')⟩⟩
  | n kvs =>
    obtain ⟨q, eq, rfl⟩ := Option.map_eq_some_iff.mp (show (lkOf i).map (fun q => Dic.n (putN kvs q v)) = some c' from e)
    obtain ⟨_, ks, e3, rs⟩ := s.obj _ _ h
    obtain ⟨b, rfl, fb, eb⟩ := lk_ok ri eq
    refine ⟨_, .inr ⟨ks, q, b, e3, rs.keysX, rfl, eb, by rw [← rs.length]; exact hl, rfl⟩, s.putS h fun g' e' => ⟨_, e', (rs.grow g').put (g'.mono _ fb) (g'.fix _ _ fb rfl eb) (rv.grow g')⟩⟩
theorem st_any {j : Nat} (hr : RoomG j X.A) : StL X Z gSet := ⟨_, PSet.or set_list (set_dx (hu_g hr)), fun F H μ o i v vo vi vv R Q s ro ri rv q kk => by
  obtain ⟨a, rfl, q⟩ := q
  cases ro
  rcases q with ⟨xs, n, j, rfl, e, hj, q⟩ | ⟨c, c', e, hl, ep, q⟩
  · cases ri
    obtain ⟨_, us, e3, rr⟩ := s.obj _ _ e
    refine .inl ⟨a, us, n, j, rfl, rfl, e3, by rw [← rr.length]; exact hj, ?_⟩
    have g := s.putS (o := .lst (us.set j vv)) (m := .lst (xs.set j v)) e fun g' e' => ⟨_, e', (rr.grow g').set (rv.grow g') j⟩
    exact kk _ _ _ g q
  · obtain ⟨H', g, st⟩ := put_dic s e hl ep ri rv
    exact .inr ⟨a, H', rfl, g, kk _ _ _ st q⟩⟩
theorem set_l {μ : Mu} {b : Addr} {xs : List D} {i : Int} {j : Nat} {v : D} {R : Mu → Prop} (e : μ b = some (.lst xs)) (h : ixN xs.length i = some j) (q : R (mset μ b (.lst (xs.set j v)))) : gSet (.ref b) (.int i) v μ R := ⟨b, rfl, .inl ⟨xs, i, j, rfl, e, h, q⟩⟩
theorem set_k {μ : Mu} {b : Addr} {kvs : List (Key × D)} {i v : D} {k : Key} {R : Mu → Prop} (e : μ b = some (.dct kvs)) (hl : kvs.length < sizeLine) (h : keyOf i = some k) (q : R (mset μ b (.dct (putD kvs k v)))) : gSet (.ref b) i v μ R :=
  ⟨b, rfl, .inr ⟨.k kvs, .k (putD kvs k v), e, hl, by show (keyOf i).map _ = _; rw [h]; rfl, q⟩⟩
theorem set_n {μ : Mu} {b : Addr} {kvs : List (LK × D)} {i v : D} {k : LK} {R : Mu → Prop} (e : μ b = some (.dcn kvs)) (hl : kvs.length < sizeLine) (h : lkOf i = some k) (q : R (mset μ b (.dcn (putN kvs k v)))) : gSet (.ref b) i v μ R :=
  ⟨b, rfl, .inr ⟨.n kvs, .n (putN kvs k v), e, hl, by show (lkOf i).map _ = _; rw [h]; rfl, q⟩⟩
/-! d.get -/
def vGet1 (to tk : TE3) : TE3 := fun δ μ R => to δ μ fun x μ1 => (dicOf μ1 x).isSome = true ∧ tk δ μ1 fun y μ2 => ∃ c r, dicOf μ2 x = some c ∧ c.get y = some r ∧ R (r.getD .non) μ2
def vGet2 (to tk tx : TE3) : TE3 := fun δ μ R => to δ μ fun x μ1 => (dicOf μ1 x).isSome = true ∧ tk δ μ1 fun y μ2 => tx δ μ2 fun z μ3 => ∃ c r, dicOf μ3 x = some c ∧ c.get y = some r ∧ R (r.getD z) μ3
theorem dic_type {F : Addr → Prop} {H : Hp} {μ : Mu} {pins : List (Addr × Obj)} {σ : L2.St} {s : Shared} {d : D} {v : V} (I : Inv X pins σ H s) (sm : Sim0 X.kn F H μ) (r : Rp X.kn F H d v) (h : (dicOf μ d).isSome = true) : ∃ a, v = .ref a ∧ s.TypeIs (.ref a) "dict" ∧ (∀ b, Value.ref a = .ref b → ∃ ob, s.heap.get? b = some ob ∧ ob.dict = none) := by
  obtain ⟨c, e⟩ := Option.isSome_iff_exists.mp h
  obtain ⟨a, rfl, dr⟩ := dic_of sm r e
  refine ⟨a, rfl, ?_⟩
  cases c with
  | k kvs =>
    obtain ⟨ks, e, _⟩ := dr
    exact let ⟨t1, t2, _⟩ := isD_at I (.inl ⟨ks, e⟩); ⟨t1, t2⟩
  | n kvs =>
    obtain ⟨ks, e, rs⟩ := dr
    obtain ⟨_, hd, _, ys, _, dd⟩ := dcn_of (K := X.kn) I.hok e rs.keysX
    refine ⟨dd.typeIs, fun b q => ?_⟩
    cases q
    obtain ⟨ob, _, _, h1, h2, _⟩ := dd
    exact ⟨ob, h1, h2.2.1⟩
theorem getD_ok {F : Addr → Prop} {H : Hp} {r : Option D} {o : Option V} {z : D} {vz : V} (h : RpO X.kn F H r o) (rz : Rp X.kn F H z vz) : Rp X.kn F H (r.getD z) (o.getD vz) := by
  cases r <;> cases o <;> first | exact rz | exact h | exact h.elim
theorem e_get1 {j : Nat} (hr : RoomG j X.A) (ho : E3 X Z o to) (he : E3 X Z e tk) (m : M1 X o "get" apos e cpos := by exact ⟨rfl, rfl, rfl, rfl⟩) : E3 X Z (.Call (.Attribute o "get" apos) [e] [] cpos) (vGet1 to tk) := by
  refine ⟨fun pins s σ H Q I h => ?_⟩
  obtain ⟨F, δ, μ, R, sm, sl, h, kk⟩ := h
  refine wpAny_Call_method m.base m.few m.line PySem.F.plainAttrs_dict PySem.F.slot_dict_get PySem.F.type_dict_get (thn (ho.run pins s σ H _ I (got1 sm sl h)) fun u s1 ⟨v, H1, I1, rx, F1, d, μ1, g, r1, q1⟩ => ?_)
  obtain ⟨a, rfl, t1, t2⟩ := dic_type I1 g.sim.raw r1 q1.1
  obtain rfl : u = Value.ref a := rx
  refine ⟨t1, t2, ?_⟩
  rw [m.trees]
  refine Calls.callWith_builtin rfl (Calls.evalArgs_plain (Calls.spliced_cons (thn (he.run pins s1 σ H1 _ I1 (got1 g.sim (sl.st g) q1.2)) fun iv s2 ⟨y, H2, I2, ry, F2, dy, μ2, g2, r2, q2⟩ => Calls.spliced_nil ?_)))
  obtain ⟨c, r, e1, e2, q2⟩ := q2
  obtain ⟨p, ep, dr⟩ := dic_of g2.sim.raw (r1.st g2) e1
  cases ep
  obtain ⟨ov, gg, z⟩ := dr.get r2 e2
  exact dx_get1 (hu_g hr) I2 gg ry fun w' s3 I3 rw' => ⟨_, H2, I3, rw', kk F2 _ H2 _ μ2 (g.trans g2) (getD_ok z .non) q2⟩
theorem e_get2 {j : Nat} (hr : RoomG j X.A) (ho : E3 X Z o to) (he : E3 X Z e tk) (hf : E3 X Z f tx) (m : M2 X o "get" apos e f cpos := by exact ⟨rfl, rfl, rfl, rfl⟩) : E3 X Z (.Call (.Attribute o "get" apos) [e, f] [] cpos) (vGet2 to tk tx) := by
  refine ⟨fun pins s σ H Q I h => ?_⟩
  obtain ⟨F, δ, μ, R, sm, sl, h, kk⟩ := h
  refine wpAny_Call_method m.base m.few m.line PySem.F.plainAttrs_dict PySem.F.slot_dict_get PySem.F.type_dict_get (thn (ho.run pins s σ H _ I (got1 sm sl h)) fun u s1 ⟨v, H1, I1, rx, F1, d, μ1, g, r1, q1⟩ => ?_)
  obtain ⟨a, rfl, t1, t2⟩ := dic_type I1 g.sim.raw r1 q1.1
  obtain rfl : u = Value.ref a := rx
  refine ⟨t1, t2, ?_⟩
  rw [m.trees]
  refine Calls.callWith_builtin rfl (Calls.evalArgs_plain (Calls.spliced_cons (thn (he.run pins s1 σ H1 _ I1 (got1 g.sim (sl.st g) q1.2)) fun iv s2 ⟨y, H2, I2, ry, F2, dy, μ2, g2, r2, q2⟩ =>
    Calls.spliced_cons (thn (hf.run pins s2 σ H2 _ I2 (got1 g2.sim (sl.st (g.trans g2)) q2)) fun fv s3 ⟨z, H3, I3, rz, F3, dz, μ3, g3, r3, q3⟩ => Calls.spliced_nil ?_))))
  obtain ⟨c, r, e1, e2, q3⟩ := q3
  obtain ⟨p, ep, dr⟩ := dic_of g3.sim.raw (r1.st (g2.trans g3)) e1
  cases ep
  obtain ⟨ov, gg, z⟩ := dr.get (r2.st g3) e2
  exact dx_get2 (hu_g hr) I3 gg ry rz fun w' s4 I4 rw' => ⟨_, H3, I4, rw', kk F3 _ H3 _ μ3 ((g.trans g2).trans g3) (getD_ok z r3) q3⟩
/-! {} with tuple keys, tracked -/
def vDict0N : TE3 := fun _ μ R => ∀ q, μ q = none → R (.ref q) (mset μ q (.dcn []))
theorem e_dict0N : E3 X Z (.Dict [] [] pos) vDict0N := by
  refine ⟨fun pins s σ H Q I h => ?_⟩
  obtain ⟨F, δ, μ, R, sm, sl, h, kk⟩ := h
  have hn := I.hok.fresh (Nat.le_refl s.heap.objs.size)
  have g := sm.trkS (o := dcnO X.kn s.heap.objs.size []) (m := .dcn []) hn fun g' e => ⟨[], e, .nil⟩
  exact wpAny_Dict_empty ⟨.ref s.heap.objs.size, _, I.laid (a := s.heap.objs.size) (o := dcnO X.kn s.heap.objs.size []) (t' := s.toks) (fun _ _ q => Heap.get?_push_of_some _ q) (Nat.le_refl _) (dcn_empty (K := X.kn) s.heap I.big), rfl, kk _ _ _ _ _ g (.ref _) (h _ (sm.free hn))⟩
end
end L3

namespace L3
open PySem PySem.Spec PyProof.Rows L2
/-! ### dict comprehensions, keys of either kind -/
def hoE (K : Kn) (nn : Bool) (D : Addr) : HO := if nn then dcnO K D [] else .dK []
def tDcX (K : Kn) (nn : Bool) (wi : TI) (g : TG) (tt : TT) (tk tv : TE) (vs : List Nat) : TE := fun σ H Q => wi σ H fun J H1 => ∀ D, H1 D = none → ∃ W : Nat → Nat → Hp → Prop, (∃ m, W 0 m (upd H1 D (hoE K nn D))) ∧
  ∀ i m H, W i m H → (J.stop i H ∧ Q (.ref D) H) ∨ (J.go i H ∧ ∃ Nx : Hp → Prop, (∀ H', Nx H' → ∃ m', m' < m ∧ W (i + 1) m' H') ∧ ∀ x H', J.yld i H x H' → g x (wipe σ vs) H' fun σ2 H2 => wipe σ2 vs = wipe σ vs ∧
    tt σ2 H2 fun b H3 => if b = true then tk σ2 H3 fun y H4 => tv σ2 H4 fun z H5 => ∃ H6, DPx K H5 D y z H6 ∧ Nx H6 else Nx H3)
section
variable {X : Cx}
theorem empty_ok {nn : Bool} {H : Hp} {P : Program} {w : World} {K : PySem.W.Frag} (h : Heap) (big : sysModules < h.objs.size) : ObjOk P w H (h.push { cls := .type "dict", data := .dict #[] }) h.objs.size (hoE ⟨K, P, w⟩ nn h.objs.size) := by
  cases nn with
  | false => exact dk_empty h big
  | true => exact dcn_empty (K := ⟨K, P, w⟩) h big
theorem dcx_core {ps : List (Addr × Obj)} {st : Shared} {σ : L2.St} {H : Hp} {Q : VK} {use : Option (Value → Sem Unit)} {Qf : Value → Shared → Prop} {kx vx tg iter : Expr} {ifs : List Expr} {scope : Scope} {own : List (Str × Nat)} {pos pos1 : Pos} {nn : Bool} {wi : TI} {g : TG} {tt : TT} {tk tv : TE} (hu : X.A.units < cLine) (calm : X.calm = true) (nod : X.N.Nodup) (walk : PI X tg iter wi) (ok : BlkOk X.N X.env.scope scope own)
    (Tg : ∀ (s : Shared) (H : Hp) (C : Addr) (cl : List (Str × Addr)) (fp : List Addr), PG (X.blk s H scope (compEnvC scope cl C X.env) fp) tg g)
    (Tt : ∀ (s : Shared) (H : Hp) (C : Addr) (cl : List (Str × Addr)) (fp : List Addr), PTs (X.blk s H scope (compEnvC scope cl C X.env) fp) ifs tt)
    (Tk : ∀ (s : Shared) (H : Hp) (C : Addr) (cl : List (Str × Addr)) (fp : List Addr), PE (X.blk s H scope (compEnvC scope cl C X.env) fp) kx tk)
    (Tv : ∀ (s : Shared) (H : Hp) (C : Addr) (cl : List (Str × Addr)) (fp : List Addr), PE (X.blk s H scope (compEnvC scope cl C X.env) fp) vx tv) (fold : ∀ x, foldedSetIterable iter X.env x = pure x) (I0 : Inv X ps σ H st) (rd : tDcX X.kn nn wi g tt tk tv (own.map (·.2)) σ H Q)
    (done : ∀ D C u m G, Inv X ps σ G u → Q (.ref D) G → u.heap.Ns C m → FpOk X ps G C → compPost (model X.prog X.w) X.A X.xe use Qf (.ref D) C (.ok .next) u) :
    wpAny (model X.prog X.w) X.A (comprehension (.DictComp kx vx [⟨tg, iter, ifs, 0⟩] scope pos) scope X.env pos1 newDict false (eval iter X.env) use) Qf X.xe st := by
  have clo : ∀ y ∈ scope.names, y.2 = .free → ∃ c, X.env.cells.lookup y.1 = some c := fun y hy e => (ok.free y hy e).elim (fun q => I0.ok.has _ (.inl q)) fun q => I0.ok.has _ (.inr q)
  refine wpAny_comprehension_free (use := use) rfl fold (closure_ok clo) ok.kind (fun y hy e => by rw [ok.uniq y hy, e]) (thn (walk.run ps st σ H _ I0 rd) fun _ st1 hx => thn hx fun _ st2 found => ?_)
  obtain ⟨it, fp, turn, J, HA, rfl, IA, T, tA, fA, rest⟩ := found
  refine wpAny_newObj_type (newEnv_comp ?_)
  -- D: the new dict; B: the state in which it stands
  obtain ⟨W, ⟨m0, w0⟩, each⟩ := rest st2.heap.objs.size (IA.hok.fresh (Nat.le_refl _))
  have IB : Inv X ps σ (upd HA st2.heap.objs.size (hoE X.kn nn st2.heap.objs.size)) { st2 with heap := st2.heap.push { cls := .type "dict", data := .dict #[] } } :=
    IA.laid (t' := st2.toks) (fun b o e => Heap.get?_push_of_some _ e) (Nat.le_refl _) (empty_ok st2.heap IA.big)
  have below : ∀ b ∈ fp, b < st2.heap.objs.size := fun b hb => let ⟨o, e, _⟩ := T.obj _ _ tA b hb; Heap.lt_size e
  generalize eD : st2.heap.objs.size = D at *
  generalize eB : ({ st2 with heap := st2.heap.push { cls := .type "dict", data := .dict #[] } } : Shared) = B at IB
  have hB : B.heap = st2.heap.push { cls := .type "dict", data := .dict #[] } := by rw [← eB]
  have fB : ∀ b ∈ fp, FpOk X ps (upd HA D (hoE X.kn nn D)) b ∧ b < B.heap.objs.size := fun b hb =>
    ⟨⟨by rw [upd_ne (Nat.ne_of_lt (below b hb))]; exact (fA b hb).1, (fA b hb).2⟩, by rw [hB, Heap.size_push, eD]; exact Nat.lt_succ_of_lt (below b hb)⟩
  have tB : turn 0 B.heap := T.keep _ _ _ tA fun b _ o e => by rw [hB]; exact Heap.get?_push_of_some _ e
  have IC := block_start IB ok nod fB
  generalize eH : upd HA D (hoE X.kn nn D) = HB at IB IC w0 fB
  generalize eCl : cellsFrom (B.heap.objs.size + 1) scope.names (cloFrom X.env.cells scope.names []) = cl at IC
  have pg := Tg B HB B.heap.objs.size cl fp
  have pt := Tt B HB B.heap.objs.size cl fp
  have pk := Tk B HB B.heap.objs.size cl fp
  have pv := Tv B HB B.heap.objs.size cl fp
  show codeAny _ _ (.compStart (.DictComp kx vx [⟨tg, iter, ifs, 0⟩] scope pos) 0 (.ref it) (.ref D) (compEnvC scope cl B.heap.objs.size X.env)) (compPost (model X.prog X.w) X.A X.xe use Qf (.ref D) B.heap.objs.size) { B with heap := pushCells (B.heap.push { cls := .type "dict", data := .dict #[] }) scope.names }
  generalize eE : compEnvC scope cl B.heap.objs.size X.env = ce at IC pg pt pk pv ⊢
  have cL : ce.locals = B.heap.objs.size := by subst eE; rfl
  generalize eC : ({ B with heap := pushCells (B.heap.push { cls := .type "dict", data := .dict #[] }) scope.names } : Shared) = C at IC ⊢
  have tC : turn 0 C.heap := T.keep _ _ _ tB fun b _ o e => by rw [← eC]; exact pushCells_keeps _ _ _ _ (Heap.get?_push_of_some _ e)
  have free : ∀ {τ : L2.St} {G : Hp} {u : Shared}, Inv (X.blk B HB scope ce fp) [] τ G u → (∀ b ∈ fp, G b = none) → ∀ b ∈ fp, FpOk (X.blk B HB scope ce fp) [] G b := fun {τ G u} J' hn b hb =>
    ⟨hn b hb, (J'.ok.exf b hb).1, J'.ok.exfs b hb, .inl hb, fun x c e => (J'.ok.exf b hb).2 x c e, fun p hp => absurd (show p ∈ ([] : List (Addr × Obj)) ++ [] from hp) (by simp)⟩
  have loop : codeAny (model X.prog X.w) X.A (.compLoop (.DictComp kx vx [⟨tg, iter, ifs, 0⟩] scope pos) 0 (.ref it) (.ref D) ce) (compPost (model X.prog X.w) X.A X.xe use Qf (.ref D) B.heap.objs.size) C := by
    refine compLoop_anyD (fun n u => ∃ i G, Inv (X.blk B HB scope ce fp) [] (wipe σ (own.map (·.2))) G u ∧ turn i u.heap ∧ (∀ b ∈ fp, G b = none) ∧ W i n G) ?_ m0 ⟨0, HB, IC, tC, fun b hb => (fB b hb).1.1, w0⟩
    rintro n u ⟨i, G, J5, t5, n5, w5⟩
    rcases each i n G w5 with ⟨stop, q⟩ | ⟨go, Nx, down, body⟩
    · refine thnF (T.done (X.blk B HB scope ce fp) rfl rfl rfl calm i [] u _ G (fun _ _ => False) J5 (free J5 n5) t5 stop) fun r u6 ⟨hr, J6⟩ => ?_
      subst hr
      have back : Inv X ps σ G u6 := IB.call' (ch := fp) J6.os J6.base J6.hok J6.bare fun b hb => ⟨(fB b hb).1.2.2.2.1, (fB b hb).1.2.1, (fB b hb).1.2.2.2.2.1, (fB b hb).1.2.2.2.2.2⟩
      have nC : G B.heap.objs.size = none := cL ▸ J6.free
      obtain ⟨m, ns, _⟩ := J6.loc
      exact done D B.heap.objs.size u6 m G back q (cL ▸ (show u6.heap.Ns ce.locals m from ns)) (IB.fpOk (Nat.le_refl B.heap.objs.size) nC)
    · refine thnF (T.item (X.blk B HB scope ce fp) rfl rfl rfl calm i [] u _ G (fun _ _ => False) J5 (free J5 n5) t5 go) fun r u6 ⟨v, hr, h6⟩ => ?_
      subst hr
      refine thnF h6 fun _ u7 ⟨x, G7, J7, r7, y7, t7, n7⟩ => ?_
      refine thnF (pg.run _ u7 _ G7 x v _ (J7.pinned (free J7 n7) (T.obj _ _ t7)) r7 (body x G7 y7)) fun _ u8 ⟨τ, G8, J8, w8, q8⟩ => ?_
      refine thnF (pt.run _ u8 τ G8 _ J8 q8) fun b u9 ⟨G9, J9, q9⟩ => ?_
      have next : ∀ {u' : Shared} {G' : Hp}, Inv (X.blk B HB scope ce fp) ([] ++ pinsAt fp u7.heap) τ G' u' → Nx G' → ∃ m, m < n ∧ ∃ i G, Inv (X.blk B HB scope ce fp) [] (wipe σ (own.map (·.2))) G u' ∧ turn i u'.heap ∧ (∀ b ∈ fp, G b = none) ∧ W i m G := fun {u' G'} J' nx => by
        obtain ⟨m', lt, w'⟩ := down G' nx
        have pins : ∀ b ∈ fp, ∀ o, u7.heap.get? b = some o → u'.heap.get? b = some o ∧ G' b = none := fun b hb o e =>
          let z := J'.pin (b, o) (List.mem_append_right _ (List.mem_append_right _ (mem_pinsAt hb e)))
          ⟨z.1, z.2.1⟩
        refine ⟨m', lt, i + 1, G', (J'.unpinned (pins := [])).weak (by rw [← w8, wipe_length]) (fun j v e => (wipe_some (w8 ▸ e)).1), T.keep _ _ _ t7 fun b hb o e => (pins b hb o e).1, fun b hb => ?_, w'⟩
        obtain ⟨o, e, _⟩ := T.obj _ _ t7 b hb
        exact (pins b hb o e).2
      cases b with
      | false => exact next J9 (by simpa using q9)
      | true =>
        rw [if_pos rfl] at q9 ⊢
        refine thnF (pk.run _ u9 τ G9 _ J9 q9) fun z u10 ⟨yk, G10, J10, r10, q10⟩ => ?_
        refine thnF (pv.run _ u10 τ G10 _ J10 q10) fun z2 u11 ⟨yv, G11, J11, r11, G12, dp, nx⟩ => ?_
        exact dx_cset (X := X.blk B HB scope ce fp) hu J11 dp r10 r11 fun u12 J12 => next J12 nx
  exact codeAny_compStart_dict loop (T.self X.A 0 _ _ _ tC loop)
theorem pe_dcX {kx vx tg iter : Expr} {ifs : List Expr} {scope : Scope} {own : List (Str × Nat)} {pos : Pos} {nn : Bool} {wi : TI} {g : TG} {tt : TT} {tk tv : TE} (hu : X.A.units < cLine) (calm : X.calm = true) (nod : X.N.Nodup) (walk : PI X tg iter wi) (ok : BlkOk X.N X.env.scope scope own)
    (Tg : ∀ (s : Shared) (H : Hp) (C : Addr) (cl : List (Str × Addr)) (fp : List Addr), PG (X.blk s H scope (compEnvC scope cl C X.env) fp) tg g)
    (Tt : ∀ (s : Shared) (H : Hp) (C : Addr) (cl : List (Str × Addr)) (fp : List Addr), PTs (X.blk s H scope (compEnvC scope cl C X.env) fp) ifs tt)
    (Tk : ∀ (s : Shared) (H : Hp) (C : Addr) (cl : List (Str × Addr)) (fp : List Addr), PE (X.blk s H scope (compEnvC scope cl C X.env) fp) kx tk)
    (Tv : ∀ (s : Shared) (H : Hp) (C : Addr) (cl : List (Str × Addr)) (fp : List Addr), PE (X.blk s H scope (compEnvC scope cl C X.env) fp) vx tv) (fold : ∀ x, foldedSetIterable iter X.env x = pure x := by intro _; rfl) :
    PE X (.DictComp kx vx [⟨tg, iter, ifs, 0⟩] scope pos) (tDcX X.kn nn wi g tt tk tv (own.map (·.2))) := by
  refine ⟨fun ps st σ H Q I0 rd => ?_⟩
  rw [arm_eval_DictComp]
  refine dcx_core hu calm nod walk ok Tg Tt Tk Tv fold I0 rd fun D C u m G J q ns ⟨f0, f1, f2, f3, f4, f5⟩ => ⟨m, ns, fun h'' sb => ?_⟩
  exact ⟨.ref D, G, J.turned (t' := u.toks) (fun b o hb e => (sb.2 b hb).trans e) f0 f1 f3 f4 f5, rfl, q⟩
/-- y = {..}, y a local name that is no cell -/
theorem ps_setDcX {i : Nat} {y : Str} {py : Pos} {kx vx tg iter : Expr} {ifs : List Expr} {scope : Scope} {own : List (Str × Nat)} {pos spos : Pos} {nn : Bool} {wi : TI} {g : TG} {tt : TT} {tk tv : TE} (hu : X.A.units < cLine) (calm : X.calm = true) (nod : X.N.Nodup) (hy : X.N[i]? = some y) (hyl : X.env.scope.names.lookup y = some .local)
    (hsw : swapsWith (.DictComp kx vx [⟨tg, iter, ifs, 0⟩] scope pos) (some (.Name y py)) spos.line X.env = pure true) (walk : PI X tg iter wi) (ok : BlkOk X.N X.env.scope scope own)
    (Tg : ∀ (s : Shared) (H : Hp) (C : Addr) (cl : List (Str × Addr)) (fp : List Addr), PG (X.blk s H scope (compEnvC scope cl C X.env) fp) tg g)
    (Tt : ∀ (s : Shared) (H : Hp) (C : Addr) (cl : List (Str × Addr)) (fp : List Addr), PTs (X.blk s H scope (compEnvC scope cl C X.env) fp) ifs tt)
    (Tk : ∀ (s : Shared) (H : Hp) (C : Addr) (cl : List (Str × Addr)) (fp : List Addr), PE (X.blk s H scope (compEnvC scope cl C X.env) fp) kx tk)
    (Tv : ∀ (s : Shared) (H : Hp) (C : Addr) (cl : List (Str × Addr)) (fp : List Addr), PE (X.blk s H scope (compEnvC scope cl C X.env) fp) vx tv) (fold : ∀ x, foldedSetIterable iter X.env x = pure x := by intro _; rfl) :
    PS X (.Assign [.Name y py] (.DictComp kx vx [⟨tg, iter, ifs, 0⟩] scope pos) spos) (tAsg (tDcX X.kn nn wi g tt tk tv (own.map (·.2))) (gName i)) := by
  refine ⟨fun ps st σ H D I0 rd => ?_⟩
  rw [exec_Assign_Name_used _ _ _ _ hsw]
  refine wpAny_bind (wpAny_standAt (wpAny_bind ?_))
  have rd' : tDcX X.kn nn wi g tt tk tv (own.map (·.2)) σ H (fun x H1 => gName i x σ H1 D.nx) := rd
  show wpAny _ X.A (comprehension (.DictComp kx vx [⟨tg, iter, ifs, 0⟩] scope pos) scope X.env (firstIterPos [⟨tg, iter, ifs, 0⟩] pos) newDict false (eval iter X.env) (some (assign (.Name y py) X.env)) >>= fun _ => _) _ _ st
  refine wpAny_bind (thn (dcx_core (Qf := fun _ u => SP X ps D .next u) hu calm nod walk ok Tg Tt Tk Tv fold I0 rd' fun L C u m G J q ns f => ?_) fun _ u hq => wpAny_pure (wpAny_pure hq))
  show wpAny _ _ (assign (.Name y py) X.env (.ref L)) _ _ _
  refine wpAny_assign_Name (store_ok2 (v := V.ref L) J nod hy (.inl hyl) rfl (fun u2 J2 ⟨b, sb, hb⟩ => ?_) (.inr hyl))
  obtain ⟨f0, f1, f2, f3, f4, f5⟩ := f
  have apart : C ≠ b := hb.elim (fun z => by rw [z]; exact f1) fun z e => f4 y b z e.symm
  exact ⟨m, ns.sameBut sb apart, fun h3 sb3 => ⟨_, G, J2.turned (t' := u2.toks) (fun b o hb e => (sb3.2 b hb).trans e) f0 f1 f3 f4 f5, q⟩⟩
theorem sw_dict {kx vx : Expr} {gs : List Comprehension} {scope : Scope} {pos py : Pos} {y : Str} {l : Nat} {env : Env} (hk : env.scope.kind = .function) (hy : env.scope.names.lookup y = some .local) (hl : (py.line == pos.line) = true)
    (ha : (scope.names.any fun (n, k) => n == y && (k == .local || k == .cell)) = false) : swapsWith (.DictComp kx vx gs scope pos) (some (.Name y py)) l env = pure true := by
  have h1 : env.kindOf y = some .local := hy
  have h2 : env.blockKind = .function := by unfold Env.blockKind; rw [hk]; rfl
  unfold swapsWith
  simp only [h1, h2, Expr.pos, hl, ha]
  rfl
end
end L3

namespace L3
open PySem PySem.Spec PyProof.Rows L2
section
variable {K : Kn} {Z : Zn K} {F F' : Addr → Prop} {H H' : Hp} {μ μ' : Mu}
/-- a frozen dict is locked for good -/
theorem Sim.lockS {d : Addr} {od : Obj} {ks : List (Key × V)} (s : Sim Z F H μ) (f : F d) (e : H d = some (.dK ks)) : Step Z F H μ F (upd H d (.frz od (.dK ks))) μ := by
  have g : Grow F H F (upd H d (.frz od (.dK ks))) := by
    refine ⟨fun _ h => h, fun a u fa h => ?_, fun a u fa i h => ?_⟩
    · by_cases q : a = d
      · subst q
        rcases h with h | ⟨o, h⟩
        · rw [e] at h; cases h; exact .inr ⟨od, upd_same⟩
        · rw [e] at h; cases h
      · rcases h with h | ⟨o, h⟩
        · exact .inl (by rw [upd_ne q]; exact h)
        · exact .inr ⟨o, by rw [upd_ne q]; exact h⟩
    · have q : a ≠ d := fun q => by subst q; rw [e] at h; cases h; cases i
      rw [upd_ne q]; exact h
  refine s.step g (fun a u h n z => ?_) ⟨fun a fa => ?_, fun a o h => ?_⟩
  · have q : a ≠ d := fun q => z (q ▸ f)
    exact ⟨n, by rw [upd_ne q]; exact h, z⟩
  · by_cases q : a = d
    · subst q; exact ⟨_, upd_same⟩
    · rw [upd_ne q]; exact s.dom a fa
  · obtain ⟨nf, m⟩ := s.obj a o h
    have q : a ≠ d := fun q => nf (q ▸ f)
    refine ⟨nf, ?_⟩
    cases o with
    | lst xs => obtain ⟨vs, e, r⟩ := m; exact ⟨vs, by rw [upd_ne q]; exact e, r.grow g⟩
    | dct kvs => obtain ⟨vs, e, r⟩ := m; exact ⟨vs, by rw [upd_ne q]; exact e, r.grow g⟩
    | dcn kvs => obtain ⟨vs, e, r⟩ := m; exact ⟨vs, by rw [upd_ne q]; exact e, r.grow g⟩
    | ins n fs => obtain ⟨C, dx, vs, c, e, r⟩ := m; exact ⟨C, dx, vs, c, by rw [upd_ne q]; exact e, r.grow g⟩
/-- a private object is tracked at last -/
theorem Step.trk1 {p : Addr} {m : MO} (s0 : Sim Z F H μ) (s : Step Z F H μ F' H' μ') (hp : H p = none) (nF : ¬ F' p) (nμ : μ' p = none) (ok : MoOk K F' H' p m) : Step Z F H μ F' H' (mset μ' p m) := by
  refine s0.step s.grow (fun a u h n z => ?_) ⟨s.sim.dom, fun a o h => ?_⟩
  · obtain ⟨n1, h1, f1⟩ := s.fm a u h n z
    exact ⟨by rw [mset_ne (ne_of_none h hp)]; exact n1, h1, f1⟩
  · by_cases q : a = p
    · subst q
      rw [mset_same] at h
      cases h
      exact ⟨nF, ok⟩
    · rw [mset_ne q] at h
      exact s.sim.obj a o h
end
/-! ### what is walked -/
def pairD (kv : Key × D) : D := .tup [keyD kv.1, kv.2]
theorem key_rp {K : Kn} {F : Addr → Prop} {H : Hp} (k : Key) : Rp K F H (keyD k) (kV k) := by
  cases k with
  | inl i => exact .int i
  | inr x => exact .str x
theorem Rpk.get {K : Kn} {F : Addr → Prop} {H : Hp} : ∀ {ds : List (Key × D)} {vs : List (Key × V)} {i : Nat} {k : Key} {v : V}, Rpk K F H ds vs → vs[i]? = some (k, v) → ∃ d, ds[i]? = some (k, d) ∧ Rp K F H d v
  | _, _, _, _, _, .nil, e => by simp at e
  | _, _, 0, _, _, .cons h _, e => by simp at e; obtain ⟨rfl, rfl⟩ := e; exact ⟨_, rfl, h⟩
  | _, _, i + 1, _, _, .cons _ r, e => by
    obtain ⟨d, e1, h⟩ := Rpk.get (i := i) r (by simpa using e)
    exact ⟨d, by simpa using e1, h⟩
section
variable {X : Cx} {Z : Zn X.kn} {tg e a b c : Expr} {es : List Expr} {te ta tb tc : TE3} {tr : TA3} {pos p apos cpos : Pos} {x : Str}
/-- what is evaluated, then locked -/
theorem pe_lockA {td : TE} (h : PE X e td) : PE X e (fun σ H Q => td σ H fun x H1 => ∃ d kvs, x = .ref d ∧ ((H1 d = some (.dK kvs) ∧ ∀ od, Q x (upd H1 d (.frz od (.dK kvs)))) ∨ Q x H1)) := by
  refine ⟨fun pins s σ H Q I hw => thn (h.run pins s σ H _ I hw) fun u s1 ⟨x, H1, I1, r1, d, kvs, ex, q⟩ => ?_⟩
  rcases q with ⟨e1, q⟩ | q
  · obtain ⟨od, I2⟩ := I1.lock e1 True.intro
    exact ⟨x, _, I2, r1, q od⟩
  · exact ⟨x, H1, I1, r1, q⟩
/-- the dict's walk behind the lock -/
theorem lock_low {te : TE3} {σ : L2.St} {H : Hp} {R : V → Hp → Prop} {R3 : DK} {F : Addr → Prop} {δ : St3} {μ : Mu} (s : Sim Z F H μ) (sl : Sl X.kn F H σ δ) (h : te δ μ R3) (hd : ∀ d μ, R3 d μ → ∃ kvs, d = .dct kvs)
    (k : ∀ F1 H1 μ1 d od kvs ks, Step Z F H μ F1 H1 μ1 → F1 d → H1 d = some (.frz od (.dK ks)) → Rpk X.kn F1 H1 kvs ks → R3 (.dct kvs) μ1 → R (.ref d) H1) :
    low Z te σ H fun x H1 => ∃ d kvs, x = .ref d ∧ ((H1 d = some (.dK kvs) ∧ ∀ od, R x (upd H1 d (.frz od (.dK kvs)))) ∨ R x H1) := by
  refine ⟨F, δ, μ, _, s, sl, h, fun F1 v H1 d μ1 g r1 q1 => ?_⟩
  obtain ⟨kvs, rfl⟩ := hd d μ1 q1
  cases r1 with
  | @dct _ ks a f e rs =>
    refine ⟨a, ks, rfl, ?_⟩
    rcases e with e | ⟨od, e⟩
    · refine .inl ⟨e, fun od => ?_⟩
      have g2 := g.sim.lockS (od := od) f e
      exact k F1 _ μ1 a od kvs ks (g.trans g2) f upd_same (rs.st g2) q1
    · exact .inr (k F1 H1 μ1 a od kvs ks g f e rs q1)
def iItm (te : TE3) : TI3 := fun δ μ R => te δ μ fun d μ1 => ∃ kvs, d = .dct kvs ∧ R (kvs.map pairD) (fun _ => True) μ1
theorem iti_ok {F : Addr → Prop} {H : Hp} {μ : Mu} {d : Addr} {od : Obj} {kvs : List (Key × D)} {ks : List (Key × V)} (f : F d) (e : H d = some (.frz od (.dK ks))) (rs : Rpk X.kn F H kvs ks) : ItOk Z F H μ (kvs.map pairD) (fun _ => True) (Iti d od ks) := by
  have hl : (kvs.map pairD).length = ks.length := by rw [List.length_map, rs.length]
  refine ⟨fun F1 H1 μ1 i g _ hi => ⟨g.grow.fix _ _ f rfl e, by rw [← hl]; exact hi⟩, fun F1 H1 μ1 g _ => ⟨g.grow.fix _ _ f rfl e, by rw [hl]; exact Nat.le_refl _⟩, fun F1 H1 μ1 i x H2 g _ hy hi => ?_⟩
  obtain ⟨T, k, v, e1, rfl, nT, rfl⟩ := hy
  obtain ⟨dd, e2, r2⟩ := (rs.st g).get e1
  have g2 := g.sim.frzS (o := .tup [kV k, v]) nT
  exact ⟨_, pairD (k, dd), g2, by rw [List.getElem?_map, e2]; rfl, .tup (.inr rfl) upd_same (.cons (key_rp k) (.cons (r2.st g2) .nil))⟩
theorem i_items {elts : List Expr} {kk : Nat} {tpos : Pos} (he : E3 X Z e te) (hbase : attributeBase e "items" X.env (eval e X.env) = eval e X.env := by rfl) (hline : (apos.endLine == cpos.line) = true := by rfl) : I3 X Z (.Tuple elts kk tpos) (.Call (.Attribute e "items" apos) [] [] cpos) (iItm te) :=
  (pi_items (pe_lockA he) hbase hline).imp fun σ H R h => by
    obtain ⟨F, δ, μ, R3, s, sl, h, k⟩ := h
    refine lock_low (R := fun x H1 => ∃ d o kvs, x = .ref d ∧ H1 d = some (.frz o (.dK kvs)) ∧ R (Iti d o kvs) H1) s sl h (fun d μ ⟨kvs, e, _⟩ => ⟨kvs, e⟩) fun F1 H1 μ1 d od kvs ks g f e1 rs q => ?_
    obtain ⟨kvs', e2, q⟩ := q
    cases e2
    exact ⟨d, od, ks, rfl, e1, k F1 H1 _ _ μ1 _ g (iti_ok f e1 rs) q⟩
def iVal (te : TE3) : TI3 := fun δ μ R => te δ μ fun d μ1 => ∃ kvs, d = .dct kvs ∧ R (kvs.map (·.2)) (fun _ => True) μ1
theorem itd_ok {F : Addr → Prop} {H : Hp} {μ : Mu} {d : Addr} {od : Obj} {kvs : List (Key × D)} {ks : List (Key × V)} (f : F d) (e : H d = some (.frz od (.dK ks))) (rs : Rpk X.kn F H kvs ks) : ItOk Z F H μ (kvs.map (·.2)) (fun _ => True) (Itd d od ks) := by
  have hl : (kvs.map (·.2)).length = ks.length := by rw [List.length_map, rs.length]
  refine ⟨fun F1 H1 μ1 i g _ hi => ⟨g.grow.fix _ _ f rfl e, by rw [← hl]; exact hi⟩, fun F1 H1 μ1 g _ => ⟨g.grow.fix _ _ f rfl e, by rw [hl]; exact Nat.le_refl _⟩, fun F1 H1 μ1 i x H2 g _ hy hi => ?_⟩
  obtain ⟨rfl, k, e1⟩ := hy
  obtain ⟨dd, e2, r2⟩ := (rs.st g).get e1
  exact ⟨F1, dd, Step.refl g.sim, by rw [List.getElem?_map, e2]; rfl, r2⟩
theorem i_values (he : E3 X Z e te) (hbase : attributeBase e "values" X.env (eval e X.env) = eval e X.env := by rfl) (hline : (apos.endLine == cpos.line) = true := by rfl) : I3 X Z tg (.Call (.Attribute e "values" apos) [] [] cpos) (iVal te) :=
  (pi_values (pe_lockA he) hbase hline).imp fun σ H R h => by
    obtain ⟨F, δ, μ, R3, s, sl, h, k⟩ := h
    refine lock_low (R := fun x H1 => ∃ d o kvs, x = .ref d ∧ H1 d = some (.frz o (.dK kvs)) ∧ R (Itd d o kvs) H1) s sl h (fun d μ ⟨kvs, e, _⟩ => ⟨kvs, e⟩) fun F1 H1 μ1 d od kvs ks g f e1 rs q => ?_
    obtain ⟨kvs', e2, q⟩ := q
    cases e2
    exact ⟨d, od, ks, rfl, e1, k F1 H1 _ _ μ1 _ g (itd_ok f e1 rs) q⟩
/-- a list, a tuple, a text, a dict: whichever it turns out to be -/
def iAnyV (K : PySem.W.Frag) (tl : TE) : TI := fun σ H R => tl σ H fun x H1 => (∃ z, x = .str z ∧ R (Its z) H1) ∨ ∃ a, x = .ref a ∧ (((∃ ys, SqL K H1 a ys) ∧ R (Itl K a) H1) ∨ ((∃ ys, SqT K H1 a ys) ∧ R (Itt K a) H1) ∨
  (∃ kvs, H1 a = some (.dK kvs) ∧ ∀ o, R (Itk a o kvs) (upd H1 a (.frz o (.dK kvs)))) ∨ ∃ o kvs, H1 a = some (.frz o (.dK kvs)) ∧ R (Itk a o kvs) H1)
theorem pi_any {l : Expr} {tl : TE} (hl : PE X l tl) : PI X tg l (iAnyV X.K tl) := by
  refine ⟨fun ps st σ H R I h => thn (hl.run ps st σ H _ I h) fun v st1 ⟨x, H1, J, rx, z⟩ => ?_⟩
  rcases z with ⟨w, rfl, q⟩ | ⟨a, rfl, z⟩
  · obtain ⟨t, rfl⟩ := (show ∃ t, v = Value.str w t from rx)
    cases ha : w.cps.all (· < 128)
    · exact wpAny_pyIter_wide ha (pi_one (tk := st1.toks) J _ (turn_str _ w t "str_iterator" (.inr rfl)) ⟨_, Heap.get?_push_size _ rfl, rfl, rfl⟩ q)
    · exact wpAny_pyIter_ascii ha (pi_one (tk := st1.toks) J _ (turn_str _ w t "str_ascii_iterator" (.inl rfl)) ⟨_, Heap.get?_push_size _ rfl, rfl, rfl⟩ q)
  cases rx
  have fp : ∀ b ∈ [st1.heap.objs.size], FpOk X ps H1 b := fun b hb => by
    obtain rfl : b = st1.heap.objs.size := List.mem_singleton.mp hb
    exact J.fpOk (Nat.le_refl _) (J.hok.fresh (Nat.le_refl _))
  have dict : ∀ {H2 : Hp} {o : Obj} {kvs : List (Key × V)}, Inv X ps σ H2 st1 → H2 a = some (.frz o (.dK kvs)) → R (Itk a o kvs) H2 → wpAny (model X.prog X.w) X.A (pyIter (.ref a)) (PIE X ps σ tg R) X.xe st1 := fun {H2 o kvs} J2 e q => by
    obtain ⟨hs, hgd, hx, es, ep, vs, hdt, hsz, kv, hm⟩ := J2.frzK e
    refine iter_keys hs hgd hx hdt (pi_one (tk := st1.toks) J2 _ (turn_keys _ hdt) ⟨_, Heap.get?_push_size _ rfl, rfl, ?_⟩ q)
    rw [hsz] <;> rfl
  rcases z with ⟨⟨ys, sq⟩, z⟩ | ⟨⟨ys, sq⟩, z⟩ | ⟨kvs, e, z⟩ | ⟨o, kvs, e, z⟩
  · obtain ⟨us, _, pl, _⟩ := J.list sq
    exact wpAny_pyIter_list pl.isList ⟨_, _, _, _, H1, rfl, J.kept (t' := st1.toks) fun _ _ w => Heap.get?_push_of_some _ w, turn_list a _, ⟨_, Heap.get?_push_size _ rfl, rfl, rfl⟩, fp, z⟩
  · obtain ⟨us, _, pl, _⟩ := J.tuple sq
    exact wpAny_pyIter_tuple (show st1.heap.IsTuple a us.toArray from pl) ⟨_, _, _, _, H1, rfl, J.kept (t' := st1.toks) fun _ _ w => Heap.get?_push_of_some _ w, turn_tuple a _, ⟨_, Heap.get?_push_size _ rfl, rfl, rfl⟩, fp, z⟩
  · obtain ⟨od, J2⟩ := J.lock e True.intro
    exact dict J2 upd_same (z od)
  · exact dict J e z
def anyI (R : List D → (Mu → Prop) → Mu → Prop) (μ1 : Mu) : D → Prop
  | .lst xs => R xs (fun _ => True) μ1
  | .scr xs => R xs (fun _ => True) μ1
  | .tup xs => R xs (fun _ => True) μ1
  | .str z => R (signsD z) (fun _ => True) μ1
  | .dct kvs => R (kvs.map fun kv => keyD kv.1) (fun _ => True) μ1
  | .ref a => ∃ xs, μ1 a = some (.lst xs) ∧ R xs (fun μ => μ a = some (.lst xs)) μ1
  | _ => False
def iAny (te : TE3) : TI3 := fun δ μ R => te δ μ fun d μ1 => anyI R μ1 d
theorem itk_ok {F : Addr → Prop} {H : Hp} {μ : Mu} {d : Addr} {od : Obj} {kvs : List (Key × D)} {ks : List (Key × V)} (f : F d) (e : H d = some (.frz od (.dK ks))) (rs : Rpk X.kn F H kvs ks) : ItOk Z F H μ (kvs.map fun kv => keyD kv.1) (fun _ => True) (Itk d od ks) := by
  have hl : (kvs.map fun kv => keyD kv.1).length = ks.length := by rw [List.length_map, rs.length]
  refine ⟨fun F1 H1 μ1 i g _ hi => ⟨g.grow.fix _ _ f rfl e, by rw [← hl]; exact hi⟩, fun F1 H1 μ1 g _ => ⟨g.grow.fix _ _ f rfl e, by rw [hl]; exact Nat.le_refl _⟩, fun F1 H1 μ1 i x H2 g _ hy hi => ?_⟩
  obtain ⟨rfl, k, v, e1, rfl⟩ := hy
  obtain ⟨dd, e2, r2⟩ := (rs.st g).get e1
  exact ⟨F1, keyD k, Step.refl g.sim, by rw [List.getElem?_map, e2]; rfl, key_rp k⟩
theorem i_any (he : E3 X Z e te) : I3 X Z tg e (iAny te) := (pi_any he).imp fun σ H R3 h => by
  obtain ⟨F, δ, μ, R, s, sl, h, k⟩ := h
  refine ⟨F, δ, μ, _, s, sl, h, fun F1 v H1 d μ1 g r1 q1 => ?_⟩
  cases r1 with
  | str z => exact .inl ⟨z, rfl, k F1 H1 _ _ μ1 _ g its_ok q1⟩
  | lst f e rs => exact .inr ⟨_, rfl, .inl ⟨⟨_, SqL.of e⟩, k F1 H1 _ _ μ1 _ g (itl_ok fun F2 H2 μ2 g2 _ => lst_at (.lst f e rs) g2) q1⟩⟩
  | scr f rs => exact .inr ⟨_, rfl, .inl ⟨⟨_, f.sq⟩, k F1 H1 _ _ μ1 _ g (itl_ok fun F2 H2 μ2 g2 _ => scr_at (.scr f rs) g2) q1⟩⟩
  | tup f e rs => exact .inr ⟨_, rfl, .inr (.inl ⟨⟨_, SqT.of e⟩, k F1 H1 _ _ μ1 _ g (itt_ok fun F2 H2 μ2 g2 _ => tup_at (.tup f e rs) g2) q1⟩)⟩
  | @dct kvs ks a f e rs =>
    refine .inr ⟨a, rfl, .inr (.inr ?_)⟩
    rcases e with e | ⟨od, e⟩
    · refine .inl ⟨ks, e, fun od => ?_⟩
      have g2 := g.sim.lockS (od := od) f e
      exact k F1 _ _ _ μ1 _ (g.trans g2) (itk_ok f upd_same (rs.st g2)) q1
    · exact .inr ⟨od, ks, e, k F1 H1 _ _ μ1 _ g (itk_ok f e rs) q1⟩
  | ref a =>
    obtain ⟨xs, em, q1⟩ := q1
    refine .inr ⟨a, rfl, .inl ⟨?_, k F1 H1 _ _ μ1 _ g (itl_ok fun F2 H2 μ2 g2 hp => ?_) q1⟩⟩
    · obtain ⟨_, vs, e3, rs⟩ := g.sim.obj _ _ em
      exact ⟨vs, SqL.of e3⟩
    · obtain ⟨_, vs, e3, rs⟩ := g2.sim.obj _ _ hp
      exact ⟨vs, SqL.of e3, rs⟩
  | _ => exact (show False from q1).elim
/-! enumerate, zip, range with a step -/
def enumD (ds : List D) : List D := (List.range ds.length).zipWith (fun i d => .tup [.int (i : Nat), d]) ds
def enmI (R : List D → (Mu → Prop) → Mu → Prop) (μ1 : Mu) : List D → Prop
  | [.lst xs] => R (enumD xs) (fun _ => True) μ1
  | [.scr xs] => R (enumD xs) (fun _ => True) μ1
  | [.ref a] => ∃ xs, μ1 a = some (.lst xs) ∧ R (enumD xs) (fun μ => μ a = some (.lst xs)) μ1
  | _ => False
def iEnm (ta : TA3) : TI3 := fun δ μ R => ta δ μ fun ds μ1 => enmI R μ1 ds
theorem enum_len (ds : List D) : (enumD ds).length = ds.length := by simp [enumD]
theorem enum_get {ds : List D} {i : Nat} {d : D} (h : ds[i]? = some d) : (enumD ds)[i]? = some (.tup [.int (i : Nat), d]) := by
  have hi : i < ds.length := (List.getElem?_eq_some_iff.mp h).1
  unfold enumD
  rw [List.getElem?_zipWith, List.getElem?_range hi, h]
theorem ite_ok {F : Addr → Prop} {H : Hp} {μ : Mu} {ds : List D} {Pm : Mu → Prop} {a : Addr} (h : ∀ F1 H1 μ1, Step Z F H μ F1 H1 μ1 → Pm μ1 → ∃ vs, SqL X.K H1 a vs ∧ Rps X.kn F1 H1 ds vs) : ItOk Z F H μ (enumD ds) Pm (Ite X.K a) := by
  refine ⟨fun F1 H1 μ1 i g hp hi => ?_, fun F1 H1 μ1 g hp => ?_, fun F1 H1 μ1 i x H2 g hp hy hi => ?_⟩
  · obtain ⟨vs, sq, rs⟩ := h F1 H1 μ1 g hp
    rw [enum_len] at hi
    obtain ⟨v, ev, _⟩ := rs.get (List.getElem?_eq_getElem hi)
    exact ⟨vs, v, sq, ev⟩
  · obtain ⟨vs, sq, rs⟩ := h F1 H1 μ1 g hp
    exact ⟨vs, sq, by rw [enum_len, rs.length]; exact Nat.le_refl _⟩
  · obtain ⟨vs, sq, rs⟩ := h F1 H1 μ1 g hp
    obtain ⟨T, y, rfl, nT, rfl, hy⟩ := hy
    obtain ⟨d, ed, rd⟩ := rs.back (hy vs sq)
    have g2 := g.sim.frzS (o := .tup [.int (i : Nat), y]) nT
    exact ⟨_, _, g2, enum_get ed, .tup (.inr rfl) upd_same (.cons (.int _) (.cons (rd.st g2) .nil))⟩
theorem i_enum {elts : List Expr} {kk : Nat} {tpos : Pos} (hm : X.mg "enumerate" = none) (ha : A3 X Z [e] tr) (hg : Gl X "enumerate" := by rfl) (hs : starEach [e] X.env = [(false, eval e X.env)] := by rfl) : I3 X Z (.Tuple elts kk tpos) (.Call (.Name "enumerate" p) [e] [] pos) (iEnm tr) := (pi_enum hg hm ha hs).imp fun σ H R3 h => by
  obtain ⟨F, δ, μ, R, s, sl, h, k⟩ := h
  refine ⟨F, δ, μ, _, s, sl, h, fun F1 vs H1 ds μ1 g r1 q1 => ?_⟩
  cases r1 with
  | nil => exact q1.elim
  | cons r t =>
  cases t with
  | cons _ _ => cases r <;> exact (show False from q1).elim
  | nil =>
  cases r with
  | lst f e rs => exact ⟨_, _, rfl, SqL.of e, k F1 H1 _ _ μ1 _ g (ite_ok fun F2 H2 μ2 g2 _ => lst_at (.lst f e rs) g2) q1⟩
  | scr f rs => exact ⟨_, _, rfl, f.sq, k F1 H1 _ _ μ1 _ g (ite_ok fun F2 H2 μ2 g2 _ => scr_at (.scr f rs) g2) q1⟩
  | ref a =>
    obtain ⟨xs, em, q1⟩ := q1
    obtain ⟨_, vs, e3, rs⟩ := g.sim.obj _ _ em
    refine ⟨a, vs, rfl, SqL.of e3, k F1 H1 _ _ μ1 _ g (ite_ok fun F2 H2 μ2 g2 hp => ?_) q1⟩
    obtain ⟨_, vs, e3, rs⟩ := g2.sim.obj _ _ hp
    exact ⟨vs, SqL.of e3, rs⟩
  | _ => exact (show False from q1).elim
def rgC (lo c : Int) (n : Nat) : List D := (List.range n).map fun i => .int (lo + (i : Nat) * c)
theorem itc_ok {F : Addr → Prop} {H : Hp} {μ : Mu} {lo c : Int} {n : Nat} : ItOk Z F H μ (rgC lo c n) (fun _ => True) (Itc lo c n) := by
  have hl : (rgC lo c n).length = n := by simp [rgC]
  refine ⟨fun F1 H1 μ1 i g hp hi => by rw [hl] at hi; exact hi, fun F1 H1 μ1 g hp => by rw [hl]; exact Nat.le_refl _, fun F1 H1 μ1 i x H2 g hp hy hi => ?_⟩
  obtain ⟨rfl, rfl⟩ := hy
  rw [hl] at hi
  exact ⟨F1, .int (lo + i * c), Step.refl g.sim, by simp [rgC, hi], .int _⟩
/-- range(i, j, -1) -/
def iRgD (ta : TA3) : TI3 := fun δ μ R => ta δ μ fun ds μ1 => match ds with
  | [.int i, .int j, .int c] => c = -1 ∧ (-(2 ^ 62) ≤ i ∧ i < 2 ^ 62 ∧ -(2 ^ 62) ≤ j ∧ j < 2 ^ 62) ∧ R (rgC i (-1) (i - j).toNat) (fun _ => True) μ1
  | _ => False
theorem i_rangeD (hm : X.mg "range" = none) (ha : A3 X Z [a, b, c] tr) (hg : Gl X "range" := by rfl) (hs : starEach [a, b, c] X.env = (false, eval a X.env) :: starEach [b, c] X.env := by rfl) (hpl : (backTo pos (starEach [b, c] X.env)).any (·.1) = false := by rfl) : I3 X Z tg (.Call (.Name "range" p) [a, b, c] [] pos) (iRgD tr) := (pi_range3 hg hm ha hs hpl).imp fun σ H R3 h => by
  obtain ⟨F, δ, μ, R, s, sl, h, k⟩ := h
  refine ⟨F, δ, μ, _, s, sl, h, fun F1 vs H1 ds μ1 g r1 q1 => ?_⟩
  split at q1
  · rename_i i j c
    cases r1 with
    | cons r1 t => cases t with
      | cons r2 t => cases t with
        | cons r3 t =>
          cases t; cases r1; cases r2; cases r3
          obtain ⟨rfl, ⟨h1, h2, h3, h4⟩, q1⟩ := q1
          exact ⟨i, j, -1, _, rfl, RgC.neg h1 h2 h3 h4, k F1 H1 _ _ μ1 _ g itc_ok q1⟩
  · exact q1.elim
/-- zip of two lists -/
def iZp (ta : TA3) : TI3 := fun δ μ R => ta δ μ fun ds μ1 => match ds with
  | [.lst xs, .lst ys] => R (xs.zipWith (fun a b => .tup [a, b]) ys) (fun _ => True) μ1
  | _ => False
theorem i_zip {elts : List Expr} {kk : Nat} {tpos : Pos} (hm : X.mg "zip" = none) (ha : A3 X Z [a, b] tr) (hg : Gl X "zip" := by rfl) (hs : starEach [a, b] X.env = (false, eval a X.env) :: starEach [b] X.env := by rfl) (hpl : (backTo pos (starEach [b] X.env)).any (·.1) = false := by rfl) : I3 X Z (.Tuple elts kk tpos) (.Call (.Name "zip" p) [a, b] [] pos) (iZp tr) := (pi_zip hg hm ha hs hpl).imp fun σ H R3 h => by
  obtain ⟨F, δ, μ, R, s, sl, h, k⟩ := h
  refine ⟨F, δ, μ, _, s, sl, h, fun F1 vs H1 ds μ1 g r1 q1 => ?_⟩
  split at q1
  · rename_i xs ys
    cases r1 with
    | cons ra t => cases t with
      | cons rb t =>
        cases t
        cases ra with
        | @lst _ us a fa ea ras =>
        cases rb with
        | @lst _ ws b fb eb rbs =>
        refine ⟨a, b, us, ws, rfl, SqL.of ea, SqL.of eb, k F1 H1 _ _ μ1 _ g ⟨fun F2 H2 μ2 i g2 _ hi => ?_, fun F2 H2 μ2 g2 _ => ?_, fun F2 H2 μ2 i x H3 g2 _ hy hi => ?_⟩ q1⟩
        · rw [List.length_zipWith] at hi
          obtain ⟨va, e1, _⟩ := ras.get (List.getElem?_eq_getElem (show i < xs.length by omega))
          obtain ⟨vb, e2, _⟩ := rbs.get (List.getElem?_eq_getElem (show i < ys.length by omega))
          exact ⟨us, ws, va, vb, SqL.of (g2.grow.fix _ _ fa rfl ea), SqL.of (g2.grow.fix _ _ fb rfl eb), e1, e2⟩
        · refine ⟨us, ws, SqL.of (g2.grow.fix _ _ fa rfl ea), SqL.of (g2.grow.fix _ _ fb rfl eb), ?_⟩
          rw [List.length_zipWith, ← ras.length, ← rbs.length]
          omega
        · obtain ⟨T, va, vb, rfl, nT, rfl, h1, h2⟩ := hy
          obtain ⟨da, e1, r1⟩ := (ras.st g2).back (h1 us (SqL.of (g2.grow.fix _ _ fa rfl ea)))
          obtain ⟨db, e2, r2⟩ := (rbs.st g2).back (h2 ws (SqL.of (g2.grow.fix _ _ fb rfl eb)))
          have g3 := g2.sim.frzS (o := .tup [va, vb]) nT
          exact ⟨_, _, g3, by rw [List.getElem?_zipWith, e1, e2], .tup (.inr rfl) upd_same (.cons (r1.st g3) (.cons (r2.st g3) .nil))⟩
  · exact q1.elim
/-! starred items -/
def vStar (te : TE3) (tr : TA3) : TA3 := fun δ μ R => te δ μ fun x μ1 => ∃ xs, seqOf μ1 x = some xs ∧ tr δ μ1 fun ds μ2 => R (xs ++ ds) μ2
theorem a_star (he : E3 X Z e te) (hr : A3 X Z es tr) (hs : starEach (.Starred e p :: es) X.env = (true, eval e X.env) :: starEach es X.env := by rfl) : A3 X Z (.Starred e p :: es) (vStar te tr) := (StX.pa_star he hr hs).imp fun σ H Q h => by
  obtain ⟨F, δ, μ, R, s, sl, h, k⟩ := h
  refine ⟨F, δ, μ, _, s, sl, h, fun F1 v H1 d μ1 g r1 q1 => ?_⟩
  obtain ⟨xs, e1, q1⟩ := q1
  obtain ⟨p, vs, rfl, sq, rs⟩ := seq_of g.sim r1 e1
  refine ⟨p, vs, rfl, sq.symm, F1, δ, μ1, _, g.sim, sl.st g, q1, fun F2 us H2 ds μ2 g2 r2 q2 => ?_⟩
  exact k F2 _ H2 _ μ2 (g.trans g2) ((rs.st g2).append r2) q2
end
end L3

namespace L3
open PySem PySem.Spec PyProof.Rows L2
/-! ### targets within a comprehension -/
def GU (X : Cx) (scope : Scope) (tg : Expr) (g : TG3) (vs : List Nat) : Prop := ∃ g2, (∀ (s : Shared) (H : Hp) (C : Addr) (cl : List (Str × Addr)) (fp : List Addr), PG (X.blk s H scope (compEnvC scope cl C X.env) fp) tg g2) ∧ TgL X.kn g2 g vs
def GsU (X : Cx) (scope : Scope) (ts : List Expr) (gs : List TG3) (vs : List Nat) : Prop := ∃ g2, (∀ (s : Shared) (H : Hp) (C : Addr) (cl : List (Str × Addr)) (fp : List Addr), PGs (X.blk s H scope (compEnvC scope cl C X.env) fp) ts g2) ∧ TgsL X.kn g2 gs vs
section
variable {X : Cx} {Z : Zn X.kn} {scope : Scope} {tg : Expr} {ts : List Expr} {x : Str} {pos : Pos} {g : TG3} {gs : List TG3} {vs ws : List Nat}
theorem u_name (i : Nat) (h : ∀ (s : Shared) (H : Hp) (C : Addr) (cl : List (Str × Addr)) (fp : List Addr), PG (X.blk s H scope (compEnvC scope cl C X.env) fp) (.Name x pos) (gName i)) : GU X scope (.Name x pos) (gN i) [i] := ⟨gName i, h, tg_name i⟩
theorem us_nil : GsU X scope [] [] [] := ⟨gNil, fun _ _ _ _ _ => pgs_nil, ⟨fun F H σ δ δ' ds us Q sl r e k => by
  cases r with
  | nil => cases e; exact ⟨rfl, k σ (fun _ _ => rfl) sl⟩
  | cons h t => cases e⟩⟩
theorem us_cons (h1 : GU X scope tg g vs) (h2 : GsU X scope ts gs ws)
    (hs : ∀ (s : Shared) (H : Hp) (C : Addr) (cl : List (Str × Addr)) (fp : List Addr), (assignEach (tg :: ts) (X.blk s H scope (compEnvC scope cl C X.env) fp).env).map (·.2) = assign tg (X.blk s H scope (compEnvC scope cl C X.env) fp).env :: (assignEach ts (X.blk s H scope (compEnvC scope cl C X.env) fp).env).map (·.2) := by intros; rfl) : GsU X scope (tg :: ts) (g :: gs) (vs ++ ws) := by
  obtain ⟨a, ha, la⟩ := h1
  obtain ⟨b, hb, lb⟩ := h2
  refine ⟨gCons a b, fun s H C cl fp => pgs_cons (ha s H C cl fp) (hb s H C cl fp) (hs s H C cl fp), ⟨fun F H σ δ δ' ds us Q sl r e k => ?_⟩⟩
  cases r with
  | nil => cases e
  | @cons d v ds vs2 h t =>
    have e' : (g d δ).bind (fun δ'' => gGo gs ds δ'') = some δ' := e
    cases q : g d δ with
    | none => rw [q] at e'; cases e'
    | some δ1 =>
      rw [q] at e'
      refine ⟨v, vs2, rfl, ?_⟩
      refine la.run F H σ δ δ1 d v _ sl h q fun σ1 w1 sl1 => ?_
      exact lb.run F H σ1 δ1 δ' ds vs2 _ sl1 t e' fun σ2 w2 sl2 => k σ2 (fun us hu => (w2 us fun i hi => hu i (List.mem_append_right _ hi)).trans (w1 us fun i hi => hu i (List.mem_append_left _ hi))) sl2
theorem u_tup {n m : Nat} (hc : X.calm = true) (h : GsU X scope ts gs vs) (hm : gs.length = m := by rfl)
    (hn : ∀ (s : Shared) (H : Hp) (C : Addr) (cl : List (Str × Addr)) (fp : List Addr), (assignEach ts (X.blk s H scope (compEnvC scope cl C X.env) fp).env).length = m := by intros; rfl)
    (hst : ∀ (s : Shared) (H : Hp) (C : Addr) (cl : List (Str × Addr)) (fp : List Addr), (assignEach ts (X.blk s H scope (compEnvC scope cl C X.env) fp).env).findIdx? (·.1) = none := by intros; rfl) : GU X scope (.Tuple ts n pos) (gT gs) vs := by
  obtain ⟨a, ha, la⟩ := h
  exact ⟨_, fun s H C cl fp => (pg_tup (X := X.blk s H scope (compEnvC scope cl C X.env) fp) hc (ha s H C cl fp) (hn s H C cl fp) (hst s H C cl fp)).or (pg_lst (X := X.blk s H scope (compEnvC scope cl C X.env) fp) hc (ha s H C cl fp) (hn s H C cl fp) (hst s H C cl fp)), tl_tup la hm⟩
/-! ### list comprehensions: frozen, tracked -/
variable {elt iter kx vx : Expr} {ifs : List Expr} {own : List (Str × Nat)} {wi : TI3} {tt : TT3} {te tk tv : TE3} {j : Nat} {y : Str} {py spos : Pos}
theorem e_lcG (hc : X.calm = true) (hN : X.N.Nodup) (hi : I3 X Z tg iter wi) (ok : BlkOk X.N X.env.scope scope own) (hg : GU X scope tg g vs) (hv : ∀ i ∈ vs, i ∈ own.map (·.2))
    (ht : ∀ (s : Shared) (H : Hp) (C : Addr) (cl : List (Str × Addr)) (fp : List Addr), Ts3 (X.blk s H scope (compEnvC scope cl C X.env) fp) Z ifs tt)
    (he : ∀ (s : Shared) (H : Hp) (C : Addr) (cl : List (Str × Addr)) (fp : List Addr), E3 (X.blk s H scope (compEnvC scope cl C X.env) fp) Z elt te)
    (hs : ∀ x, foldedSetIterable iter X.env x = pure x := by intro _; rfl) : E3 X Z (.ListComp elt [⟨tg, iter, ifs, 0⟩] scope pos) (vLc wi g tt te (own.map (·.2))) := by
  obtain ⟨g2, h2, lg⟩ := hg
  exact e_lc hc hN hi ok lg hv h2 ht he hs
theorem s_lcG (hc : X.calm = true) (hN : X.N.Nodup) (hi : I3 X Z tg iter wi) (ok : BlkOk X.N X.env.scope scope own) (hg : GU X scope tg g vs) (hv : ∀ i ∈ vs, i ∈ own.map (·.2))
    (ht : ∀ (s : Shared) (H : Hp) (C : Addr) (cl : List (Str × Addr)) (fp : List Addr), Ts3 (X.blk s H scope (compEnvC scope cl C X.env) fp) Z ifs tt)
    (he : ∀ (s : Shared) (H : Hp) (C : Addr) (cl : List (Str × Addr)) (fp : List Addr), E3 (X.blk s H scope (compEnvC scope cl C X.env) fp) Z elt te)
    (hsw : swapsWith (.ListComp elt [⟨tg, iter, ifs, 0⟩] scope pos) (some (.Name y py)) spos.line X.env = pure true) (hy : X.N[j]? = some y := by rfl) (hyl : X.env.scope.names.lookup y = some .local := by rfl)
    (hs : ∀ x, foldedSetIterable iter X.env x = pure x := by intro _; rfl) : S3 X Z (.Assign [.Name y py] (.ListComp elt [⟨tg, iter, ifs, 0⟩] scope pos) spos) (sSet j (vLc wi g tt te (own.map (·.2)))) := by
  obtain ⟨g2, h2, lg⟩ := hg
  exact s_setLc hc hN hi ok lg hv h2 ht he hsw hy hyl hs
def vLcT (wi : TI3) (g : TG3) (tt : TT3) (te : TE3) (vs : List Nat) : TE3 := fun δ μ R => wi δ μ fun ds Pm μ1 => lcW Pm g tt te (wipe3 δ vs) (fun out μ2 => ∀ q, μ2 q = none → R (.ref q) (mset μ2 q (.lst out))) ds [] μ1
theorem low_lcT {K : Kn} {Z : Zn K} {wi : TI3} {g : TG3} {g2 : TG} {tt : TT3} {te : TE3} {vs ws : List Nat} {σ : L2.St} {H : Hp} {Q : VK} (lg : TgL K g2 g vs) (hv : ∀ i ∈ vs, i ∈ ws) (h : low Z (vLcT wi g tt te ws) σ H Q) : tLc (lowI Z wi) g2 (lowT Z tt) (low Z te) ws σ H Q := by
  obtain ⟨F, δ, μ, R, s, sl, h, k⟩ := h
  refine ⟨F, δ, μ, _, s, sl, h, fun F0 H0 ds Pm μ0 J g0 it q0 Dl hD => ?_⟩
  have gD := g0.sim.newS (o := .lst []) hD
  refine ⟨fun i m H1 => ∃ F1 μ1 acc out, Step Z F0 H0 μ0 F1 H1 μ1 ∧ ¬ F1 Dl ∧ μ1 Dl = none ∧ H1 Dl = some (.lst acc) ∧ Rps K F1 H1 out acc ∧ m + i = ds.length ∧ lcW Pm g tt te (wipe3 δ ws) (fun out μ2 => ∀ q, μ2 q = none → R (.ref q) (mset μ2 q (.lst out))) (ds.drop i) out μ1,
    ⟨ds.length, F0, μ0, [], [], gD, ?_, g0.sim.free hD, upd_same, .nil, rfl, q0⟩, ?_⟩
  · intro f
    obtain ⟨u, hu⟩ := g0.sim.dom Dl f
    rw [hD] at hu
    cases hu
  rintro i m H1 ⟨F1, μ1, acc, out, g1, nF, nμ, eD, rs, em, h1⟩
  by_cases hi : i < ds.length
  · rw [List.drop_eq_getElem_cons hi] at h1
    obtain ⟨hP, hlen, h1⟩ := h1
    refine .inr ⟨it.go F1 H1 μ1 i g1 hP hi, fun H' => ∃ F1 μ1 acc out, Step Z F0 H0 μ0 F1 H' μ1 ∧ ¬ F1 Dl ∧ μ1 Dl = none ∧ H' Dl = some (.lst acc) ∧ Rps K F1 H' out acc ∧ lcW Pm g tt te (wipe3 δ ws) (fun out μ2 => ∀ q, μ2 q = none → R (.ref q) (mset μ2 q (.lst out))) (ds.drop (i + 1)) out μ1,
      fun H' ⟨F2, μ2, acc2, out2, a, b, c, d, e, f⟩ => ⟨m - 1, by omega, F2, μ2, acc2, out2, a, b, c, d, e, by omega, f⟩, fun x H2 hy => ?_⟩
    obtain ⟨F2, d, g2', ed, r2⟩ := it.yld F1 H1 μ1 i x H2 g1 hP hy hi
    rw [List.getElem?_eq_getElem hi] at ed
    obtain rfl := Option.some.inj ed
    have sw : Sl K F2 H2 (L2.wipe σ ws) (wipe3 δ ws) := (sl.st ((g0.trans g1).trans g2')).wipe ws
    split at h1
    · rename_i δ' eg
      refine lg.run F2 H2 (L2.wipe σ ws) (wipe3 δ ws) δ' _ x _ sw r2 eg fun σ' hw sl' => ?_
      refine ⟨(hw ws hv).trans (wipe_wipe σ ws), ?_⟩
      obtain ⟨n2, e2, f2⟩ := g2'.fm Dl _ eD nμ nF
      refine ⟨F2, δ', μ1, _, g2'.sim, sl', h1, fun F3 b H3 μ3 g3 q3 => ?_⟩
      obtain ⟨n3, e3, f3⟩ := g3.fm Dl _ e2 n2 f2
      cases b with
      | true =>
        refine ⟨F3, δ', μ3, _, g3.sim, sl'.st g3, q3, fun F4 y H4 dy μ4 g4 r4 q4 => ?_⟩
        obtain ⟨n4, e4, f4⟩ := g4.fm Dl _ e3 n3 f3
        have gs := ((g1.trans g2').trans g3).trans g4
        have gp := (gs.sim.raw.priv (o := .lst (acc ++ [y])) f4 n4).1
        exact ⟨acc, e4, by rw [← rs.length]; exact hlen, F4, μ4, acc ++ [y], out ++ [dy], gs.priv g0.sim hD f4 n4, f4, n4, upd_same, ((rs.st ((g2'.trans g3).trans g4)).append (.cons r4 .nil)).grow gp, q4⟩
      | false => exact ⟨F3, μ3, acc, out, (g1.trans g2').trans g3, f3, n3, e3, rs.st (g2'.trans g3), q3⟩
    · exact h1.elim
  · have e : i = ds.length := by omega
    subst e
    rw [List.drop_length] at h1
    refine .inl ⟨it.stop F1 H1 μ1 g1 h1.1, ?_⟩
    have gs := g1.trk1 (m := .lst out) g0.sim hD nF nμ ⟨acc, eD, rs⟩
    exact k _ (.ref Dl) H1 (.ref Dl) _ (g0.trans gs) (.ref Dl) (h1.2 Dl nμ)
theorem e_lcT (hc : X.calm = true) (hN : X.N.Nodup) (hi : I3 X Z tg iter wi) (ok : BlkOk X.N X.env.scope scope own) (hg : GU X scope tg g vs) (hv : ∀ i ∈ vs, i ∈ own.map (·.2))
    (ht : ∀ (s : Shared) (H : Hp) (C : Addr) (cl : List (Str × Addr)) (fp : List Addr), Ts3 (X.blk s H scope (compEnvC scope cl C X.env) fp) Z ifs tt)
    (he : ∀ (s : Shared) (H : Hp) (C : Addr) (cl : List (Str × Addr)) (fp : List Addr), E3 (X.blk s H scope (compEnvC scope cl C X.env) fp) Z elt te)
    (hs : ∀ x, foldedSetIterable iter X.env x = pure x := by intro _; rfl) : E3 X Z (.ListComp elt [⟨tg, iter, ifs, 0⟩] scope pos) (vLcT wi g tt te (own.map (·.2))) := by
  obtain ⟨g2, h2, lg⟩ := hg
  exact (pe_lc (wi := lowI Z wi) (g := g2) (tt := lowT Z tt) (te := low Z te) hc hN hi ok h2 ht he hs).imp fun σ H Q h => low_lcT lg hv h
theorem s_lcT (hc : X.calm = true) (hN : X.N.Nodup) (hi : I3 X Z tg iter wi) (ok : BlkOk X.N X.env.scope scope own) (hg : GU X scope tg g vs) (hv : ∀ i ∈ vs, i ∈ own.map (·.2))
    (ht : ∀ (s : Shared) (H : Hp) (C : Addr) (cl : List (Str × Addr)) (fp : List Addr), Ts3 (X.blk s H scope (compEnvC scope cl C X.env) fp) Z ifs tt)
    (he : ∀ (s : Shared) (H : Hp) (C : Addr) (cl : List (Str × Addr)) (fp : List Addr), E3 (X.blk s H scope (compEnvC scope cl C X.env) fp) Z elt te)
    (hsw : swapsWith (.ListComp elt [⟨tg, iter, ifs, 0⟩] scope pos) (some (.Name y py)) spos.line X.env = pure true) (hy : X.N[j]? = some y := by rfl) (hyl : X.env.scope.names.lookup y = some .local := by rfl)
    (hs : ∀ x, foldedSetIterable iter X.env x = pure x := by intro _; rfl) : S3 X Z (.Assign [.Name y py] (.ListComp elt [⟨tg, iter, ifs, 0⟩] scope pos) spos) (sSet j (vLcT wi g tt te (own.map (·.2)))) := by
  obtain ⟨g2, h2, lg⟩ := hg
  exact (ps_setLc (wi := lowI Z wi) (g := g2) (tt := lowT Z tt) (te := low Z te) hc hN hy hyl hsw hi ok h2 ht he hs).imp fun D σ H h => by
    obtain ⟨F, δ, μ, D3, s, sl, h, k⟩ := h
    exact low_lcT lg hv ⟨F, δ, μ, _, s, sl, h, fun F1 v H1 d μ1 g r1 q1 => k.nx F1 _ H1 _ μ1 g ((sl.st g).set j r1) q1⟩
/-! ### dict comprehensions -/
def dic0 (nn : Bool) : Dic := if nn then .n [] else .k []
def dcW (Pm : Mu → Prop) (g : TG3) (tt : TT3) (tk tv : TE3) (δ : St3) (R : Dic → Mu → Prop) : List D → Dic → Mu → Prop
  | [], acc, μ => Pm μ ∧ R acc μ
  | d :: ds, acc, μ => Pm μ ∧ acc.length < sizeLine ∧ match g d δ with
    | some δ' => tt δ' μ fun b μ1 => if b = true then tk δ' μ1 fun y μ2 => tv δ' μ2 fun z μ3 => ∃ acc', acc.put y z = some acc' ∧ dcW Pm g tt tk tv δ R ds acc' μ3 else dcW Pm g tt tk tv δ R ds acc μ1
    | none => False
/-- tr: tracked -/
def vDc (nn tr : Bool) (wi : TI3) (g : TG3) (tt : TT3) (tk tv : TE3) (vs : List Nat) : TE3 := fun δ μ R => wi δ μ fun ds Pm μ1 => dcW Pm g tt tk tv (wipe3 δ vs) (fun out μ2 => if tr then ∀ q, μ2 q = none → R (.ref q) (mset μ2 q out.mo) else R out.fz μ2) ds (dic0 nn) μ1
/-- a dict that nobody knows yet -/
def DicW (K : Kn) (F : Addr → Prop) (H : Hp) (a : Addr) : Dic → Prop
  | .k kvs => ∃ ks, H a = some (.dK ks) ∧ Rpk K F H kvs ks
  | .n kvs => ∃ ks, H a = some (dcnO K a ks) ∧ Rpn K F H kvs ks
theorem DicW.put {K : Kn} {F : Addr → Prop} {H : Hp} {a : Addr} {c c' : Dic} {i v : D} {vi vv : V} (h : DicW K F H a c) (hl : c.length < sizeLine) (e : c.put i v = some c') (ri : Rp K F H i vi) (rv : Rp K F H v vv) :
    ∃ o, DPx K H a vi vv (upd H a o) ∧ ∀ {F' : Addr → Prop} {H' : Hp}, Grow F H F' H' → H' a = some o → DicW K F' H' a c' := by
  cases c with
  | k kvs =>
    obtain ⟨q, eq, rfl⟩ := Option.map_eq_some_iff.mp (show (keyOf i).map (fun q => Dic.k (putD kvs q v)) = some c' from e)
    obtain ⟨ks, e3, rs⟩ := h
    obtain rfl := keyOf_ok ri eq
    exact ⟨_, .inl ⟨ks, q, e3, rfl, by rw [← rs.length]; exact hl, rfl⟩, fun g' e' => ⟨_, e', (rs.grow g').put (rv.grow g')⟩⟩
  | n kvs =>
    obtain ⟨q, eq, rfl⟩ := Option.map_eq_some_iff.mp (show (lkOf i).map (fun q => Dic.n (putN kvs q v)) = some c' from e)
    obtain ⟨ks, e3, rs⟩ := h
    obtain ⟨b, rfl, fb, eb⟩ := lk_ok ri eq
    exact ⟨_, .inr ⟨ks, q, b, e3, rs.keysX, rfl, eb, by rw [← rs.length]; exact hl, rfl⟩, fun g' e' => ⟨_, e', (rs.grow g').put (g'.mono _ fb) (g'.fix _ _ fb rfl eb) (rv.grow g')⟩⟩
theorem DicW.grow {K : Kn} {F F' : Addr → Prop} {H H' : Hp} {a : Addr} {c : Dic} (h : DicW K F H a c) (g : Grow F H F' H') (e : H' a = H a) : DicW K F' H' a c := by
  cases c with
  | k kvs => obtain ⟨ks, e3, rs⟩ := h; exact ⟨ks, by rw [e]; exact e3, rs.grow g⟩
  | n kvs => obtain ⟨ks, e3, rs⟩ := h; exact ⟨ks, by rw [e]; exact e3, rs.grow g⟩
theorem DicW.some {K : Kn} {F : Addr → Prop} {H : Hp} {a : Addr} {c : Dic} (h : DicW K F H a c) : ∃ o, H a = some o := by
  cases c with
  | k kvs => obtain ⟨ks, e3, rs⟩ := h; exact ⟨_, e3⟩
  | n kvs => obtain ⟨ks, e3, rs⟩ := h; exact ⟨_, e3⟩
theorem low_dc {K : Kn} {Z : Zn K} {nn tr : Bool} {wi : TI3} {g : TG3} {g2 : TG} {tt : TT3} {tk tv : TE3} {vs ws : List Nat} {σ : L2.St} {H : Hp} {Q : VK} (lg : TgL K g2 g vs) (hv : ∀ i ∈ vs, i ∈ ws) (h : low Z (vDc nn tr wi g tt tk tv ws) σ H Q) : tDcX K nn (lowI Z wi) g2 (lowT Z tt) (low Z tk) (low Z tv) ws σ H Q := by
  obtain ⟨F, δ, μ, R, s, sl, h, k⟩ := h
  refine ⟨F, δ, μ, _, s, sl, h, fun F0 H0 ds Pm μ0 J g0 it q0 Dl hD => ?_⟩
  have gD := g0.sim.newS (o := hoE K nn Dl) hD
  refine ⟨fun i m H1 => ∃ F1 μ1 out, Step Z F0 H0 μ0 F1 H1 μ1 ∧ ¬ F1 Dl ∧ μ1 Dl = none ∧ DicW K F1 H1 Dl out ∧ m + i = ds.length ∧ dcW Pm g tt tk tv (wipe3 δ ws) (fun out μ2 => if tr then ∀ q, μ2 q = none → R (.ref q) (mset μ2 q out.mo) else R out.fz μ2) (ds.drop i) out μ1,
    ⟨ds.length, F0, μ0, dic0 nn, gD, ?_, g0.sim.free hD, ?_, rfl, q0⟩, ?_⟩
  · intro f
    obtain ⟨u, hu⟩ := g0.sim.dom Dl f
    rw [hD] at hu
    cases hu
  · cases nn with
    | true => exact ⟨[], upd_same, .nil⟩
    | false => exact ⟨[], upd_same, .nil⟩
  rintro i m H1 ⟨F1, μ1, out, g1, nF, nμ, dw, em, h1⟩
  by_cases hi : i < ds.length
  · rw [List.drop_eq_getElem_cons hi] at h1
    obtain ⟨hP, hlen, h1⟩ := h1
    refine .inr ⟨it.go F1 H1 μ1 i g1 hP hi, fun H' => ∃ F1 μ1 out, Step Z F0 H0 μ0 F1 H' μ1 ∧ ¬ F1 Dl ∧ μ1 Dl = none ∧ DicW K F1 H' Dl out ∧ dcW Pm g tt tk tv (wipe3 δ ws) (fun out μ2 => if tr then ∀ q, μ2 q = none → R (.ref q) (mset μ2 q out.mo) else R out.fz μ2) (ds.drop (i + 1)) out μ1,
      fun H' ⟨F2, μ2, out2, a, b, c, d, f⟩ => ⟨m - 1, by omega, F2, μ2, out2, a, b, c, d, by omega, f⟩, fun x H2 hy => ?_⟩
    obtain ⟨F2, d, g2', ed, r2⟩ := it.yld F1 H1 μ1 i x H2 g1 hP hy hi
    rw [List.getElem?_eq_getElem hi] at ed
    obtain rfl := Option.some.inj ed
    have sw : Sl K F2 H2 (L2.wipe σ ws) (wipe3 δ ws) := (sl.st ((g0.trans g1).trans g2')).wipe ws
    obtain ⟨oD, eD⟩ := dw.some
    split at h1
    · rename_i δ' eg
      refine lg.run F2 H2 (L2.wipe σ ws) (wipe3 δ ws) δ' _ x _ sw r2 eg fun σ' hw sl' => ?_
      refine ⟨(hw ws hv).trans (wipe_wipe σ ws), ?_⟩
      obtain ⟨n2, e2, f2⟩ := g2'.fm Dl _ eD nμ nF
      refine ⟨F2, δ', μ1, _, g2'.sim, sl', h1, fun F3 b H3 μ3 g3 q3 => ?_⟩
      obtain ⟨n3, e3, f3⟩ := g3.fm Dl _ e2 n2 f2
      cases b with
      | true =>
        refine ⟨F3, δ', μ3, _, g3.sim, sl'.st g3, q3, fun F4 y H4 dy μ4 g4 r4 q4 => ?_⟩
        obtain ⟨n4, e4, f4⟩ := g4.fm Dl _ e3 n3 f3
        refine ⟨F4, δ', μ4, _, g4.sim, sl'.st (g3.trans g4), q4, fun F5 z H5 dz μ5 g5 r5 q5 => ?_⟩
        obtain ⟨n5, e5, f5⟩ := g5.fm Dl _ e4 n4 f4
        obtain ⟨acc', ea, q5⟩ := q5
        have gm := ((g2'.trans g3).trans g4).trans g5
        have dw5 : DicW K F5 H5 Dl out := dw.grow gm.grow (e5.trans eD.symm)
        obtain ⟨o, dp, dn⟩ := dw5.put hlen ea (r4.st g5) r5
        have gp := (gm.sim.raw.priv (o := o) f5 n5).1
        exact ⟨_, dp, F5, μ5, acc', (g1.trans gm).priv g0.sim hD f5 n5, f5, n5, dn gp upd_same, q5⟩
      | false => exact ⟨F3, μ3, out, (g1.trans g2').trans g3, f3, n3, dw.grow (g2'.trans g3).grow (e3.trans eD.symm), q3⟩
    · exact h1.elim
  · have e : i = ds.length := by omega
    subst e
    rw [List.drop_length] at h1
    refine .inl ⟨it.stop F1 H1 μ1 g1 h1.1, ?_⟩
    obtain ⟨oD, eD⟩ := dw.some
    have h2 := h1.2
    cases tr with
    | true =>
      have mo : MoOk K F1 H1 Dl out.mo := by
        cases out with
        | k kvs => obtain ⟨ks, e3, rs⟩ := dw; exact ⟨ks, e3, rs⟩
        | n kvs => obtain ⟨ks, e3, rs⟩ := dw; exact ⟨ks, e3, rs⟩
      have gs := g1.trk1 (m := out.mo) g0.sim hD nF nμ mo
      exact k _ (.ref Dl) H1 (.ref Dl) _ (g0.trans gs) (.ref Dl) (h2 Dl nμ)
    | false =>
      have gs := g1.shut (o := oD) g0.sim hD nμ eD
      have gg : Grow F1 H1 (fun a => F1 a ∨ a = Dl) H1 := ⟨fun _ h => .inl h, fun _ _ _ h => h, fun _ _ _ _ h => h⟩
      refine k _ (.ref Dl) H1 out.fz μ1 (g0.trans gs) ?_ h2
      cases out with
      | k kvs => obtain ⟨ks, e3, rs⟩ := dw; exact .dct (.inr rfl) (.inl e3) (rs.grow gg)
      | n kvs => obtain ⟨ks, e3, rs⟩ := dw; exact .dcn (.inr rfl) e3 (rs.grow gg)
theorem e_dc {nn tr : Bool} {n : Nat} (hr : RoomG n X.A) (hc : X.calm = true) (hN : X.N.Nodup) (hi : I3 X Z tg iter wi) (ok : BlkOk X.N X.env.scope scope own) (hg : GU X scope tg g vs) (hv : ∀ i ∈ vs, i ∈ own.map (·.2))
    (ht : ∀ (s : Shared) (H : Hp) (C : Addr) (cl : List (Str × Addr)) (fp : List Addr), Ts3 (X.blk s H scope (compEnvC scope cl C X.env) fp) Z ifs tt)
    (hk : ∀ (s : Shared) (H : Hp) (C : Addr) (cl : List (Str × Addr)) (fp : List Addr), E3 (X.blk s H scope (compEnvC scope cl C X.env) fp) Z kx tk)
    (he : ∀ (s : Shared) (H : Hp) (C : Addr) (cl : List (Str × Addr)) (fp : List Addr), E3 (X.blk s H scope (compEnvC scope cl C X.env) fp) Z vx tv)
    (hs : ∀ x, foldedSetIterable iter X.env x = pure x := by intro _; rfl) : E3 X Z (.DictComp kx vx [⟨tg, iter, ifs, 0⟩] scope pos) (vDc nn tr wi g tt tk tv (own.map (·.2))) := by
  obtain ⟨g2, h2, lg⟩ := hg
  exact (pe_dcX (nn := nn) (wi := lowI Z wi) (g := g2) (tt := lowT Z tt) (tk := low Z tk) (tv := low Z tv) (by have := hr.rm.un; omega) hc hN hi ok h2 ht hk he hs).imp fun σ H Q h => low_dc lg hv h
theorem s_dc {nn tr : Bool} {n : Nat} (hr : RoomG n X.A) (hc : X.calm = true) (hN : X.N.Nodup) (hi : I3 X Z tg iter wi) (ok : BlkOk X.N X.env.scope scope own) (hg : GU X scope tg g vs) (hv : ∀ i ∈ vs, i ∈ own.map (·.2))
    (ht : ∀ (s : Shared) (H : Hp) (C : Addr) (cl : List (Str × Addr)) (fp : List Addr), Ts3 (X.blk s H scope (compEnvC scope cl C X.env) fp) Z ifs tt)
    (hk : ∀ (s : Shared) (H : Hp) (C : Addr) (cl : List (Str × Addr)) (fp : List Addr), E3 (X.blk s H scope (compEnvC scope cl C X.env) fp) Z kx tk)
    (he : ∀ (s : Shared) (H : Hp) (C : Addr) (cl : List (Str × Addr)) (fp : List Addr), E3 (X.blk s H scope (compEnvC scope cl C X.env) fp) Z vx tv)
    (hsw : swapsWith (.DictComp kx vx [⟨tg, iter, ifs, 0⟩] scope pos) (some (.Name y py)) spos.line X.env = pure true) (hy : X.N[j]? = some y := by rfl) (hyl : X.env.scope.names.lookup y = some .local := by rfl)
    (hs : ∀ x, foldedSetIterable iter X.env x = pure x := by intro _; rfl) : S3 X Z (.Assign [.Name y py] (.DictComp kx vx [⟨tg, iter, ifs, 0⟩] scope pos) spos) (sSet j (vDc nn tr wi g tt tk tv (own.map (·.2)))) := by
  obtain ⟨g2, h2, lg⟩ := hg
  exact (ps_setDcX (nn := nn) (wi := lowI Z wi) (g := g2) (tt := lowT Z tt) (tk := low Z tk) (tv := low Z tv) (by have := hr.rm.un; omega) hc hN hy hyl hsw hi ok h2 ht hk he hs).imp fun D σ H h => by
    obtain ⟨F, δ, μ, D3, s, sl, h, k⟩ := h
    exact low_dc lg hv ⟨F, δ, μ, _, s, sl, h, fun F1 v H1 d μ1 g r1 q1 => k.nx F1 _ H1 _ μ1 g ((sl.st g).set j r1) q1⟩
end
end L3

namespace L3
open PySem PySem.Spec PyProof.Rows L2
section
variable {X : Cx} {Z : Zn X.kn} {e a b c o : Expr} {es : List Expr} {te ta tb tc to : TE3} {tr : TA3} {pos p apos cpos : Pos} {x y z : Str} {i j l : Nat}
/-! ### a, b = e1, e2 -/
def sPar2 (i j : Nat) (ta : TA3) : TS3 := fun D δ μ => ta δ μ fun ds μ1 => match ds with
  | [v, w] => D.nx ((δ.set i (some v)).set j (some w)) μ1
  | _ => False
theorem s_par2 {px py pt : Pos} {kt k2 pt2} (hc : X.calm = true) (hN : X.N.Nodup) (ha : A3 X Z [a, b] tr) (hij : i ≠ j := by decide) (hi : X.N[i]? = some x := by rfl) (hj : X.N[j]? = some y := by rfl)
    (hx : X.env.scope.names.lookup x = some .local := by rfl) (hy : X.env.scope.names.lookup y = some .local := by rfl)
    (hw : swappedStores [.Tuple [.Name x px, .Name y py] kt pt] (.Tuple [a, b] k2 pt2) X.env = pure (some [x, y]) := by rfl)
    (hs : swapsWithSole [.Tuple [.Name x px, .Name y py] kt pt] (.Tuple [a, b] k2 pt2) pos.line X.env = pure false := by rfl) :
    S3 X Z (.Assign [.Tuple [.Name x px, .Name y py] kt pt] (.Tuple [a, b] k2 pt2) pos) (sPar2 i j tr) := (ps_par hc hN hi hj hij hx hy ha hw hs).imp fun D σ H h => by
  obtain ⟨F, δ, μ, D3, s, sl, h, k⟩ := h
  refine ⟨F, δ, μ, _, s, sl, h, fun F1 vs H1 ds μ1 g r1 q1 => ?_⟩
  split at q1
  · cases r1 with
    | cons r1 t => cases t with
      | cons r2 t =>
        cases t
        exact ⟨_, _, rfl, k.nx F1 _ H1 _ μ1 g (((sl.st g).set i r1).set j r2) q1⟩
  · exact q1.elim
def sPar3 (i j l : Nat) (ta : TA3) : TS3 := fun D δ μ => ta δ μ fun ds μ1 => match ds with
  | [u, v, w] => D.nx (((δ.set i (some u)).set j (some v)).set l (some w)) μ1
  | _ => False
theorem s_par3 {px py pz pt : Pos} {kt k2 pt2} (hc : X.calm = true) (hN : X.N.Nodup) (ha : A3 X Z [a, b, c] tr) (hij : i ≠ j := by decide) (hil : i ≠ l := by decide) (hjl : j ≠ l := by decide) (hi : X.N[i]? = some x := by rfl) (hj : X.N[j]? = some y := by rfl) (hl : X.N[l]? = some z := by rfl)
    (hx : X.env.scope.names.lookup x = some .local := by rfl) (hy : X.env.scope.names.lookup y = some .local := by rfl) (hz : X.env.scope.names.lookup z = some .local := by rfl)
    (hw : swappedStores [.Tuple [.Name x px, .Name y py, .Name z pz] kt pt] (.Tuple [a, b, c] k2 pt2) X.env = pure (some [x, y, z]) := by rfl)
    (hs : swapsWithSole [.Tuple [.Name x px, .Name y py, .Name z pz] kt pt] (.Tuple [a, b, c] k2 pt2) pos.line X.env = pure false := by rfl) :
    S3 X Z (.Assign [.Tuple [.Name x px, .Name y py, .Name z pz] kt pt] (.Tuple [a, b, c] k2 pt2) pos) (sPar3 i j l tr) := (ps_par3 hc hN hi hj hl hij hil hjl hx hy hz ha hw hs).imp fun D σ H h => by
  obtain ⟨F, δ, μ, D3, s, sl, h, k⟩ := h
  refine ⟨F, δ, μ, _, s, sl, h, fun F1 vs H1 ds μ1 g r1 q1 => ?_⟩
  split at q1
  · cases r1 with
    | cons r1 t => cases t with
      | cons r2 t => cases t with
        | cons r3 t =>
          cases t
          exact ⟨_, _, _, rfl, k.nx F1 _ H1 _ μ1 g ((((sl.st g).set i r1).set j r2).set l r3) q1⟩
  · exact q1.elim
/-! ### names op= e -/
def gIAdd : G2 := fun x y μ R => match x, y with
  | .int i, .int j => R (.int (i + j)) μ
  | .ref a, y => ∃ xs ys, μ a = some (.lst xs) ∧ lstOf μ y = some ys ∧ xs.length + ys.length ≤ sizeLine ∧ R (.ref a) (mset μ a (.lst (xs ++ ys)))
  | _, _ => False
theorem ip_iadd : IpL X Z .Add gIAdd := by
  refine ⟨fun x y H Q => (rI0 fun i j => .int (i + j)) x y H Q ∨ rExt2 x y H Q, fun pins s σ H x y v u Q I rx ry q => ?_, fun F H μ x y vx vy R Q s rx ry q k => ?_⟩
  · rcases q with q | q
    · exact iop_add pins s σ H x y v u Q I rx ry q
    · exact iop_ext pins s σ H x y v u Q I rx ry q
  · unfold gIAdd at q
    split at q
    · cases rx; cases ry
      exact .inl ⟨_, _, rfl, rfl, k F _ H _ μ (Step.refl s) (.int _) q⟩
    · obtain ⟨xs, ys, e1, e2, hz, q⟩ := q
      cases rx
      obtain ⟨_, us, e3, rr⟩ := s.obj _ _ e1
      obtain ⟨p, ws, rfl, e4, r4⟩ := lst_of s ry e2
      have g := s.putS (o := .lst (us ++ ws)) (m := .lst (xs ++ ys)) e1 fun g' e' => ⟨_, e', (rr.grow g').append (r4.grow g')⟩
      exact .inr ⟨_, p, us, ws, rfl, rfl, e3, e4, by rw [← rr.length, ← r4.length]; exact hz, k _ _ _ _ _ g (.ref _) q⟩
    · exact q.elim
/-! ### lists by their methods -/
def gPopAt : GM := fun x ds μ R => ∃ a xs i k d, x = .ref a ∧ ds = [.int i] ∧ μ a = some (.lst xs) ∧ -(2 ^ 63) ≤ i ∧ i < 2 ^ 63 ∧ seqIndex? i xs.length = some k ∧ xs[k]? = some d ∧ R d (mset μ a (.lst (xs.eraseIdx k)))
theorem Rps.erase {K : Kn} {F : Addr → Prop} {H : Hp} : ∀ {ds : List D} {vs : List V} (i : Nat), Rps K F H ds vs → Rps K F H (ds.eraseIdx i) (vs.eraseIdx i)
  | _, _, _, .nil => .nil
  | _, _, 0, .cons _ t => t
  | _, _, i + 1, .cons q t => .cons q (Rps.erase i t)
theorem m_popAt : MtL X Z "list.pop" "list" gPopAt := ⟨_, mt_popAt, fun F H μ x ds vx vs R Q s rx rs q k => by
  obtain ⟨a, xs, i, n, d, rfl, rfl, e, h1, h2, h3, hd, q⟩ := q
  obtain ⟨v, rfl, r⟩ := one_of rs
  cases r
  cases rx
  obtain ⟨_, us, e3, rr⟩ := s.obj _ _ e
  obtain ⟨v, ev, r⟩ := rr.get hd
  refine ⟨a, us, i, n, v, rfl, rfl, e3, h1, h2, by rw [← rr.length]; exact h3, ev, ?_⟩
  have g := s.putS (o := .lst (us.eraseIdx n)) (m := .lst (xs.eraseIdx n)) e fun g' e' => ⟨_, e', (rr.grow g').erase n⟩
  exact k _ _ _ _ _ g (r.st g) q⟩
def gClear : GM := fun x ds μ R => ∃ a xs, x = .ref a ∧ ds = [] ∧ μ a = some (.lst xs) ∧ R .non (mset μ a (.lst []))
theorem m_clear : MtL X Z "list.clear" "list" gClear := ⟨_, mt_clear, fun F H μ x ds vx vs R Q s rx rs q k => by
  obtain ⟨a, xs, rfl, rfl, e, q⟩ := q
  cases rs
  cases rx
  obtain ⟨_, us, e3, rr⟩ := s.obj _ _ e
  have g := s.putS (o := .lst []) (m := .lst []) e fun g' e' => ⟨_, e', .nil⟩
  exact ⟨a, us, rfl, rfl, e3, k _ _ _ _ _ g .non q⟩⟩
/-- the first place -/
def idxD (x : D) (xs : List D) : Option Nat := xs.findIdx? fun y => eqD y x
def gIdx : GM := fun x ds μ R => ∃ y ys j, ds = [y] ∧ rdL μ x = some ys ∧ flatD y = true ∧ ys.all flatD = true ∧ idxD y ys = some j ∧ R (.int (j : Nat)) μ
theorem m_index : MtL X Z "list.index" "list" gIdx := ⟨_, mt_index, fun F H μ x ds vx vs R Q s rx rs q k => by
  obtain ⟨y, ys, j, rfl, e, h1, h2, h3, q⟩ := q
  obtain ⟨v, rfl, r⟩ := one_of rs
  obtain ⟨p, us, rfl, sq, rr⟩ := rdl_of s rx e
  unfold idxD at h3
  rw [List.findIdx?_eq_some_iff_getElem] at h3
  obtain ⟨hj, e1, e2⟩ := h3
  obtain ⟨w, ew, rw'⟩ := rr.get (List.getElem?_eq_getElem hj)
  have fl := List.all_eq_true.mp h2
  refine ⟨p, us, v, j, w, rfl, rfl, sq, flat_ok r h1, flats_ok rr h2, ew, by rw [eqV_ok rw' r (fl _ (List.getElem_mem hj)) h1]; exact e1, fun m z' hm ez => ?_, k F _ H _ μ (Step.refl s) (.int _) q⟩
  obtain ⟨d, ed, rd⟩ := rr.back ez
  have hl : m < ys.length := (List.getElem?_eq_some_iff.mp ed).1
  have hd : ys[m] = d := (List.getElem?_eq_some_iff.mp ed).2
  have := e2 m hm
  rw [eqV_ok rd r (by rw [← hd]; exact fl _ (List.getElem_mem hl)) h1, ← hd]
  simpa using this⟩
/-! ### tuple(x), dict(x), list(d.items()) -/
def gTuple : GA := fun ds μ R => ∃ x xs, ds = [x] ∧ seqOf μ x = some xs ∧ R (.tup xs) μ
theorem c_tuple : CallL X Z (.type "tuple") gTuple := ⟨_, call_tuple_of, fun F H μ ds vs R Q s rs q k => by
  obtain ⟨x, xs, rfl, e, q⟩ := q
  obtain ⟨v, rfl, r⟩ := one_of rs
  have fresh : ∀ {p : Addr} {us : List V}, Rps X.kn F H xs us → H p = none → Q (.ref p) (upd H p (.tup us)) := fun {p us} rr hp => by
    have g := s.frzS (o := .tup us) hp
    exact k _ _ _ _ μ g (.tup (.inr rfl) upd_same (rr.st g)) q
  cases r with
  | tup f e2 rr => cases e; exact ⟨_, _, rfl, .inr ⟨SqT.of e2, k F _ H _ μ (Step.refl s) (.tup f e2 rr) q⟩⟩
  | lst f e2 rr => cases e; exact ⟨_, _, rfl, .inl ⟨SqL.of e2, fun l hl => fresh rr hl⟩⟩
  | scr f rr => cases e; exact ⟨_, _, rfl, .inl ⟨f.sq, fun l hl => fresh rr hl⟩⟩
  | ref a =>
    obtain ⟨p, us, e2, sq, rr⟩ := rdl_of (x := .ref a) s (.ref a) (xs := xs) (by unfold seqOf at e; unfold rdL; exact e)
    cases e2
    exact ⟨_, _, rfl, .inl ⟨sq, fun l hl => fresh rr hl⟩⟩
  | _ => cases e⟩
def gDict (trk : Bool) : GA := fun ds μ R => ∃ x kvs, ds = [x] ∧ (dctOf μ x = some kvs ∨ ∃ ps, rdL μ x = some (ps.map pairD) ∧ kvs = mergeD [] ps) ∧ (if trk then ∀ q, μ q = none → R (.ref q) (mset μ q (.dct kvs)) else R (.dct kvs) μ)
theorem call_dict_any (hc : X.calm = true) : CallR X (.type "dict") (fun xs H Q => (∃ a kvs, xs = [.ref a] ∧ Rd H a (.dK kvs) ∧ ∀ p, H p = none → Q (.ref p) (upd H p (.dK kvs))) ∨
    ∃ (a : Addr) (ps : List Addr) (kvs : List (Key × V)), xs = [.ref a] ∧ SqL X.K H a (ps.map V.ref) ∧ Paired (fun p kv => SqT X.K H p [kV kv.1, kv.2]) ps kvs ∧ ∀ p, H p = none → Q (.ref p) (upd H p (.dK (mergeK [] kvs)))) := by
  intro pins s σ H xs us Q I rs q
  rcases q with ⟨a, kvs, rfl, e, q⟩ | q
  · obtain ⟨u, rfl, ru⟩ := vals1 rs
    obtain rfl : u = Value.ref a := ru
    exact d_copyOf I e fun p s' hp I' => ⟨.ref p, _, I', rfl, q p hp⟩
  · exact call_dictP hc pins s σ H xs us Q I rs q
theorem pairs_of {K : Kn} {F : Addr → Prop} {H : Hp} : ∀ {ps : List (Key × D)} {vs : List V}, Rps K F H (ps.map pairD) vs → ∃ (as : List Addr) (ks : List (Key × V)), vs = as.map V.ref ∧ Paired (fun p (kv : Key × V) => SqT K.K H p [kV kv.1, kv.2]) as ks ∧ Rpk K F H ps ks
  | [], _, .nil => ⟨[], [], rfl, .nil, .nil⟩
  | (k, d) :: ps, _, .cons r t => by
    obtain ⟨as, ks, rfl, h1, h2⟩ := pairs_of t
    cases r with
    | tup f e rr =>
      cases rr with
      | @cons _ w1 _ _ r1 t1 => cases t1 with
        | cons r2 t2 =>
          cases t2
          have e1 : w1 = kV k := by cases k <;> cases r1 <;> rfl
          rw [e1] at e
          exact ⟨_ :: as, (k, _) :: ks, rfl, .cons (SqT.of e) h1, .cons r2 h2⟩
theorem c_dict {trk : Bool} (hc : X.calm = true) : CallL X Z (.type "dict") (gDict trk) := ⟨_, call_dict_any hc, fun F H μ ds vs R Q s rs q k => by
  obtain ⟨x, kvs, rfl, e, q⟩ := q
  obtain ⟨v, rfl, r⟩ := one_of rs
  have fresh : ∀ {p : Addr} {ks : List (Key × V)}, Rpk X.kn F H kvs ks → H p = none → Q (.ref p) (upd H p (.dK ks)) := fun {p ks} rr hp => by
    cases trk with
    | true =>
      have g := s.trkS (o := .dK ks) (m := .dct kvs) hp fun g' e => ⟨ks, e, rr.grow g'⟩
      exact k _ _ _ _ _ g (.ref p) (q p (s.free hp))
    | false =>
      have g := s.frzS (o := .dK ks) hp
      exact k _ _ _ _ μ g (.dct (.inr rfl) (.inl upd_same) (rr.st g)) q
  rcases e with e | ⟨ps, e, rfl⟩
  · obtain ⟨p, ks, rfl, rd, rk⟩ := dct_of s r e
    exact .inl ⟨p, ks, rfl, rd, fun p hp => fresh rk hp⟩
  · obtain ⟨p, us, rfl, sq, rr⟩ := rdl_of s r e
    obtain ⟨as, ks, rfl, h1, h2⟩ := pairs_of rr
    exact .inr ⟨p, as, ks, rfl, sq, h1, fun p hp => fresh (Rpk.merge h2 .nil) hp⟩⟩
/-- new objects, frozen -/
theorem Sim.extS {F : Addr → Prop} {H H' : Hp} {μ : Mu} {N : Addr → Prop} (s : Sim Z F H μ) (ext : ∀ b o, H b = some o → H' b = some o) (hN : ∀ b, N b → H b = none ∧ ∃ u, H' b = some u) : Step Z F H μ (fun b => F b ∨ N b) H' μ := by
  have g : Grow F H (fun b => F b ∨ N b) H' := ⟨fun _ h => .inl h, fun a u f h => h.imp (ext a _) fun ⟨o, h⟩ => ⟨o, ext a _ h⟩, fun a u f _ h => ext a _ h⟩
  refine s.step g (fun a u h n z => ⟨n, ext a _ h, fun f => f.elim z fun f => by rw [(hN a f).1] at h; cases h⟩) ⟨fun a f => ?_, fun a o h => ?_⟩
  · rcases f with f | f
    · obtain ⟨u, e⟩ := s.dom a f; exact ⟨u, ext a u e⟩
    · exact (hN a f).2
  · obtain ⟨nf, m⟩ := s.obj a o h
    have ne : ∀ u, H a = some u → ¬ N a := fun u e f => by rw [(hN a f).1] at e; cases e
    cases o with
    | lst xs => obtain ⟨vs, e, r⟩ := m; exact ⟨fun f => f.elim nf (ne _ e), vs, ext a _ e, r.grow g⟩
    | dct kvs => obtain ⟨vs, e, r⟩ := m; exact ⟨fun f => f.elim nf (ne _ e), vs, ext a _ e, r.grow g⟩
    | dcn kvs => obtain ⟨vs, e, r⟩ := m; exact ⟨fun f => f.elim nf (ne _ e), vs, ext a _ e, r.grow g⟩
    | ins n fs => obtain ⟨C, dx, vs, c, e, r⟩ := m; exact ⟨fun f => f.elim nf (ne _ e), C, dx, vs, c, ext a _ e, r.grow g⟩
def vItems (te : TE3) : TE3 := fun δ μ R => te δ μ fun x μ1 => ∃ kvs, dctOf μ1 x = some kvs ∧ R (.lst (kvs.map pairD)) μ1
theorem rps_pairs {K : Kn} {F F' : Addr → Prop} {H H' : Hp} (g : Grow F H F' H') : ∀ {ts : List Addr} {kvs : List (Key × D)} {ks : List (Key × V)}, Rpk K F H kvs ks → (∀ t ∈ ts, F' t) → Paired (fun (t : Addr) (q : Key × V) => H' t = some (.tup [kV q.1, q.2])) ts ks → Rps K F' H' (kvs.map pairD) (ts.map V.ref)
  | _, _, _, .nil, _, h => by cases h; exact .nil
  | _, _, _, .cons (k := k) r t, f, h => by
    cases h with
    | cons h1 h2 => exact .cons (.tup (f _ List.mem_cons_self) h1 (.cons (key_rp k) (.cons (r.grow g) .nil))) (rps_pairs g t (fun t ht => f t (List.mem_cons_of_mem _ ht)) h2)
theorem e_items (hc : X.calm = true) (hm : X.mg "list" = none) (he : E3 X Z e te) (hg : Gl X "list" := by rfl) (hv : bootBuiltins "list" = some (.type "list") := by decide +kernel) (hbase : attributeBase e "items" X.env (eval e X.env) = eval e X.env := by rfl) (hline : (apos.endLine == cpos.line) = true := by rfl)
    (hs : starEach [.Call (.Attribute e "items" apos) [] [] cpos] X.env = (false, eval (.Call (.Attribute e "items" apos) [] [] cpos) X.env) :: starEach [] X.env := by rfl) :
    E3 X Z (.Call (.Name "list" p) [.Call (.Attribute e "items" apos) [] [] cpos] [] pos) (vItems te) := by
  refine ⟨fun pins s σ H Q I rd => ?_⟩
  obtain ⟨F, δ, μ, R, sm, sl, rd, kk⟩ := rd
  refine wpAny_Call_Name_kw (ld_blt I hg hm hv (PyProof.Rows.callWith_type1 ?_ hs rfl))
  rw [hs]
  show wpAny _ _ (spliced ((false, eval (.Call (.Attribute e "items" apos) [] [] cpos) X.env) :: backTo pos (starEach [] X.env))) _ _ s
  refine Calls.spliced_cons (wpAny_Call_method (T := "dict") (id := "dict.items") hbase rfl hline PySem.F.plainAttrs_dict PySem.F.slot_dict_items PySem.F.type_dict_items (thn (he.run pins s σ H _ I (got1 sm sl rd)) fun u s1 ⟨v, H1, I1, rx, F1, d, μ1, g, r1, kvs, ek, q⟩ => ?_))
  obtain ⟨D, ks, rfl, rk, rs⟩ := dct_of g.sim r1 ek
  obtain rfl : u = Value.ref D := rx
  obtain ⟨hz, low, vs, kv, dd⟩ := dk_rd I1.hok rk
  obtain ⟨ep, hat⟩ := dd.dictAt
  have lk : ks.length = vs.length := Paired.length kv
  refine ⟨dd.typeIs, dd.mapOf.noDict, ?_⟩
  show wpAny _ _ (callWith cpos (.builtin "dict.items") [.ref D] [] []) _ X.xe s1
  refine method_meetsIn PySem.F.slot_dict_items PySem.F.entry_dict_items rfl (PySem.evalArgs_none ⟨rfl, dd.typeIs, PySem.F.args_dict_items_1 _, _, meets_dict_items (mixKind X.prog X.w) D low, ⟨vs, dd⟩, Calls.spliced_nil ?_⟩)
  refine PySem.W.kdx_call (knd := mixKind X.prog X.w) (kvs := vs) (ep := ep) (I1.ok.hd hc) ⟨_, Heap.get?_push_size _ rfl, rfl, rfl⟩ (hat.push _) (by omega) fun h' tk acc c as hk hS hl hG hacc => ?_
  have I2 : Inv X pins σ H1 { s1 with heap := s1.heap.push { cls := .type "dict_items", data := .fields #[.ref D] } } := I1.kept (t' := s1.toks) fun _ _ q => Heap.get?_push_of_some _ q
  obtain ⟨H', k1, k2, k3, k4, k5, k6, J⟩ := LiI.items_laid (tk := tk) I2 hz kv hk hS hl hG hacc
  refine ⟨.ref _, H', J, rfl, ?_⟩
  have tt : ∀ {as : List Addr} {ks : List (Key × V)}, Paired (fun (t : Addr) (q : Key × V) => H' t = some (.tup [kV q.1, q.2])) as ks → ∀ t ∈ as, ∃ u, H' t = some u := by
    intro as ks h
    induction h with
    | nil => intro t ht; cases ht
    | cons h1 _ ih =>
      intro t ht
      rcases List.mem_cons.mp ht with rfl | ht
      · exact ⟨_, h1⟩
      · exact ih t ht
  have g2 := g.sim.extS (H' := H') (N := fun b => b = ({ s1 with heap := s1.heap.push { cls := .type "dict_items", data := .fields #[.ref D] } } : Shared).heap.objs.size ∨ b ∈ as) k1 (fun b hb => by
    rcases hb with rfl | hb
    · exact ⟨k2, _, k5⟩
    · exact ⟨k3 b hb, tt k6 b hb⟩)
  exact kk _ _ _ _ μ1 (g.trans g2) (.lst (.inr (.inl rfl)) k5 (rps_pairs g2.grow rs (fun t ht => .inr (.inr ht)) k6)) q
/-! ### isinstance(x, (list, tuple)) -/
def gIsT : GA := fun ds μ R => ∃ x t ms n b, ds = [x, t] ∧ t = .tup (ms.map D.ty) ∧ tyD μ x = some n ∧ kitsB n ms = some b ∧ R (.bl b) μ
where kitsB (n : String) : List String → Option Bool
  | [] => some false
  | m :: r => match kitB n m with
    | some true => some true
    | some false => kitsB n r
    | none => none
theorem kits_ok {K : PySem.W.Frag} {n : String} : ∀ {ms : List String} {b : Bool}, gIsT.kitsB n ms = some b → PySem.W.kitAny K (.type n) (ms.map Value.type) = some b
  | [], _, h => h
  | m :: r, b, h => by
    unfold gIsT.kitsB at h
    rw [List.map_cons]
    unfold PySem.W.kitAny
    split at h
    · rename_i e; rw [kit_ty e]; exact h
    · rename_i e; rw [kit_ty e]; exact kits_ok h
    · cases h
theorem c_isT : CallL X Z (.builtin "isinstance") gIsT := ⟨_, call_isiT, fun F H μ ds vs R Q s rs q k => by
  obtain ⟨x, t, ms, n, b, rfl, rfl, e1, e2, q⟩ := q
  cases rs with
  | cons r1 t => cases t with
    | cons r2 t =>
      cases t
      cases r2 with
      | tup f e rr =>
        obtain rfl := rps_map (g := V.ty) (fun a v h => by cases h; rfl) rr
        refine ⟨_, _, _, .type n, ms.map Value.type, b, rfl, e, ?_, tyD_ok s r1 e1, kits_ok e2, k F _ H _ μ (Step.refl s) (.bl b) q⟩
        clear e2 rr e
        induction ms with
        | nil => exact .nil
        | cons m r ih => exact .cons (.ty m) ih⟩
/-! ### is True, is False -/
def gIsB (neg : Bool) : G2 := fun x y μ R => match x, y with
  | .bl a, .bl b => R (.bl (if neg then !decide (a = b) else decide (a = b))) μ
  | _, _ => False
theorem o_isB : OpL X Z (compareOp .Is) (gIsB false) := ⟨_, op_isBl, fun F H μ x y vx vy R Q s rx ry q k => by
  unfold gIsB at q
  split at q
  · cases rx; cases ry; exact ⟨_, _, rfl, rfl, k F _ H _ μ (Step.refl s) (.bl _) q⟩
  · exact q.elim⟩
theorem o_notB : OpL X Z (compareOp .IsNot) (gIsB true) := ⟨_, op_notBl, fun F H μ x y vx vy R Q s rx ry q k => by
  unfold gIsB at q
  split at q
  · cases rx; cases ry; exact ⟨_, _, rfl, rfl, k F _ H _ μ (Step.refl s) (.bl _) q⟩
  · exact q.elim⟩
/-! ### xs[::-1], list(range(..)) -/
def vRev (te : TE3) : TE3 := fun δ μ R => te δ μ fun x μ1 => ∃ xs, rdL μ1 x = some xs ∧ R (.lst xs.reverse) μ1
theorem e_rev {k : Nat} {p1 p2 p3 : Pos} (he : E3 X Z e te) : E3 X Z (.Subscript e (.Slice none none (some (.UnaryOp .USub (.Constant (.int 1) k p1) p2)) p3) pos) (vRev te) := (pe_revL he).imp fun σ H Q h => by
  obtain ⟨F, δ, μ, R, s, sl, h, k⟩ := h
  refine ⟨F, δ, μ, _, s, sl, h, fun F1 v H1 d μ1 g r1 q1 => ?_⟩
  obtain ⟨xs, e1, q1⟩ := q1
  obtain ⟨p, us, rfl, sq, rr⟩ := rdl_of g.sim r1 e1
  refine ⟨p, us, rfl, sq, fun l hl => ?_⟩
  have g2 := g.sim.frzS (o := .lst us.reverse) hl
  exact k _ _ _ _ μ1 (g.trans g2) (.lst (.inr rfl) upd_same ((rr.st g2).reverse)) q1
def vLRg (trk : Bool) (ta : TE3) : TE3 := fun δ μ R => ta δ μ fun x μ1 => ∃ n, x = .int n ∧ 0 ≤ n ∧ n ≤ 16777216 ∧ (if trk then ∀ q, μ1 q = none → R (.ref q) (mset μ1 q (.lst (rgD 0 n.toNat))) else R (.lst (rgD 0 n.toNat)) μ1)
theorem rps_rg {K : Kn} {F : Addr → Prop} {H : Hp} {n : Int} : Rps K F H (rgD 0 n.toNat) (rgV 0 n) := by
  unfold rgD rgV
  rw [show (n - 0).toNat = n.toNat by omega]
  generalize n.toNat = m
  have : ∀ l : List Nat, Rps K F H (l.map fun i => D.int (0 + (i : Nat))) (l.map fun i => V.int (0 + (i : Nat))) := by
    intro l
    induction l with
    | nil => exact .nil
    | cons a r ih => exact .cons (.int _) ih
  exact this _
theorem e_listRg {trk : Bool} {p2 pos2 : Pos} (hc : X.calm = true) (hm : X.mg "list" = none) (hm2 : X.mg "range" = none) (ha : E3 X Z a ta) (hg : Gl X "list" := by rfl) (hg2 : Gl X "range" := by rfl)
    (na : starEach [.Call (.Name "range" p2) [a] [] pos2] X.env = (false, eval (.Call (.Name "range" p2) [a] [] pos2) X.env) :: starEach [] X.env := by rfl) (na2 : starEach [a] X.env = (false, eval a X.env) :: starEach [] X.env := by rfl) :
    E3 X Z (.Call (.Name "list" p) [.Call (.Name "range" p2) [a] [] pos2] [] pos) (vLRg trk ta) := (pe_listRg hc hg hm (prg_1 hg2 hm2 ha na2) na).imp fun σ H Q h => by
  obtain ⟨F, δ, μ, R, s, sl, h, k⟩ := h
  refine ⟨F, δ, μ, _, s, sl, h, fun F1 v H1 d μ1 g r1 q1 => ?_⟩
  obtain ⟨n, rfl, h0, h1, q1⟩ := q1
  cases r1
  refine ⟨n, rfl, RgOk.of_le (Int.le_refl 0) h1 (by decide) h0, fun q hq => ?_⟩
  cases trk with
  | true =>
    have g2 := g.sim.trkS (o := .lst (rgV 0 n)) (m := .lst (rgD 0 n.toNat)) hq fun g' e => ⟨_, e, rps_rg⟩
    exact k _ _ _ _ _ (g.trans g2) (.ref q) (q1 q (g.sim.free hq))
  | false =>
    have g2 := g.sim.frzS (o := .lst (rgV 0 n)) hq
    exact k _ _ _ _ μ1 (g.trans g2) (.lst (.inr rfl) upd_same rps_rg) q1
/-! ### what is tracked may be frozen between two statements -/
inductive FrSl (μ μ' : Mu) : St3 → St3 → Prop
  | nil : FrSl μ μ' [] []
  | some {d d' : D} {δ δ' : St3} : Fr μ μ' d d' → FrSl μ μ' δ δ' → FrSl μ μ' (some d :: δ) (some d' :: δ')
  | none {o : Option D} {δ δ' : St3} : FrSl μ μ' δ δ' → FrSl μ μ' (o :: δ) (none :: δ')
theorem Sl.frz {K : Kn} {F : Addr → Prop} {H : Hp} {μ μ' : Mu} (s : Sim0 K F H μ) {δ δ' : St3} (f : FrSl μ μ' δ δ') : ∀ {σ : L2.St}, Sl K F H σ δ → Sl K (gone F μ μ') H σ δ' := by
  have key : ∀ {δ δ' : St3}, FrSl μ μ' δ δ' → δ.length = δ'.length ∧ ∀ (i : Nat) (d' : D), δ'[i]? = some (some d') → ∃ d : D, δ[i]? = some (some d) ∧ Fr μ μ' d d' := by
    intro δ δ' f
    induction f with
    | nil => exact ⟨rfl, fun i d' e => by simp at e⟩
    | some h _ ih =>
      refine ⟨by rw [List.length_cons, List.length_cons, ih.1], fun i d' e => ?_⟩
      cases i with
      | zero => simp at e; subst e; exact ⟨_, rfl, h⟩
      | succ i => simpa using ih.2 i d' (by simpa using e)
    | none _ ih =>
      refine ⟨by rw [List.length_cons, List.length_cons, ih.1], fun i d' e => ?_⟩
      cases i with
      | zero => simp at e
      | succ i => simpa using ih.2 i d' (by simpa using e)
  intro σ sl
  obtain ⟨h1, h2⟩ := key f
  refine ⟨by rw [sl.len, h1], fun i d' e => ?_⟩
  obtain ⟨d, e1, fr⟩ := h2 i d' e
  obtain ⟨v, e2, r⟩ := sl.at_ i d e1
  exact ⟨v, e2, Rp.gone s fr r⟩
def sFrz (t : TS3) : TS3 := fun D δ μ => ∃ δ' μ', Le μ' μ ∧ FrSl μ μ' δ δ' ∧ t D δ' μ'
theorem ss_frz {sts : List Stmt} {t : TS3} (h : Ss3 X Z sts t) : Ss3 X Z sts (sFrz t) := PSs.imp h fun D σ H h => by
  obtain ⟨F, δ, μ, D3, s, sl, ⟨δ', μ', l, f, h⟩, k⟩ := h
  have g := s.dropS l
  exact ⟨_, δ', μ', D3, g.sim, sl.frz s.raw f, h, k.st g⟩
end
end L3

namespace L3
open PySem PySem.Spec PyProof.Rows L2
section
variable {X : Cx} {Z : Zn X.kn} {e a b c o o2 kx v : Expr} {es : List Expr} {te ta tb tc to to2 tk tv : TE3} {tr : TA3} {pos p apos cpos : Pos} {x y z : Str} {i j l : Nat} {n f f2 : Str}
/-! ### o.f, o.g = e -/
def gAttr (K : PySem.W.Frag) (f : Str) (to : TE) : TG := fun v σ H Q => to σ H fun x H1 => ∃ a C dx fs, x = .ref a ∧ H1 a = some (.ins C dx fs) ∧ Cls K C ∧ NoAttr K C f ∧ fs.length < 1000 ∧ Q σ (upd H1 a (.ins C dx (putF f v fs)))
theorem pg_attr {to : TE} (ho : PE X o to) : PG X (.Attribute o f pos) (gAttr X.K f to) := by
  refine ⟨fun pins s σ H v u Q I r h => ?_⟩
  rw [arm_assign_Attribute]
  refine wpAny_bind (wpAny_holding (thn (ho.run pins s σ H _ I h) fun ov s1 ⟨w, H1, I1, r1, a, C, dx, fs, ew, ea, c, nf, hl, q⟩ => ?_))
  subst ew
  obtain rfl : ov = Value.ref a := r1
  refine wpAny_bind (wpAny_standAt (wpAny_bind (wpAny_holding (setattr_ok I1 ea c nf hl r fun s2 I2 => ?_))))
  exact wpAny_release ⟨σ, _, I2, q⟩
def sFld2 (n f f2 : Str) (te to to2 : TE3) : TS3 := fun D δ μ => te δ μ fun d μ1 => ∃ d1 d2, d = .tup [d1, d2] ∧ to δ μ1 fun x μ2 => ∃ a fs, x = .ref a ∧ μ2 a = some (.ins n fs) ∧ fs.length < 1000 ∧
  to2 δ (mset μ2 a (.ins n (putFD f d1 fs))) fun x2 μ3 => ∃ a2 fs2, x2 = .ref a2 ∧ μ3 a2 = some (.ins n fs2) ∧ fs2.length < 1000 ∧ D.nx δ (mset μ3 a2 (.ins n (putFD f2 d2 fs2)))
theorem s_fld2 {p1 p2 pt : Pos} {kt : Nat} (T : Fl3 X.K n f) (T2 : Fl3 X.K n f2) (hc : X.calm = true) (he : E3 X Z e te) (ho : E3 X Z o to) (ho2 : E3 X Z o2 to2)
    (hn : (assignEach [.Attribute o f p1, .Attribute o2 f2 p2] X.env).length = 2 := by rfl) (hst : (assignEach [.Attribute o f p1, .Attribute o2 f2 p2] X.env).findIdx? (·.1) = none := by rfl)
    (h2 : (assignEach [.Attribute o f p1, .Attribute o2 f2 p2] X.env).map (·.2) = assign (.Attribute o f p1) X.env :: (assignEach [.Attribute o2 f2 p2] X.env).map (·.2) := by rfl)
    (h3 : (assignEach [.Attribute o2 f2 p2] X.env).map (·.2) = assign (.Attribute o2 f2 p2) X.env :: (assignEach [] X.env).map (·.2) := by rfl)
    (hs : swapsWithSole [.Tuple [.Attribute o f p1, .Attribute o2 f2 p2] kt pt] e pos.line X.env = pure false := by rfl) (hw : swappedStores [.Tuple [.Attribute o f p1, .Attribute o2 f2 p2] kt pt] e X.env = pure none := by rfl)
    (h1 : (assignEach [.Tuple [.Attribute o f p1, .Attribute o2 f2 p2] kt pt] X.env).map (·.2) = [assign (.Tuple [.Attribute o f p1, .Attribute o2 f2 p2] kt pt) X.env] := by rfl) :
    S3 X Z (.Assign [.Tuple [.Attribute o f p1, .Attribute o2 f2 p2] kt pt] e pos) (sFld2 n f f2 te to to2) := (ps_asg he (pg_tup hc (pgs_cons (pg_attr ho) (pgs_cons (pg_attr ho2) pgs_nil h3) h2) hn hst) hs hw h1).imp fun D σ H h => by
  obtain ⟨F, δ, μ, D3, s, sl, h, k⟩ := h
  refine ⟨F, δ, μ, _, s, sl, h, fun F1 v H1 d μ1 g r1 q1 => ?_⟩
  obtain ⟨d1, d2, rfl, q1⟩ := q1
  cases r1 with
  | @tup _ us t ft et rs =>
    cases rs with
    | @cons _ u1 _ _ ra ts => cases ts with
      | @cons _ u2 _ _ rb ts =>
        cases ts
        refine ⟨t, [u1, u2], rfl, SqT.of et, rfl, u1, [u2], rfl, ?_⟩
        refine ⟨F1, δ, μ1, _, g.sim, sl.st g, q1, fun F2 w H2 x μ2 g2 r2 q2 => ?_⟩
        obtain ⟨a, fs, rfl, ea, hl, q2⟩ := q2
        cases r2
        obtain ⟨C, dx, gs, c, e3, el, g3⟩ := put_fld (f := f) g2.sim ea (ra.st g2)
        obtain ⟨t1, t2⟩ := T.of c
        refine ⟨a, C, dx, gs, rfl, e3, t1, t2, by rw [← el]; exact hl, u2, [], rfl, ?_⟩
        refine ⟨F2, δ, _, _, g3.sim, sl.st ((g.trans g2).trans g3), q2, fun F4 w H4 x μ4 g4 r4 q4 => ?_⟩
        obtain ⟨a', fs', rfl, ea', hl', q4⟩ := q4
        cases r4
        obtain ⟨C', dx', gs', c', e3', el', g5⟩ := put_fld (f := f2) g4.sim ea' (rb.st ((g2.trans g3).trans g4))
        obtain ⟨t1', t2'⟩ := T2.of c'
        have gg := (((g.trans g2).trans g3).trans g4).trans g5
        exact ⟨a', C', dx', gs', rfl, e3', t1', t2', by rw [← el']; exact hl', rfl, k.nx F4 σ _ δ _ gg (sl.st gg) q4⟩
/-! ### {k: v, ..}, tracked -/
def vDispT (trs : List (TE3 × TE3)) : TE3 := fun δ μ R => vPairs trs δ μ fun ps μ1 => ∃ kvs, keysOf ps = some kvs ∧ kvs.length ≤ 15 ∧ ∀ q, μ1 q = none → R (.ref q) (mset μ1 q (.dct (mergeD [] kvs)))
theorem e_dispT {keys : List (Option Expr)} {values : List Expr} {trs : List (TE3 × TE3)} (h : Ps3 X Z pos keys values trs) (hall : keys.all (·.isSome) = true := by rfl) (hl : keys.length = values.length := by rfl) (h0 : keys ≠ [] := by simp) (h15 : keys.length ≤ 15 := by simp) :
    E3 X Z (.Dict keys values pos) (vDispT trs) := (pe_disp h hall hl h0 h15).imp fun σ H Q h => by
  obtain ⟨F, δ, μ, R, s, sl, h, k⟩ := h
  intro p hp
  have g := s.newS (o := .dK []) hp
  have nF : ¬ F p := fun f => by
    obtain ⟨u, hu⟩ := s.dom p f
    rw [hp] at hu
    cases hu
  refine low_pairs g.sim (sl.st g) h fun F1 vs H1 ds μ1 g1 r1 q1 => ?_
  obtain ⟨n1, e1, f1⟩ := g1.fm p _ upd_same (s.free hp) nF
  obtain ⟨kvs, ek, hz, q1⟩ := q1
  obtain ⟨ks, rfl, rk⟩ := r1.keys ek
  refine ⟨e1, ks, rfl, by rw [← rk.length]; exact hz, ?_⟩
  have gg := (g.trans g1).priv (o := .dK (mergeK [] ks)) s hp f1 n1
  have gp := (g1.sim.raw.priv (o := .dK (mergeK [] ks)) f1 n1).1
  have g2 := gg.trk1 (m := .dct (mergeD [] kvs)) s hp f1 n1 ⟨_, upd_same, (Rpk.merge rk .nil).grow gp⟩
  exact k _ _ _ _ _ g2 (.ref p) (q1 p n1)
end
/-! ### defaults that a call does not need -/
def Src.own : Src → Bool
  | .dfl _ => false
  | _ => true
theorem picks_own {α : Type} {z : α} {us ws ds ds' : List α} : ∀ {os : List Src}, os.all Src.own = true → picks z os us ws ds = picks z os us ws ds'
  | [], _ => rfl
  | o :: os, h => by
    rw [List.all_cons, Bool.and_eq_true] at h
    unfold picks
    rw [List.map_cons, List.map_cons]
    congr 1
    · cases o with
      | dfl _ => cases h.1
      | _ => rfl
    · exact picks_own h.2
theorem Bd3.drop {K : PySem.W.Frag} {fd : FuncData} {ps : List Str} {n : Nat} {ks : List Str} {os : List Src} {dfl : List V} (h : Bd3 K fd ps n ks os dfl) (ho : os.all Src.own = true := by rfl) : Bd3 K fd ps n ks os [] := by
  obtain ⟨hl, ds, rd, hb⟩ := h
  exact ⟨hl, [], .nil, fun s us ws X l1 l2 => by rw [picks_own (ds' := ds) ho]; exact hb s us ws X l1 l2⟩
theorem dfl1 {K : PySem.W.Frag} {dT : Addr} {cl : Value} {od : Option Addr} {u : Value} {v : V} {n : Nat} {sl : Array (Option Value)} (l : K.lookup dT = some ⟨cl, od, .seq #[u] n, sl⟩) (r : RelV v u) : DflV K (.ref dT) [v] := .inr ⟨by simp, dT, _, [u], n, rfl, l, rfl, .cons r .nil⟩
/-! ### o.m(e, ..), every parameter by its place -/
section
variable {X : Cx} {Z : Zn X.kn} {X0 : CXT} {e o : Expr} {es : List Expr} {tr : TA3} {to : TE3} {pos apos : Pos} {k : Nat} {sp : Sp3} {lsp : Sp} {E : XK} {j : Nat} {n m : Str}
def vMetA (n m : Str) (cnt : Nat) (sp : Sp3) (to : TE3) (tr : TA3) : TE3 := fun δ μ R => to δ μ fun x μ1 => ∃ fs, insOf μ1 n x = some fs ∧ fs.lookup m = none ∧ tr δ μ1 fun ds μ2 => ds.length = cnt ∧ sp (x :: ds) μ2 R
theorem vMet_all {cnt : Nat} : vMet n m cnt (allPos (cnt + 1)) [] sp to tr = vMetA n m cnt sp to tr := by
  have key : ∀ (x : D) (R : DK), (fun (ds : List D) (μ2 : Mu) => ds.length = cnt ∧ sp (picks .non (allPos (cnt + 1)) (x :: ds) [] []) μ2 R) = fun ds μ2 => ds.length = cnt ∧ sp (x :: ds) μ2 R := fun x R => by
    funext ds μ2
    apply propext
    constructor
    · intro ⟨h1, h2⟩; rw [picks_all (by rw [List.length_cons, h1])] at h2; exact ⟨h1, h2⟩
    · intro ⟨h1, h2⟩; exact ⟨h1, by rw [picks_all (by rw [List.length_cons, h1])]; exact h2⟩
  funext δ μ R
  unfold vMet vMetA
  simp only [key]
theorem e_metA {pl : Sem Bool} {cnt : Nat} (L : Lft X Z X0 (cnt + 1) sp lsp E) (c : Met3 X.prog X.w X.K X.mg X.base X0 k n m cnt [] (allPos (cnt + 1)) [] (cnt + 1) lsp) (hr : RoomG j X.A) (ho : E3 X Z o to) (ha : A3 X Z (e :: es) tr) (hk : k ≤ j := by decide)
    (hst : starEach (e :: es) X.env = (false, eval e X.env) :: starEach es X.env := by rfl) (hpl : (backTo pos (starEach es X.env)).any (·.1) = false := by rfl)
    (ht : eval (.Call (.Attribute o m apos) (e :: es) [] pos) X.env = (do
      let ov ← eval o X.env
      standAt apos.atName
      let (f, first) ← holding [ov] (getMethod ov m pl)
      callWith pos f first (backTo pos (starEach (e :: es) X.env)) (backToKw pos (keywordEach [] X.env))) := by rfl) :
    E3 X Z (.Call (.Attribute o m apos) (e :: es) [] pos) (vMetA n m cnt sp to tr) := by
  rw [← vMet_all]
  exact e_met L c hr ho ha hk hst hpl ht
theorem e_metA0 {pl : Sem Bool} (L : Lft X Z X0 1 sp lsp E) (c : Met3 X.prog X.w X.K X.mg X.base X0 k n m 0 [] (allPos 1) [] 1 lsp) (hr : RoomG j X.A) (ho : E3 X Z o to) (hk : k ≤ j := by decide)
    (ht : eval (.Call (.Attribute o m apos) [] [] pos) X.env = (do
      let ov ← eval o X.env
      standAt apos.atName
      let (f, first) ← holding [ov] (getMethod ov m pl)
      callWith pos f first (backTo pos (starEach [] X.env)) (backToKw pos (keywordEach [] X.env))) := by rfl) :
    E3 X Z (.Call (.Attribute o m apos) [] [] pos) (vMetA n m 0 sp to vNil) := by
  rw [← vMet_all]
  exact e_met0 L c hr ho hk ht
end
end L3

namespace L3
open PySem PySem.Spec PyProof.Rows L2
/-! ### loops by the turn's number -/
theorem for_ix {Pm : Mu → Prop} {g : TG3} {tb : TS3} {Z : Ends3} (ds : List D) (W : Nat → St3 → Mu → Prop) {δ : St3} {μ : Mu} (w0 : W 0 δ μ) (h0 : ∀ δ μ, W ds.length δ μ → Pm μ ∧ Z.nx δ μ)
    (hs : ∀ k d δ μ, ds[k]? = some d → W k δ μ → Pm μ ∧ ∃ δ', g d δ = some δ' ∧ ∀ N : St3 → Mu → Prop, (∀ δ' μ', W (k + 1) δ' μ' → N δ' μ') → tb { Z with nx := N, ct := N, bk := Z.nx } δ' μ) : forW Pm g tb Z ds δ μ := by
  refine for_ind (W := fun es δ μ => ∃ k, k ≤ ds.length ∧ es = ds.drop k ∧ W k δ μ) ?_ ?_ _ _ _ ⟨0, Nat.zero_le _, rfl, w0⟩
  · rintro δ μ ⟨k, hk, e, w⟩
    have : k = ds.length := by
      have := congrArg List.length e
      rw [List.length_drop] at this
      simp at this
      omega
    subst this
    exact h0 δ μ w
  · rintro d es δ μ ⟨k, hk, e, w⟩
    have hlt : k < ds.length := by
      have := congrArg List.length e
      rw [List.length_drop] at this
      simp at this
      omega
    rw [List.drop_eq_getElem_cons hlt] at e
    obtain ⟨rfl, e2⟩ := List.cons.inj e
    obtain ⟨hP, δ', eg, h⟩ := hs k _ δ μ (List.getElem?_eq_getElem hlt) w
    exact ⟨hP, δ', eg, fun N hN => h N fun δ' μ' w' => hN δ' μ' ⟨k + 1, hlt, e2, w'⟩⟩
/-- a for whose body changes nothing that counts -/
theorem for_same {α : Type} {Pm : Mu → Prop} {g : TG3} {tb : TS3} {Z : Ends3} (xs : List α) (e : α → D) (V : St3 → Prop) {δ : St3} {μ : Mu} (hP : Pm μ) (v0 : V δ) (h0 : ∀ δ, V δ → Z.nx δ μ)
    (hs : ∀ x ∈ xs, ∀ δ, V δ → ∃ δ', g (e x) δ = some δ' ∧ ∀ N : St3 → Mu → Prop, (∀ δ', V δ' → N δ' μ) → tb { Z with nx := N, ct := N, bk := Z.nx } δ' μ) : forW Pm g tb Z (xs.map e) δ μ := by
  refine for_ind (W := fun es δ μ' => μ' = μ ∧ V δ ∧ ∃ ys, (∀ y ∈ ys, y ∈ xs) ∧ es = ys.map e) ?_ ?_ _ _ _ ⟨rfl, v0, xs, fun _ h => h, rfl⟩
  · rintro δ μ' ⟨rfl, v, _⟩
    exact ⟨hP, h0 δ v⟩
  · rintro d es δ μ' ⟨rfl, v, ys, hy, e1⟩
    cases ys with
    | nil => cases e1
    | cons y ys =>
      rw [List.map_cons] at e1
      obtain ⟨rfl, rfl⟩ := List.cons.inj e1
      obtain ⟨δ', eg, h⟩ := hs y (hy y List.mem_cons_self) δ v
      exact ⟨hP, δ', eg, fun N hN => h N fun δ' v' => hN δ' _ ⟨rfl, v', ys, fun z hz => hy z (List.mem_cons_of_mem _ hz), rfl⟩⟩
/-! ### comprehensions that change nothing -/
theorem lcg_map {α : Type} {Pm : Mu → Prop} {g : TG3} {te : TE3} {δ : St3} {R : List D → Mu → Prop} {μ : Mu} (e f : α → D) (hP : Pm μ) : ∀ (xs : List α) (acc : List D), (∀ x ∈ xs, ∃ δ', g (e x) δ = some δ' ∧ ∀ R' : DK, R' (f x) μ → te δ' μ R') → acc.length + xs.length ≤ sizeLine → R (acc ++ xs.map f) μ →
    lcW Pm g vYes te δ R (xs.map e) acc μ
  | [], acc, _, _, k => ⟨hP, by simpa using k⟩
  | d :: ds, acc, h, hl, k => by
    rw [List.length_cons] at hl
    obtain ⟨δ', eg, h1⟩ := h d List.mem_cons_self
    refine ⟨hP, by omega, ?_⟩
    rw [eg]
    change (if true = true then te δ' μ (fun y μ2 => lcW Pm g vYes te δ R (ds.map e) (acc ++ [y]) μ2) else lcW Pm g vYes te δ R (ds.map e) acc μ)
    rw [if_pos rfl]
    refine h1 _ (lcg_map e f hP ds (acc ++ [f d]) (fun d' hd => h d' (List.mem_cons_of_mem _ hd)) (by simp; omega) ?_)
    simpa using k
theorem lcg_filter {α : Type} {Pm : Mu → Prop} {g : TG3} {tt : TT3} {te : TE3} {δ : St3} {R : List D → Mu → Prop} {μ : Mu} (p : α → Bool) (e f : α → D) (hP : Pm μ) : ∀ (xs : List α) (acc : List D), (∀ x ∈ xs, ∃ δ', g (e x) δ = some δ' ∧ (∀ R' : Bool → Mu → Prop, R' (p x) μ → tt δ' μ R') ∧
    (p x = true → ∀ R' : DK, R' (f x) μ → te δ' μ R')) → acc.length + xs.length ≤ sizeLine → R (acc ++ (xs.filter p).map f) μ → lcW Pm g tt te δ R (xs.map e) acc μ
  | [], acc, _, _, k => ⟨hP, by simpa using k⟩
  | d :: ds, acc, h, hl, k => by
    rw [List.length_cons] at hl
    obtain ⟨δ', eg, h1, h2⟩ := h d List.mem_cons_self
    refine ⟨hP, by omega, ?_⟩
    rw [eg]
    refine h1 _ ?_
    have h' := fun d' hd => h d' (List.mem_cons_of_mem _ hd)
    cases q : p d with
    | true =>
      rw [if_pos rfl]
      refine h2 q _ (lcg_filter p e f hP ds (acc ++ [f d]) h' (by simp; omega) ?_)
      simpa [List.filter_cons, q] using k
    | false =>
      rw [if_neg Bool.false_ne_true]
      refine lcg_filter p e f hP ds acc h' (by omega) ?_
      simpa [List.filter_cons, q] using k
/-! ### lists, tracked or frozen -/
theorem ty_lst {μ : Mu} {x : D} {xs : List D} (h : lstOf μ x = some xs) : tyD μ x = some "list" := by
  cases x with
  | lst ys => rfl
  | ref a =>
    have h' : (match μ a with
      | some (.lst xs) => some xs
      | _ => none) = some xs := h
    split at h'
    · rename_i e; simp only [tyD, e]
    · cases h'
  | _ => cases h
theorem seq_lst {μ : Mu} {x : D} {xs : List D} (h : lstOf μ x = some xs) : seqOf μ x = some xs := by
  cases x with
  | lst ys => exact h
  | ref a => exact h
  | _ => cases h
theorem rd_lst {μ : Mu} {x : D} {xs : List D} (h : lstOf μ x = some xs) : rdL μ x = some xs := by
  cases x with
  | lst ys => exact h
  | ref a => exact h
  | _ => cases h
theorem lst_ref {μ : Mu} {a : Addr} {xs : List D} (h : μ a = some (.lst xs)) : lstOf μ (.ref a) = some xs := by simp only [lstOf, h]
theorem ref_lst {μ : Mu} {a : Addr} {xs : List D} (h : lstOf μ (.ref a) = some xs) : μ a = some (.lst xs) := by
  have h' : (match μ a with
    | some (.lst xs) => some xs
    | _ => none) = some xs := h
  split at h'
  · rename_i e; cases h'; exact e
  · cases h'
theorem len_lst {μ : Mu} {x : D} {xs : List D} {R : DK} (h : lstOf μ x = some xs) (k : R (.int xs.length) μ) : gLen [x] μ R := gLen_of (seq_lst h) k
theorem sl_lst {μ : Mu} {x : D} {xs : List D} {lo hi : Option Int} {R : DK} (h : lstOf μ x = some xs) (k : R (.lst (cutD xs lo hi)) μ) : gSl x lo hi μ R := by
  cases x with
  | lst ys => exact ⟨_, h, k⟩
  | ref a => exact ⟨_, h, k⟩
  | _ => cases h
theorem enm_lst {μ : Mu} {x : D} {xs : List D} {R : List D → (Mu → Prop) → Mu → Prop} (h : lstOf μ x = some xs) (k : ∀ Pm : Mu → Prop, (∀ μ', lstOf μ' x = some xs → Pm μ') → R (enumD xs) Pm μ) : enmI R μ [x] := by
  cases x with
  | lst ys => cases h; exact k _ fun _ _ => trivial
  | ref a => exact ⟨xs, ref_lst h, k _ fun μ' h' => ref_lst h'⟩
  | _ => cases h
theorem any_lst {μ : Mu} {x : D} {xs : List D} {R : List D → (Mu → Prop) → Mu → Prop} (h : lstOf μ x = some xs) (k : ∀ Pm : Mu → Prop, (∀ μ', lstOf μ' x = some xs → Pm μ') → R xs Pm μ) : anyI R μ x := by
  cases x with
  | lst ys => cases h; exact k _ fun _ _ => trivial
  | ref a => exact ⟨xs, ref_lst h, k _ fun μ' h' => ref_lst h'⟩
  | _ => cases h
/-! ### a new object is forgotten, and frozen -/
theorem Le.mset_new {μ : Mu} {q : Addr} {o : MO} (h : μ q = none) : Le μ (L3.mset μ q o) := (Le.refl μ).mset h
theorem fin_obj {R : DK} {q : Addr} {n : Str} {fs : List (Str × D)} {μ μ' : Mu} (l : Le μ' μ) (e : μ q = some (.ins n fs)) (hn : μ' q = none) (h : R (.obj n fs) μ') : fin R (.ref q) μ := ⟨_, μ', l, .obj e hn (Frf.same fs), h⟩
/-! ### texts in lists -/
def sds (l : List Str) : List D := l.map D.str
theorem sds_flat (l : List Str) : (sds l).all flatD = true := by simp [sds, flatD]
theorem in_sds (x : Str) (l : List Str) : inD (.str x) (sds l) = decide (x ∈ l) := by
  induction l with
  | nil => rfl
  | cons a r ih =>
    unfold sds inD at ih ⊢
    rw [List.map_cons, List.any_cons, ih]
    show (a == x || _) = _
    rw [Bool.eq_iff_iff]
    simp only [Bool.or_eq_true, beq_iff_eq, decide_eq_true_eq, List.mem_cons]
    constructor
    · rintro (h | h)
      · exact .inl h.symm
      · exact .inr h
    · rintro (h | h)
      · exact .inl h.symm
      · exact .inr h
theorem sds_get {l : List Str} {i : Nat} {d : D} (h : (sds l)[i]? = some d) : ∃ s, l[i]? = some s ∧ d = .str s := by
  unfold sds at h
  rw [List.getElem?_map] at h
  obtain ⟨s, e, rfl⟩ := Option.map_eq_some_iff.mp h
  exact ⟨s, e, rfl⟩
theorem cut_to {l : List Str} {i : Nat} (h : i ≤ l.length) : cutD (sds l) none (some (i : Int)) = sds (l.take i) := by
  unfold cutD sds
  rw [HT.sIx_none, HT.sIx_nat, List.length_map, Nat.min_eq_left h, Nat.sub_zero, List.drop_zero, List.map_take]
theorem kl_list : gIsT.kitsB "list" ["list", "tuple"] = some true := by
  unfold gIsT.kitsB; rw [kb_list_list]
theorem kl_tuple : gIsT.kitsB "tuple" ["list", "tuple"] = some true := by
  unfold gIsT.kitsB; rw [kb_tuple_list]; show gIsT.kitsB "tuple" ["tuple"] = _; unfold gIsT.kitsB; rw [kb_tuple_tuple]
end L3

namespace L3
open PySem PySem.Spec L2
/-! ### small data: shown and compared without a limit in the way -/
def asc (z : Str) : Prop := ∀ c ∈ z.cps.toList, c < 128
theorem strOk_asc {z : Str} (h : asc z) : PyData.strOk z = true := by
  unfold PyData.strOk
  rw [← Array.all_toList, List.all_eq_true]
  intro c hc
  have := h c hc
  exact decide_eq_true (by omega)
structure Sm (k B : Nat) (p : PyData) : Prop where
  lay : p.canLay0 = true
  itg : p.intsShort 40 = true
  shw : p.showable = true
  dep : p.depth ≤ k
  blk : p.bulk ≤ B
theorem Sm.mono {k B k' B' : Nat} {p : PyData} (h : Sm k B p) (hk : k ≤ k') (hB : B ≤ B') : Sm k' B' p := ⟨h.lay, h.itg, h.shw, Nat.le_trans h.dep hk, Nat.le_trans h.blk hB⟩
theorem Sm.none {k B : Nat} : Sm k B .none := ⟨rfl, rfl, rfl, Nat.zero_le _, Nat.zero_le _⟩
theorem Sm.bool {k B : Nat} (b : Bool) : Sm k B (.bool b) := ⟨rfl, rfl, rfl, Nat.zero_le _, Nat.zero_le _⟩
theorem Sm.str {k B : Nat} {z : Str} (h : asc z) (hl : z.length ≤ B) : Sm k B (.str z) := ⟨strOk_asc h, rfl, rfl, Nat.zero_le _, hl⟩
theorem ext_l {x y : Str} (h : x.cps.toList = y.cps.toList) : x = y := TL.ext_tl h
theorem text_nat (n : Nat) : (Str.ofString (toString ((n : Nat) : Int))).cps.toList = TL.numL n := TL.tl_num n
theorem text_neg {n : Nat} (h : 0 < n) : (Str.ofString (toString (-(n : Int)))).cps.toList = 45 :: TL.numL n := by
  have e : toString (-(n : Int)) = "-" ++ toString ((n : Nat) : Int) := by
    have := PyProof.Rows.toString_neg (n := -(n : Int)) (by omega)
    rw [this]
    congr 2
    omega
  rw [e]
  have e2 : ∀ x y : Str, (x ++ y).cps.toList = x.cps.toList ++ y.cps.toList := fun x y => by
    show (x.cps ++ y.cps).toList = _
    simp
  have : Str.ofString ("-" ++ toString ((n : Nat) : Int)) = Str.ofString "-" ++ Str.ofString (toString ((n : Nat) : Int)) := by
    apply ext_l; rw [e2, Str.ofString_eq_toList, Str.ofString_eq_toList, Str.ofString_eq_toList]; simp [String.toList_append]
  rw [this]
  rw [e2, text_nat]
  rfl
theorem show_int {i : Int} (h : i.natAbs < 10 ^ 31) : (PyData.int i).shown.length ≤ 40 := by
  have e : (PyData.int i).shown = Str.ofString (toString i) := by simp [PyData.shown]
  rw [e]
  have len : ∀ n : Nat, n < 10 ^ 31 → (TL.numL n).length ≤ 31 := fun n hn => TL.numL_len (by decide) hn
  have lz : ∀ x : Str, x.length = x.cps.toList.length := fun x => by simp [Str.length]
  rcases Int.eq_nat_or_neg i with ⟨n, rfl | rfl⟩
  · rw [lz, text_nat]
    have := len n (by simpa using h)
    omega
  · by_cases h0 : 0 < n
    · rw [lz, text_neg h0]
      have := len n (by simpa using h)
      simp only [List.length_cons]
      omega
    · obtain rfl : n = 0 := by omega
      decide +kernel
theorem log_int {i : Int} (h : i.natAbs < 10 ^ 31) : i.natAbs.log2 < 1920 := by
  have := PySem.Flt.log2_lt_of (n := i.natAbs) (k := 110) (by decide) (Nat.lt_trans h (by decide))
  omega
theorem Sm.int {k B : Nat} {i : Int} (h : i.natAbs < 10 ^ 31) : Sm k B (.int i) := ⟨rfl, decide_eq_true (show_int h), decide_eq_true (log_int h), Nat.zero_le _, Nat.zero_le _⟩
theorem sm_all {k B : Nat} : ∀ {ps : List PyData}, (∀ p ∈ ps, Sm k B p) → PyData.canLayAll0 ps = true ∧ PyData.intsShortAll 40 ps = true ∧ PyData.showableAll ps = true ∧ PyData.depthAll ps ≤ k ∧ PyData.bulkAll ps ≤ ps.length * (B + 1)
  | [], _ => ⟨rfl, rfl, rfl, Nat.zero_le _, Nat.zero_le _⟩
  | p :: r, h => by
    obtain ⟨a, b, c, d, e⟩ := sm_all fun q hq => h q (List.mem_cons_of_mem _ hq)
    have s := h p List.mem_cons_self
    refine ⟨by simp [PyData.canLayAll0, a, s.lay], by simp [PyData.intsShortAll, b, s.itg], by simp [PyData.showableAll, c, s.shw], ?_, ?_⟩
    · simp only [PyData.depthAll]; have := s.dep; omega
    · simp only [PyData.bulkAll, List.length_cons, Nat.add_mul]; have := s.blk; omega
theorem Sm.list {k B n : Nat} {ps : List PyData} (h : ∀ p ∈ ps, Sm k B p) (hn : ps.length ≤ n) : Sm (k + 1) (n * (B + 1)) (.list ps) := by
  obtain ⟨a, b, c, d, e⟩ := sm_all h
  exact ⟨a, b, c, by simp only [PyData.depth]; omega, by simp only [PyData.bulk]; exact Nat.le_trans e (Nat.mul_le_mul_right _ hn)⟩
theorem Sm.tuple {k B n : Nat} {ps : List PyData} (h : ∀ p ∈ ps, Sm k B p) (hn : ps.length ≤ n) : Sm (k + 1) (n * (B + 1)) (.tuple ps) := by
  obtain ⟨a, b, c, d, e⟩ := sm_all h
  exact ⟨a, b, c, by simp only [PyData.depth]; omega, by simp only [PyData.bulk]; exact Nat.le_trans e (Nat.mul_le_mul_right _ hn)⟩
theorem Sm.shaped {k B : Nat} {p : PyData} (h : Sm k B p) (hk : k ≤ 64) : SeqAt.shaped p = true := by
  unfold SeqAt.shaped
  rw [h.lay, decide_eq_true (Nat.le_trans h.dep hk)]; rfl
theorem Sm.shown {k B : Nat} {p : PyData} (h : Sm k B p) (hk : k ≤ 64) (hB : B ≤ 300000) : ShowOk p := by
  refine ⟨h.shw, PyData.hasDict_of_canLay p h.lay, Nat.le_trans h.dep (by omega), ?_⟩
  have := PyData.shown_le_bulk 40 (by decide) p (PyData.leavesShort_of_canLay0 40 p h.lay h.itg)
  have e : sizeLine = 16777216 := by decide
  have := h.blk
  omega
theorem sh_sds {μ : Mu} : ∀ l : List Str, Shs μ (sds l) (l.map PyData.str)
  | [] => .nil
  | w :: r => .cons (.str w) (sh_sds r)
theorem sh_lst {μ : Mu} {x : D} {l : List Str} (h : lstOf μ x = some (sds l)) : Sh μ x (.list (l.map PyData.str)) := by
  cases x with
  | lst ys => cases h; exact .lst (sh_sds l)
  | ref a => exact .ref (ref_lst h) (sh_sds l)
  | _ => cases h
theorem eqv_nil (l : List Str) : PyData.eqv (.list (l.map PyData.str)) (.list []) = decide (l = []) := by cases l <;> rfl
theorem eqv_sds : ∀ (l r : List Str), PyData.eqvAll (l.map PyData.str) (r.map PyData.str) = decide (l = r)
  | [], [] => rfl
  | [], _ :: _ => rfl
  | _ :: _, [] => rfl
  | a :: l, b :: r => by
    rw [List.map_cons, List.map_cons, PyData.eqvAll, eqv_sds l r]
    have : PyData.eqv (.str a) (.str b) = decide (a = b) := by
      simp only [PyData.eqv]
      rw [Bool.eq_iff_iff]; simp
    rw [this, Bool.eq_iff_iff]; simp
end L3

namespace C2
/-! ### walks over rows of (from, to, length) -/
section
variable {N : Type} [DecidableEq N]
inductive Wk (rows : List (N × N × Int)) : N → N → Int → Nat → Prop
  | nil (a : N) : Wk rows a a 0 0
  | cons {a b c : N} {w v : Int} {k : Nat} : (a, b, w) ∈ rows → Wk rows b c v k → Wk rows a c (w + v) (k + 1)
theorem Wk.app {rows : List (N × N × Int)} {a b c : N} {w v : Int} {k j : Nat} (h : Wk rows a b w k) (g : Wk rows b c v j) : Wk rows a c (w + v) (k + j) := by
  induction h with
  | nil a => simpa using g
  | cons e _ ih =>
    have := Wk.cons e (ih g)
    rw [Int.add_assoc, Nat.add_right_comm]
    exact this
theorem Wk.one {rows : List (N × N × Int)} {a b : N} {w : Int} (h : (a, b, w) ∈ rows) : Wk rows a b w 1 := by
  simpa using Wk.cons h (.nil b)
theorem Wk.pos {rows : List (N × N × Int)} (hp : ∀ r ∈ rows, 0 ≤ r.2.2) {a b : N} {w : Int} {k : Nat} (h : Wk rows a b w k) : 0 ≤ w := by
  induction h with
  | nil a => exact Int.le_refl 0
  | cons e _ ih => have := hp _ e; simp only at this; omega
theorem Wk.mono {rows rows' : List (N × N × Int)} (hs : ∀ r ∈ rows, r ∈ rows') {a b : N} {w : Int} {k : Nat} (h : Wk rows a b w k) : Wk rows' a b w k := by
  induction h with
  | nil a => exact .nil a
  | cons e _ ih => exact .cons (hs _ e) ih
def leO (o : Option Int) (w : Int) : Prop := ∃ v, o = some v ∧ v ≤ w
theorem leO.mono {o : Option Int} {w w' : Int} (h : leO o w) (hw : w ≤ w') : leO o w' := by
  obtain ⟨v, e, h⟩ := h
  exact ⟨v, e, Int.le_trans h hw⟩
/-- o is the length of the shortest walk -/
structure IsD (rows : List (N × N × Int)) (a b : N) (o : Option Int) : Prop where
  sound : ∀ v, o = some v → ∃ k, Wk rows a b v k
  least : ∀ w k, Wk rows a b w k → leO o w
theorem IsD.uniq {rows : List (N × N × Int)} {a b : N} {o o' : Option Int} (h : IsD rows a b o) (h' : IsD rows a b o') : o = o' := by
  cases o with
  | none =>
    cases o' with
    | none => rfl
    | some v =>
      obtain ⟨k, w⟩ := h'.sound v rfl
      obtain ⟨u, e, _⟩ := h.least v k w
      cases e
  | some v =>
    obtain ⟨k, w⟩ := h.sound v rfl
    obtain ⟨u, rfl, l1⟩ := h'.least v k w
    obtain ⟨k', w'⟩ := h'.sound u rfl
    obtain ⟨z, e, l2⟩ := h.least u k' w'
    cases e
    rw [Int.le_antisymm l2 l1]
theorem IsD.some_iff {rows : List (N × N × Int)} {a b : N} {o : Option Int} (h : IsD rows a b o) : o.isSome = true ↔ ∃ w k, Wk rows a b w k := by
  constructor
  · intro q
    obtain ⟨v, e⟩ := Option.isSome_iff_exists.mp q
    obtain ⟨k, w⟩ := h.sound v e
    exact ⟨v, k, w⟩
  · rintro ⟨w, k, q⟩
    obtain ⟨v, e, _⟩ := h.least w k q
    rw [e]; rfl
/-! ### walks whose inner nodes lie in S, with one row at least -/
inductive Wi (rows : List (N × N × Int)) (S : List N) : N → N → Int → Prop
  | edge {a b : N} {w : Int} : (a, b, w) ∈ rows → Wi rows S a b w
  | cons {a m b : N} {w v : Int} : (a, m, w) ∈ rows → m ∈ S → Wi rows S m b v → Wi rows S a b (w + v)
theorem Wi.pos {rows : List (N × N × Int)} {S : List N} (hp : ∀ r ∈ rows, 0 ≤ r.2.2) {a b : N} {w : Int} (h : Wi rows S a b w) : 0 ≤ w := by
  induction h with
  | edge e => exact hp _ e
  | cons e _ _ ih => have := hp _ e; simp only at this; omega
theorem Wi.split {rows : List (N × N × Int)} {S : List N} {m : N} (hp : ∀ r ∈ rows, 0 ≤ r.2.2) {a b : N} {w : Int} (h : Wi rows (S ++ [m]) a b w) : Wi rows S a b w ∨ ∃ w1 w2, Wi rows S a m w1 ∧ Wi rows S m b w2 ∧ w1 + w2 ≤ w := by
  induction h with
  | edge e => exact .inl (.edge e)
  | cons e hm h ih =>
    rcases List.mem_append.mp hm with hm | hm
    · rcases ih with ih | ⟨w1, w2, i1, i2, l⟩
      · exact .inl (.cons e hm ih)
      · exact .inr ⟨_, w2, .cons e hm i1, i2, by omega⟩
    · rw [List.mem_singleton] at hm
      subst hm
      rcases ih with ih | ⟨w1, w2, i1, i2, l⟩
      · exact .inr ⟨_, _, .edge e, ih, Int.le_refl _⟩
      · have := Wi.pos hp i1
        exact .inr ⟨_, w2, .edge e, i2, by omega⟩
theorem Wi.of {rows : List (N × N × Int)} {S : List N} (hS : ∀ r ∈ rows, r.1 ∈ S ∧ r.2.1 ∈ S) {a b : N} {w : Int} {k : Nat} (h : Wk rows a b w k) : (a = b ∧ w = 0) ∨ Wi rows S a b w := by
  induction h with
  | nil a => exact .inl ⟨rfl, rfl⟩
  | cons e _ ih =>
    rcases ih with ⟨rfl, rfl⟩ | ih
    · rw [Int.add_zero]; exact .inr (.edge e)
    · exact .inr (.cons e (hS _ e).2 ih)
/-! ### the table: lengths and names of steps -/
structure LS (N Y : Type) where
  L : N → N → Option Int
  S : N → N → Option Y
variable {Y : Type}
def bet (o : Option Int) (w : Int) : Bool := match o with
  | none => true
  | some v => decide (w < v)
def rlx (s : LS N Y) (a b : N) (w : Int) (y : Y) : LS N Y := if bet (s.L a b) w = true then ⟨fun x z => if x = a ∧ z = b then some w else s.L x z, fun x z => if x = a ∧ z = b then some y else s.S x z⟩ else s
def fwS (ym : N → Y) (m : N) (s : LS N Y) (a b : N) : LS N Y := match s.L a m, s.L m b with
  | some u, some v => rlx s a b (u + v) (ym m)
  | _, _ => s
def Mn (s s' : LS N Y) : Prop := ∀ a b w, leO (s.L a b) w → leO (s'.L a b) w
theorem Mn.refl (s : LS N Y) : Mn s s := fun _ _ _ h => h
theorem Mn.trans {s s' s'' : LS N Y} (h : Mn s s') (g : Mn s' s'') : Mn s s'' := fun a b w k => g a b w (h a b w k)
theorem rlx_mn (s : LS N Y) (a b : N) (w : Int) (y : Y) : Mn s (rlx s a b w y) := fun x z v h => by
  unfold rlx
  split
  · rename_i q
    by_cases e : x = a ∧ z = b
    · simp only [e, and_self, if_true]
      obtain ⟨rfl, rfl⟩ := e
      obtain ⟨u, e, l⟩ := h
      unfold bet at q
      rw [e] at q
      have := of_decide_eq_true q
      exact ⟨w, rfl, by omega⟩
    · simp only [e, if_false]; exact h
  · exact h
theorem rlx_hit (s : LS N Y) (a b : N) (w : Int) (y : Y) : leO ((rlx s a b w y).L a b) w := by
  unfold rlx
  split
  · simp only [and_self, if_true]; exact ⟨w, rfl, Int.le_refl _⟩
  · rename_i q
    unfold bet at q
    cases e : s.L a b with
    | none => rw [e] at q; exact absurd rfl q
    | some v =>
      rw [e] at q
      exact ⟨v, rfl, by simpa using q⟩
theorem fwS_mn (ym : N → Y) (m : N) (s : LS N Y) (a b : N) : Mn s (fwS ym m s a b) := by
  unfold fwS
  split
  · exact rlx_mn _ _ _ _ _
  · exact Mn.refl s
theorem fwS_hit {ym : N → Y} {m : N} {s : LS N Y} {a b : N} {u v : Int} (h1 : leO (s.L a m) u) (h2 : leO (s.L m b) v) : leO ((fwS ym m s a b).L a b) (u + v) := by
  obtain ⟨u', e1, l1⟩ := h1
  obtain ⟨v', e2, l2⟩ := h2
  unfold fwS
  rw [e1, e2]
  exact (rlx_hit _ _ _ _ _).mono (by omega)
def Snd (rows : List (N × N × Int)) (s : LS N Y) : Prop := ∀ a b v, s.L a b = some v → ∃ k, Wk rows a b v k
theorem rlx_snd {rows : List (N × N × Int)} {s : LS N Y} {a b : N} {w : Int} {y : Y} {k : Nat} (h : Snd rows s) (g : Wk rows a b w k) : Snd rows (rlx s a b w y) := fun x z v e => by
  unfold rlx at e
  split at e
  · by_cases q : x = a ∧ z = b
    · simp only [q, and_self, if_true] at e
      obtain ⟨rfl, rfl⟩ := q
      cases e
      exact ⟨k, g⟩
    · simp only [q, if_false] at e; exact h x z v e
  · exact h x z v e
theorem fwS_snd {rows : List (N × N × Int)} {ym : N → Y} {m : N} {s : LS N Y} {a b : N} (h : Snd rows s) : Snd rows (fwS ym m s a b) := by
  unfold fwS
  split
  · rename_i u v e1 e2
    obtain ⟨k1, w1⟩ := h _ _ _ e1
    obtain ⟨k2, w2⟩ := h _ _ _ e2
    exact rlx_snd h (w1.app w2)
  · exact h
def fwB (ym : N → Y) (m a : N) (bs : List N) (s : LS N Y) : LS N Y := bs.foldl (fun s b => fwS ym m s a b) s
def fwA (ym : N → Y) (m : N) (nodes as : List N) (s : LS N Y) : LS N Y := as.foldl (fun s a => fwB ym m a nodes s) s
def fwM (ym : N → Y) (nodes ms : List N) (s : LS N Y) : LS N Y := ms.foldl (fun s m => fwA ym m nodes nodes s) s
theorem fwB_all (rows : List (N × N × Int)) {ym : N → Y} {m a : N} {s0 : LS N Y} : ∀ (bs : List N) (s : LS N Y), Mn s0 s → (Snd rows s → Snd rows (fwB ym m a bs s)) ∧ Mn s (fwB ym m a bs s) ∧ ∀ b ∈ bs, ∀ u v, leO (s0.L a m) u → leO (s0.L m b) v → leO ((fwB ym m a bs s).L a b) (u + v)
  | [], s, _ => ⟨id, Mn.refl s, fun b h => nomatch h⟩
  | b :: r, s, h => by
    obtain ⟨i1, i2, i3⟩ := fwB_all rows (ym := ym) (m := m) (a := a) r (fwS ym m s a b) (h.trans (fwS_mn ym m s a b))
    refine ⟨fun k => i1 (fwS_snd k), (fwS_mn ym m s a b).trans i2, fun c hc u v h1 h2 => ?_⟩
    rcases List.mem_cons.mp hc with rfl | hc
    · exact i2 _ _ _ (fwS_hit (h _ _ _ h1) (h _ _ _ h2))
    · exact i3 c hc u v h1 h2
theorem fwA_all (rows : List (N × N × Int)) {ym : N → Y} {m : N} {nodes : List N} {s0 : LS N Y} : ∀ (as : List N) (s : LS N Y), Mn s0 s → (Snd rows s → Snd rows (fwA ym m nodes as s)) ∧ Mn s (fwA ym m nodes as s) ∧ ∀ a ∈ as, ∀ b ∈ nodes, ∀ u v, leO (s0.L a m) u → leO (s0.L m b) v → leO ((fwA ym m nodes as s).L a b) (u + v)
  | [], s, _ => ⟨id, Mn.refl s, fun b h => nomatch h⟩
  | a :: r, s, h => by
    obtain ⟨j1, j2, j3⟩ := fwB_all rows (ym := ym) (m := m) (a := a) (s0 := s0) nodes s h
    obtain ⟨i1, i2, i3⟩ := fwA_all rows (ym := ym) (m := m) (nodes := nodes) r (fwB ym m a nodes s) (h.trans j2)
    refine ⟨fun k => i1 (j1 k), j2.trans i2, fun c hc b hb u v h1 h2 => ?_⟩
    rcases List.mem_cons.mp hc with rfl | hc
    · exact i2 _ _ _ (j3 b hb u v h1 h2)
    · exact i3 c hc b hb u v h1 h2
def Cmp (rows : List (N × N × Int)) (nodes S : List N) (s : LS N Y) : Prop := ∀ a ∈ nodes, ∀ b ∈ nodes, ∀ w, Wi rows S a b w → leO (s.L a b) w
theorem fwM_all {rows : List (N × N × Int)} {ym : N → Y} {nodes : List N} (hp : ∀ r ∈ rows, 0 ≤ r.2.2) : ∀ (ms S : List N) (s : LS N Y), (∀ m ∈ ms, m ∈ nodes) → Snd rows s → Cmp rows nodes S s → Snd rows (fwM ym nodes ms s) ∧ Mn s (fwM ym nodes ms s) ∧ Cmp rows nodes (S ++ ms) (fwM ym nodes ms s)
  | [], S, s, _, h1, h2 => ⟨h1, Mn.refl s, by rw [List.append_nil]; exact h2⟩
  | m :: r, S, s, hm, h1, h2 => by
    obtain ⟨j1, j2, j3⟩ := fwA_all rows (ym := ym) (m := m) (nodes := nodes) (s0 := s) nodes s (Mn.refl s)
    have hmn := hm m List.mem_cons_self
    obtain ⟨i1, i2, i3⟩ := fwM_all (ym := ym) hp r (S ++ [m]) (fwA ym m nodes nodes s) (fun x hx => hm x (List.mem_cons_of_mem _ hx)) (j1 h1) (fun a ha b hb w q => by
      rcases q.split hp with q | ⟨w1, w2, q1, q2, l⟩
      · exact j2 _ _ _ (h2 a ha b hb w q)
      · exact (j3 a ha b hb w1 w2 (h2 a ha m hmn w1 q1) (h2 m hmn b hb w2 q2)).mono l)
    refine ⟨i1, j2.trans i2, ?_⟩
    rw [List.append_assoc] at i3
    exact i3
def row0 (nodes : List N) : LS N Y := ⟨fun a b => if a = b ∧ a ∈ nodes then some 0 else none, fun _ _ => none⟩
def rlxR (rows : List ((N × N × Int) × Y)) (s : LS N Y) : LS N Y := rows.foldl (fun s r => rlx s r.1.1 r.1.2.1 r.1.2.2 r.2) s
theorem rlxR_all (all : List (N × N × Int)) : ∀ (rows : List ((N × N × Int) × Y)) (s : LS N Y), (∀ r ∈ rows, r.1 ∈ all) → Snd all s → Snd all (rlxR rows s) ∧ Mn s (rlxR rows s) ∧ ∀ r ∈ rows, leO ((rlxR rows s).L r.1.1 r.1.2.1) r.1.2.2
  | [], s, _, h => ⟨h, Mn.refl s, fun r h => nomatch h⟩
  | r :: t, s, ha, h => by
    obtain ⟨i1, i2, i3⟩ := rlxR_all all t (rlx s r.1.1 r.1.2.1 r.1.2.2 r.2) (fun x hx => ha x (List.mem_cons_of_mem _ hx)) (rlx_snd h (Wk.one (ha r List.mem_cons_self)))
    refine ⟨i1, (rlx_mn _ _ _ _ _).trans i2, fun x hx => ?_⟩
    rcases List.mem_cons.mp hx with rfl | hx
    · exact i2 _ _ _ (rlx_hit _ _ _ _ _)
    · exact i3 x hx
/-- what leads_of reckons -/
def fw (ym : N → Y) (nodes : List N) (rows : List ((N × N × Int) × Y)) : LS N Y := fwM ym nodes nodes (rlxR rows (row0 nodes))
theorem fw_isD {ym : N → Y} {nodes : List N} {rows : List ((N × N × Int) × Y)} (hp : ∀ r ∈ rows, 0 ≤ r.1.2.2) (hn : ∀ r ∈ rows, r.1.1 ∈ nodes ∧ r.1.2.1 ∈ nodes) {a b : N} (ha : a ∈ nodes) (hb : b ∈ nodes) : IsD (rows.map (·.1)) a b ((fw ym nodes rows).L a b) := by
  have hp' : ∀ r ∈ rows.map (·.1), 0 ≤ r.2.2 := fun r hr => by
    obtain ⟨x, hx, rfl⟩ := List.mem_map.mp hr
    exact hp x hx
  have hn' : ∀ r ∈ rows.map (·.1), r.1 ∈ nodes ∧ r.2.1 ∈ nodes := fun r hr => by
    obtain ⟨x, hx, rfl⟩ := List.mem_map.mp hr
    exact hn x hx
  have s0 : Snd (rows.map (·.1)) (row0 nodes : LS N Y) := fun a b v e => by
    have e' : (if a = b ∧ a ∈ nodes then some (0 : Int) else none) = some v := e
    split at e'
    · rename_i q; cases e'; rw [q.1]; exact ⟨0, .nil b⟩
    · cases e'
  obtain ⟨i1, i2, i3⟩ := rlxR_all (rows.map (·.1)) rows (row0 nodes) (fun r hr => List.mem_map.mpr ⟨r, hr, rfl⟩) s0
  obtain ⟨j1, j2, j3⟩ := fwM_all (ym := ym) hp' nodes [] (rlxR rows (row0 nodes)) (fun _ h => h) i1 (fun a _ b _ w q => by
    cases q with
    | edge e =>
      obtain ⟨x, hx, e2⟩ := List.mem_map.mp e
      have := i3 x hx
      rw [e2] at this
      exact this
    | cons _ h _ => cases h)
  refine ⟨fun v e => j1 a b v e, fun w k q => ?_⟩
  rcases Wi.of hn' q with ⟨rfl, rfl⟩ | q
  · refine j2 _ _ _ (i2 _ _ _ ⟨0, ?_, Int.le_refl _⟩)
    show (if a = a ∧ a ∈ nodes then some (0 : Int) else none) = some 0
    rw [if_pos ⟨rfl, ha⟩]
  · exact j3 a ha b hb w (by simpa using q)
/-! ### the law's way: turn for turn over all rows -/
def rlF (f : N → Option Int) (r : N × N × Int) : N → Option Int := fun x => match f r.1 with
  | none => f x
  | some u => if bet (f r.2.1) (u + r.2.2) = true ∧ x = r.2.1 then some (u + r.2.2) else f x
def turnF (rows : List (N × N × Int)) (f : N → Option Int) : N → Option Int := rows.foldl rlF f
def farF (rows : List (N × N × Int)) : Nat → (N → Option Int) → N → Option Int
  | 0, f => f
  | n + 1, f => turnF rows (farF rows n f)
def MnF (f g : N → Option Int) : Prop := ∀ x w, leO (f x) w → leO (g x) w
theorem rlF_mn (f : N → Option Int) (r : N × N × Int) : MnF f (rlF f r) := fun x w h => by
  unfold rlF
  split
  · exact h
  · split
    · rename_i u e q
      obtain ⟨q, rfl⟩ := q
      obtain ⟨v, e2, l⟩ := h
      unfold bet at q
      rw [e2] at q
      have := of_decide_eq_true q
      exact ⟨_, rfl, by omega⟩
    · exact h
theorem rlF_hit {f : N → Option Int} {r : N × N × Int} {u : Int} (h : leO (f r.1) u) : leO (rlF f r r.2.1) (u + r.2.2) := by
  obtain ⟨v, e, l⟩ := h
  unfold rlF
  rw [e]
  simp only
  split
  · exact ⟨_, rfl, by omega⟩
  · rename_i q
    unfold bet at q
    cases e2 : f r.2.1 with
    | none => rw [e2] at q; exact absurd ⟨rfl, trivial⟩ q
    | some z =>
      rw [e2] at q
      refine ⟨z, rfl, ?_⟩
      have : ¬ (v + r.2.2 < z) := fun k => q ⟨decide_eq_true k, trivial⟩
      omega
def SndF (rows : List (N × N × Int)) (a : N) (f : N → Option Int) : Prop := ∀ x v, f x = some v → ∃ k, Wk rows a x v k
theorem rlF_snd {rows : List (N × N × Int)} {a : N} {f : N → Option Int} {r : N × N × Int} (h : SndF rows a f) (hr : r ∈ rows) : SndF rows a (rlF f r) := fun x v e => by
  unfold rlF at e
  split at e
  · exact h x v e
  · split at e
    · rename_i u e1 q
      obtain ⟨q, rfl⟩ := q
      cases e
      obtain ⟨k, w⟩ := h _ _ e1
      exact ⟨_, w.app (Wk.one hr)⟩
    · exact h x v e
theorem turnF_all (all : List (N × N × Int)) {a : N} {f0 : N → Option Int} : ∀ (rows : List (N × N × Int)) (f : N → Option Int), MnF f0 f → (∀ r ∈ rows, r ∈ all) → (SndF all a f → SndF all a (turnF rows f)) ∧ MnF f (turnF rows f) ∧ ∀ r ∈ rows, ∀ u, leO (f0 r.1) u → leO (turnF rows f r.2.1) (u + r.2.2)
  | [], f, _, _ => ⟨id, fun _ _ h => h, fun r h => nomatch h⟩
  | r :: t, f, hm, ha => by
    obtain ⟨i1, i2, i3⟩ := turnF_all all (a := a) (f0 := f0) t (rlF f r) (fun x w h => rlF_mn f r x w (hm x w h)) (fun x hx => ha x (List.mem_cons_of_mem _ hx))
    refine ⟨fun k => i1 (rlF_snd k (ha r List.mem_cons_self)), fun x w h => i2 x w (rlF_mn f r x w h), fun x hx u hu => ?_⟩
    rcases List.mem_cons.mp hx with rfl | hx
    · exact i2 _ _ (rlF_hit (hm _ _ hu))
    · exact i3 x hx u hu
/-- a walk, last row first -/
theorem Wk.snoc {rows : List (N × N × Int)} {a c : N} {w : Int} {k : Nat} (h : Wk rows a c w (k + 1)) : ∃ b v u, Wk rows a b v k ∧ (b, c, u) ∈ rows ∧ w = v + u := by
  induction k generalizing a w with
  | zero =>
    cases h with
    | cons e h =>
      cases h with
      | nil => exact ⟨_, 0, _, .nil _, e, by omega⟩
  | succ k ih =>
    cases h with
    | cons e h =>
      obtain ⟨b, v, u, h1, h2, rfl⟩ := ih h
      exact ⟨b, _, u, .cons e h1, h2, by omega⟩
theorem farF_all {rows : List (N × N × Int)} {a : N} {f : N → Option Int} (h0 : f a = some 0) (hs : SndF rows a f) : ∀ n, SndF rows a (farF rows n f) ∧ ∀ x w k, k ≤ n → Wk rows a x w k → leO (farF rows n f x) w
  | 0 => ⟨hs, fun x w k hk h => by
    cases h with
    | nil => exact ⟨0, h0, Int.le_refl _⟩
    | cons _ _ => omega⟩
  | n + 1 => by
    obtain ⟨i1, i2⟩ := farF_all h0 hs n
    obtain ⟨j1, j2, j3⟩ := turnF_all rows (a := a) (f0 := farF rows n f) rows (farF rows n f) (fun _ _ h => h) (fun _ h => h)
    refine ⟨j1 i1, fun x w k hk h => ?_⟩
    by_cases q : k ≤ n
    · exact j2 _ _ (i2 x w k q h)
    · obtain rfl : k = n + 1 := by omega
      obtain ⟨b, v, u, h1, h2, rfl⟩ := h.snoc
      exact j3 _ h2 v (i2 b v n (Nat.le_refl _) h1)
/-! ### a walk without rings is short -/
/-- the nodes that a walk leaves -/
inductive Wn (rows : List (N × N × Int)) : N → N → Int → List N → Prop
  | nil (a : N) : Wn rows a a 0 []
  | cons {a b c : N} {w v : Int} {l : List N} : (a, b, w) ∈ rows → Wn rows b c v l → Wn rows a c (w + v) (a :: l)
theorem Wn.of {rows : List (N × N × Int)} {a b : N} {w : Int} {k : Nat} (h : Wk rows a b w k) : ∃ l, Wn rows a b w l ∧ l.length = k := by
  induction h with
  | nil a => exact ⟨[], .nil a, rfl⟩
  | cons e _ ih =>
    obtain ⟨l, h, hl⟩ := ih
    exact ⟨_, .cons e h, by rw [List.length_cons, hl]⟩
theorem Wn.to {rows : List (N × N × Int)} {a b : N} {w : Int} {l : List N} (h : Wn rows a b w l) : Wk rows a b w l.length := by
  induction h with
  | nil a => exact .nil a
  | cons e _ ih => exact .cons e ih
theorem Wn.pos {rows : List (N × N × Int)} (hp : ∀ r ∈ rows, 0 ≤ r.2.2) {a b : N} {w : Int} {l : List N} (h : Wn rows a b w l) : 0 ≤ w := by
  induction h with
  | nil a => exact Int.le_refl 0
  | cons e _ ih => have := hp _ e; simp only at this; omega
theorem Wn.tail {rows : List (N × N × Int)} (hp : ∀ r ∈ rows, 0 ≤ r.2.2) {a b x : N} {w : Int} {l : List N} (h : Wn rows a b w l) (hx : x ∈ l) : ∃ v l', Wn rows x b v (x :: l') ∧ v ≤ w ∧ ∃ p, l = p ++ x :: l' := by
  induction h with
  | nil a => cases hx
  | cons e h ih =>
    rename_i a b c w v l
    by_cases q : x = a
    · subst q; exact ⟨_, l, .cons e h, Int.le_refl _, [], rfl⟩
    · have hx' : x ∈ l := by
        rcases List.mem_cons.mp hx with h | h
        · exact absurd h q
        · exact h
      obtain ⟨v', l', h', lv, p, rfl⟩ := ih hx'
      have := hp _ e
      simp only at this
      exact ⟨v', l', h', by omega, a :: p, rfl⟩
theorem Wn.plain {rows : List (N × N × Int)} (hp : ∀ r ∈ rows, 0 ≤ r.2.2) {a b : N} {w : Int} {l : List N} (h : Wn rows a b w l) : ∃ v l', Wn rows a b v l' ∧ v ≤ w ∧ l'.Nodup ∧ ∀ x ∈ l', x ∈ l := by
  induction h with
  | nil a => exact ⟨0, [], .nil a, Int.le_refl _, List.nodup_nil, fun _ h => h⟩
  | cons e h ih =>
    rename_i a b c w v l
    obtain ⟨v', l', h', lv, nd, sub⟩ := ih
    by_cases q : a ∈ l'
    · obtain ⟨v2, l2, h2, lv2, p, rfl⟩ := h'.tail hp q
      have := hp _ e
      simp only at this
      rw [List.nodup_append] at nd
      exact ⟨v2, a :: l2, h2, by omega, nd.2.1, fun x hx => List.mem_cons_of_mem _ (sub x (List.mem_append_right _ hx))⟩
    · exact ⟨w + v', a :: l', .cons e h', by omega, List.nodup_cons.mpr ⟨q, nd⟩, fun x hx => by
        rcases List.mem_cons.mp hx with rfl | hx
        · exact List.mem_cons_self
        · exact List.mem_cons_of_mem _ (sub x hx)⟩
theorem Wn.src {rows : List (N × N × Int)} {a b : N} {w : Int} {l : List N} (h : Wn rows a b w l) : ∀ x ∈ l, ∃ r ∈ rows, r.1 = x := by
  induction h with
  | nil a => exact fun x h => nomatch h
  | cons e _ ih =>
    intro x hx
    rcases List.mem_cons.mp hx with rfl | hx
    · exact ⟨_, e, rfl⟩
    · exact ih x hx
theorem nodup_len : ∀ {l m : List N}, l.Nodup → (∀ x ∈ l, x ∈ m) → l.length ≤ m.length
  | [], m, _, _ => Nat.zero_le _
  | a :: l, m, nd, h => by
    obtain ⟨n1, n2⟩ := List.nodup_cons.mp nd
    have ha := h a List.mem_cons_self
    have := nodup_len (l := l) (m := m.erase a) n2 fun x hx => by
      have hne : x ≠ a := fun q => n1 (q ▸ hx)
      exact (List.mem_erase_of_ne hne).mpr (h x (List.mem_cons_of_mem _ hx))
    rw [List.length_erase_of_mem ha] at this
    have : 0 < m.length := List.length_pos_of_mem ha
    rw [List.length_cons]
    omega
theorem farF_isD {rows : List (N × N × Int)} {nodes : List N} {a : N} {f : N → Option Int} {n : Nat} (hp : ∀ r ∈ rows, 0 ≤ r.2.2) (hn : ∀ r ∈ rows, r.1 ∈ nodes) (hl : nodes.length ≤ n) (h0 : f a = some 0) (hs : SndF rows a f) (b : N) : IsD rows a b (farF rows n f b) := by
  obtain ⟨i1, i2⟩ := farF_all h0 hs n
  refine ⟨fun v e => i1 b v e, fun w k h => ?_⟩
  obtain ⟨l, hh, rfl⟩ := Wn.of h
  obtain ⟨v, l', h', lv, nd, _⟩ := hh.plain hp
  have : l'.length ≤ nodes.length := nodup_len nd fun x hx => by
    obtain ⟨r, hr, rfl⟩ := h'.src x hx
    exact hn r hr
  exact (i2 b v _ (by omega) h'.to).mono lv
end
end C2

namespace C2
section
variable {N : Type} [DecidableEq N] {Y : Type}
/-- how a pair got its lead: from a row, or from two leads that are older -/
def Got (rows : List ((N × N × Int) × Y)) (ym : N → Y) (nodes : List N) (s : LS N Y) (rk : N → N → Nat) (a b : N) (v : Int) : Prop :=
  (∃ y, s.S a b = some y ∧ ((a, b, v), y) ∈ rows) ∨
  ∃ m u w, m ∈ nodes ∧ s.S a b = some (ym m) ∧ v = u + w ∧ leO (s.L a m) u ∧ leO (s.L m b) w ∧ (s.L a m = some u → rk a m < rk a b) ∧ (s.L m b = some w → rk m b < rk a b)
structure Hst (rows : List ((N × N × Int) × Y)) (ym : N → Y) (nodes : List N) (s : LS N Y) (rk : N → N → Nat) (p : Nat) : Prop where
  snd : Snd (rows.map (·.1)) s
  le : ∀ x y, rk x y ≤ p
  got : ∀ a b v, a ≠ b → s.L a b = some v → Got rows ym nodes s rk a b v
variable {rows : List ((N × N × Int) × Y)} {ym : N → Y} {nodes : List N}
def rkAt (rk : N → N → Nat) (a b : N) (p : Nat) : N → N → Nat := fun x z => if x = a ∧ z = b then p else rk x z
theorem rkAt_same {rk : N → N → Nat} {a b : N} {p : Nat} : rkAt rk a b p a b = p := by unfold rkAt; simp
theorem rkAt_ne {rk : N → N → Nat} {a b x z : N} {p : Nat} (h : ¬ (x = a ∧ z = b)) : rkAt rk a b p x z = rk x z := by unfold rkAt; rw [if_neg h]
theorem Hst.step {s : LS N Y} {rk : N → N → Nat} {p : Nat} {m : N} (hp : ∀ r ∈ rows, 0 ≤ r.1.2.2) (hm : m ∈ nodes) (h : Hst rows ym nodes s rk p) (hr : ∀ x, rk x m < p ∧ rk m x < p) (a b : N) :
    ∃ rk', Hst rows ym nodes (fwS ym m s a b) rk' p ∧ ∀ x, rk' x m < p ∧ rk' m x < p := by
  have hpos : ∀ r ∈ rows.map (·.1), 0 ≤ r.2.2 := fun r hr => by
    obtain ⟨q, hq, rfl⟩ := List.mem_map.mp hr
    exact hp q hq
  have sn := fwS_snd (ym := ym) (m := m) (a := a) (b := b) h.snd
  have mn := fwS_mn ym m s a b
  unfold fwS at sn mn ⊢
  split at sn
  case h_2 o1 o2 no => exact ⟨rk, h, hr⟩
  case h_1 u v e1 e2 =>
    simp only [e1, e2] at mn ⊢
    unfold rlx at sn mn ⊢
    by_cases q : bet (s.L a b) (u + v) = true
    case neg => rw [if_neg q]; exact ⟨rk, h, hr⟩
    case pos =>
      rw [if_pos q] at sn mn ⊢
      have am : a ≠ m := by
        rintro rfl
        obtain ⟨k, w⟩ := h.snd _ _ _ e1
        have := w.pos hpos
        rw [e2] at q
        have := of_decide_eq_true q
        omega
      have bm : b ≠ m := by
        rintro rfl
        obtain ⟨k, w⟩ := h.snd _ _ _ e2
        have := w.pos hpos
        rw [e1] at q
        have := of_decide_eq_true q
        omega
      refine ⟨rkAt rk a b p, ⟨sn, fun x y => ?_, fun x y t xy ht => ?_⟩, fun x => ⟨?_, ?_⟩⟩
      · unfold rkAt; split
        · exact Nat.le_refl p
        · exact h.le x y
      · by_cases xe : x = a ∧ y = b
        · obtain ⟨rfl, rfl⟩ := xe
          simp only [and_self, if_true, Option.some.injEq] at ht
          subst ht
          refine .inr ⟨m, u, v, hm, by simp, rfl, ?_, ?_, fun _ => ?_, fun _ => ?_⟩
          · exact ⟨u, (if_neg (fun z => bm z.2.symm)).trans e1, Int.le_refl _⟩
          · exact ⟨v, (if_neg (fun z => am z.1.symm)).trans e2, Int.le_refl _⟩
          · rw [rkAt_same, rkAt_ne (fun z => bm z.2.symm)]; exact (hr x).1
          · rw [rkAt_same, rkAt_ne (fun z => am z.1.symm)]; exact (hr y).2
        · simp only [xe, if_false] at ht
          rcases h.got x y t xy ht with ⟨c, c1, c2⟩ | ⟨m', u', w', i0, i1, i2, i3, i4, i5, i6⟩
          · exact .inl ⟨c, by simp only [xe, if_false]; exact c1, c2⟩
          · have no : ∀ {z : Int}, leO (s.L a b) z → ¬ (some (u + v) = some z) := fun {z} l e => by
              obtain ⟨z0, e0, l0⟩ := l
              rw [e0] at q
              have := of_decide_eq_true q
              cases e
              omega
            refine .inr ⟨m', u', w', i0, by simp only [xe, if_false]; exact i1, i2, mn _ _ _ i3, mn _ _ _ i4, fun e => ?_, fun e => ?_⟩
            · rw [rkAt_ne xe]
              by_cases q2 : x = a ∧ m' = b
              · obtain ⟨rfl, rfl⟩ := q2
                simp only [and_self, if_true] at e
                exact absurd e (no i3)
              · simp only [q2, if_false] at e
                rw [rkAt_ne q2]; exact i5 e
            · rw [rkAt_ne xe]
              by_cases q2 : m' = a ∧ y = b
              · obtain ⟨rfl, rfl⟩ := q2
                simp only [and_self, if_true] at e
                exact absurd e (no i4)
              · simp only [q2, if_false] at e
                rw [rkAt_ne q2]; exact i6 e
      · rw [rkAt_ne (fun z => bm z.2.symm)]; exact (hr x).1
      · rw [rkAt_ne (fun z => am z.1.symm)]; exact (hr x).2
def Ph (rows : List ((N × N × Int) × Y)) (ym : N → Y) (nodes : List N) (m : N) (p : Nat) (s : LS N Y) : Prop := ∃ rk, Hst rows ym nodes s rk p ∧ ∀ x, rk x m < p ∧ rk m x < p
theorem Ph.fwB (hp : ∀ r ∈ rows, 0 ≤ r.1.2.2) {m a : N} (hm : m ∈ nodes) {p : Nat} : ∀ (bs : List N) {s : LS N Y}, Ph rows ym nodes m p s → Ph rows ym nodes m p (fwB ym m a bs s)
  | [], s, h => h
  | b :: r, s, ⟨rk, h, hr⟩ => Ph.fwB hp hm r (h.step hp hm hr a b)
theorem Ph.fwA (hp : ∀ r ∈ rows, 0 ≤ r.1.2.2) {m : N} (hm : m ∈ nodes) {p : Nat} : ∀ (as : List N) {s : LS N Y}, Ph rows ym nodes m p s → Ph rows ym nodes m p (fwA ym m nodes as s)
  | [], s, h => h
  | a :: r, s, h => Ph.fwA hp hm r (Ph.fwB hp hm nodes h)
theorem Hst.fwM (hp : ∀ r ∈ rows, 0 ≤ r.1.2.2) : ∀ (ms : List N) {s : LS N Y} {p : Nat} {rk : N → N → Nat}, (∀ m ∈ ms, m ∈ nodes) → Hst rows ym nodes s rk p → ∃ rk', Hst rows ym nodes (fwM ym nodes ms s) rk' (p + ms.length)
  | [], s, p, rk, _, h => ⟨rk, h⟩
  | m :: r, s, p, rk, hm, h => by
    obtain ⟨rk1, h1, _⟩ := Ph.fwA (rows := rows) (ym := ym) (nodes := nodes) (m := m) (p := p + 1) hp (hm m List.mem_cons_self) nodes ⟨rk, ⟨h.snd, fun x y => Nat.le_succ_of_le (h.le x y), h.got⟩, fun x => ⟨Nat.lt_succ_of_le (h.le x m), Nat.lt_succ_of_le (h.le m x)⟩⟩
    obtain ⟨rk2, h2⟩ := Hst.fwM hp r (fun x hx => hm x (List.mem_cons_of_mem _ hx)) h1
    refine ⟨rk2, ?_⟩
    rw [List.length_cons, show p + (r.length + 1) = p + 1 + r.length by omega]
    exact h2
theorem Hst.relaxed (all : List ((N × N × Int) × Y)) : ∀ (rs : List ((N × N × Int) × Y)) {s : LS N Y}, (∀ r ∈ rs, r ∈ all) → Hst all ym nodes s (fun _ _ => 0) 0 → Hst all ym nodes (rlxR rs s) (fun _ _ => 0) 0
  | [], s, _, h => h
  | r :: t, s, hs, h => by
    refine Hst.relaxed all t (fun x hx => hs x (List.mem_cons_of_mem _ hx)) ?_
    show Hst all ym nodes (rlx s r.1.1 r.1.2.1 r.1.2.2 r.2) (fun _ _ => 0) 0
    have hr := hs r List.mem_cons_self
    refine ⟨rlx_snd h.snd (Wk.one (List.mem_map.mpr ⟨r, hr, rfl⟩)), fun _ _ => Nat.le_refl _, fun a b v ab e => ?_⟩
    have mn := rlx_mn s r.1.1 r.1.2.1 r.1.2.2 r.2
    unfold rlx at e mn ⊢
    by_cases q : bet (s.L r.1.1 r.1.2.1) r.1.2.2 = true
    · rw [if_pos q] at e mn ⊢
      by_cases xe : a = r.1.1 ∧ b = r.1.2.1
      · simp only [xe, and_self, if_true, Option.some.injEq] at e
        refine .inl ⟨r.2, by simp [xe], ?_⟩
        obtain ⟨rfl, rfl⟩ := xe
        subst e
        exact hr
      · simp only [xe, if_false] at e
        rcases h.got a b v ab e with ⟨c, c1, c2⟩ | ⟨m', u', w', i0, i1, i2, i3, i4, i5, i6⟩
        · exact .inl ⟨c, by simp only [xe, if_false]; exact c1, c2⟩
        · obtain ⟨z, ez, lz⟩ := i3
          by_cases zz : z = u'
          · subst zz; exact absurd (i5 ez) (Nat.lt_irrefl _)
          · obtain ⟨z2, ez2, lz2⟩ := i4
            by_cases zz2 : z2 = w'
            · subst zz2; exact absurd (i6 ez2) (Nat.lt_irrefl _)
            · refine .inr ⟨m', u', w', i0, by simp only [xe, if_false]; exact i1, i2, mn _ _ _ ⟨z, ez, lz⟩, mn _ _ _ ⟨z2, ez2, lz2⟩, fun e => ?_, fun e => ?_⟩
              · exfalso
                have := mn _ _ _ ⟨z, ez, Int.le_refl z⟩
                obtain ⟨t1, t2, t3⟩ := this
                rw [t2] at e; cases e; omega
              · exfalso
                have := mn _ _ _ ⟨z2, ez2, Int.le_refl z2⟩
                obtain ⟨t1, t2, t3⟩ := this
                rw [t2] at e; cases e; omega
    · rw [if_neg q] at e ⊢
      exact h.got a b v ab e
/-- the rows of a lead, as the steps tell them; n: how deep -/
inductive Chn (rows : List ((N × N × Int) × Y)) (ym : N → Y) (nodes : List N) (S : N → N → Option Y) : Nat → N → N → Int → List ((N × N × Int) × Y) → Prop
  | same (n : Nat) (a : N) : Chn rows ym nodes S (n + 1) a a 0 []
  | row {n : Nat} {a b : N} {v : Int} {y : Y} : a ≠ b → S a b = some y → ((a, b, v), y) ∈ rows → Chn rows ym nodes S (n + 1) a b v [((a, b, v), y)]
  | mid {n : Nat} {a b m : N} {u w : Int} {l1 l2 : List ((N × N × Int) × Y)} : a ≠ b → m ∈ nodes → S a b = some (ym m) → Chn rows ym nodes S n a m u l1 → Chn rows ym nodes S n m b w l2 → Chn rows ym nodes S (n + 1) a b (u + w) (l1 ++ l2)
theorem Chn.mono {S : N → N → Option Y} {n : Nat} {a b : N} {v : Int} {l : List ((N × N × Int) × Y)} (h : Chn rows ym nodes S n a b v l) : ∀ {k : Nat}, n ≤ k → Chn rows ym nodes S k a b v l := by
  induction h with
  | same n a => intro k hk; obtain ⟨j, rfl⟩ : ∃ j, k = j + 1 := ⟨k - 1, by omega⟩; exact .same j a
  | row h1 h2 h3 => intro k hk; obtain ⟨j, rfl⟩ : ∃ j, k = j + 1 := ⟨k - 1, by omega⟩; exact .row h1 h2 h3
  | mid h1 h0 h2 _ _ i1 i2 => intro k hk; obtain ⟨j, rfl⟩ : ∃ j, k = j + 1 := ⟨k - 1, by omega⟩; exact .mid h1 h0 h2 (i1 (by omega)) (i2 (by omega))
theorem fw_chn (hp : ∀ r ∈ rows, 0 ≤ r.1.2.2) (hn : ∀ r ∈ rows, r.1.1 ∈ nodes ∧ r.1.2.1 ∈ nodes) {a b : N} {v : Int} (ha : a ∈ nodes) (hb : b ∈ nodes) (h : (fw ym nodes rows).L a b = some v) : ∃ l, Chn rows ym nodes (fw ym nodes rows).S (nodes.length + 1) a b v l := by
  have h0 : Hst rows ym nodes (row0 nodes : LS N Y) (fun _ _ => 0) 0 := by
    refine ⟨fun x y w e => ?_, fun _ _ => Nat.le_refl _, fun x y w xy e => ?_⟩
    · unfold row0 at e
      simp only at e
      split at e
      · rename_i q; obtain ⟨rfl, _⟩ := q; cases e; exact ⟨0, .nil _⟩
      · cases e
    · unfold row0 at e
      simp only [show ¬ (x = y ∧ x ∈ nodes) from fun z => xy z.1, if_false] at e
      cases e
  obtain ⟨rk, h1⟩ := Hst.fwM (ym := ym) hp nodes (fun _ h => h) (Hst.relaxed (ym := ym) rows rows (fun _ h => h) h0)
  have hw : fwM ym nodes nodes (rlxR rows (row0 nodes)) = fw ym nodes rows := rfl
  rw [hw, Nat.zero_add] at h1
  have isD : ∀ {x y : N}, x ∈ nodes → y ∈ nodes → IsD (rows.map (·.1)) x y ((fw ym nodes rows).L x y) := fun hx hy => fw_isD hp hn hx hy
  have hpos : ∀ r ∈ rows.map (·.1), 0 ≤ r.2.2 := fun r hr => by
    obtain ⟨q, hq, rfl⟩ := List.mem_map.mp hr
    exact hp q hq
  have key : ∀ n (x y : N) (w : Int), x ∈ nodes → y ∈ nodes → rk x y ≤ n → (fw ym nodes rows).L x y = some w → ∃ l, Chn rows ym nodes (fw ym nodes rows).S (n + 1) x y w l := by
    intro n
    induction n with
    | zero =>
      intro x y w hx hy hk e
      by_cases xy : x = y
      · subst xy
        obtain ⟨z, ez, lz⟩ := (isD hx hx).least 0 0 (.nil x)
        rw [e] at ez; cases ez
        obtain ⟨k, ww⟩ := (isD hx hx).sound w e
        have := ww.pos hpos
        obtain rfl : w = 0 := by omega
        exact ⟨[], .same _ x⟩
      · rcases h1.got x y w xy e with ⟨c, c1, c2⟩ | ⟨m', u', w', i0, i1, rfl, i3, i4, i5, i6⟩
        · exact ⟨_, .row xy c1 c2⟩
        · exfalso
          obtain ⟨z1, e1, l1⟩ := i3
          obtain ⟨z2, e2, l2⟩ := i4
          obtain ⟨k1, w1⟩ := (isD hx i0).sound z1 e1
          obtain ⟨k2, w2⟩ := (isD i0 hy).sound z2 e2
          obtain ⟨t, et, lt⟩ := (isD hx hy).least _ _ (w1.app w2)
          rw [e] at et; cases et
          obtain rfl : z1 = u' := by omega
          have := i5 e1
          omega
    | succ n ih =>
      intro x y w hx hy hk e
      by_cases xy : x = y
      · subst xy
        obtain ⟨z, ez, lz⟩ := (isD hx hx).least 0 0 (.nil x)
        rw [e] at ez; cases ez
        obtain ⟨k, ww⟩ := (isD hx hx).sound w e
        have := ww.pos hpos
        obtain rfl : w = 0 := by omega
        exact ⟨[], .same _ x⟩
      · rcases h1.got x y w xy e with ⟨c, c1, c2⟩ | ⟨m', u', w', i0, i1, rfl, i3, i4, i5, i6⟩
        · exact ⟨_, .row xy c1 c2⟩
        · obtain ⟨z1, e1, l1⟩ := i3
          obtain ⟨z2, e2, l2⟩ := i4
          obtain ⟨k1, w1⟩ := (isD hx i0).sound z1 e1
          obtain ⟨k2, w2⟩ := (isD i0 hy).sound z2 e2
          obtain ⟨t, et, lt⟩ := (isD hx hy).least _ _ (w1.app w2)
          rw [e] at et; cases et
          obtain rfl : z1 = u' := by omega
          obtain rfl : z2 = w' := by omega
          have r1 := i5 e1
          have r2 := i6 e2
          obtain ⟨l1, c1⟩ := ih x m' _ hx i0 (by omega) e1
          obtain ⟨l2, c2⟩ := ih m' y _ i0 hy (by omega) e2
          exact ⟨_, .mid xy i0 i1 c1 c2⟩
  exact key nodes.length a b v ha hb (h1.le a b) h
end
end C2

namespace C1
open PySem PySem.Spec L2 L3
local macro_rules | `(tactic| walk_at "l3") => `(tactic| simp only [sSeq, sNext, sIf, sRet, sRetN, sSet, sDrop, sSub, sFor, sAsg, sPar2, sPar3, sCont, sFld3, sFld2, sAug, vVar, vC, vNil, vCons, vOp, vB, vChain, vAnd, vOr, vNot, vAndV, vOrV, vNotV, vIf, vUn, vCB, vLst, vTup, vLstT, vCall, vCal, vMak, vMetA, vFld, vSl, vPart, vNoP, vLc, vLcT, vDc, vBM, vBM0, vGet1, vGet2, vItems, vRev, vLRg, vStar, iRg1, iRg2, iRgD, iAny, iEnm, iItm, iVal, vDict0, vDict0T, vDict0N, vDisp, vDispT, vPairs,
  List.getElem?_cons_zero, List.getElem?_cons_succ, List.set_cons_zero, List.set_cons_succ, wipe3, endsOf_rt, endsOf_nx, gLt, gLe, gGt, gGe, L3.gSub, gMul, gMod, gDiv, gPow, g2I, g2I0, gN, gT, gGo, Option.bind_some, gAdd_ii, gAdd_ss, gNeg_i, gMax2_ii, gMin2_ii, gLen_s, gEqS_ii, gEqS_ss, gEqS_bb, gNeS_ii, gNeS_ss, gIsN_n, gNotN_n, gSl_s, isNonD, if_true, if_false, Bool.false_eq_true, Bool.not_true, Bool.not_false])
/-! ### the program's words -/
def intD : D → Bool
  | .int _ => true
  | _ => false
def cntD : D → Bool
  | .int i => decide (0 ≤ i)
  | _ => false
def letters : Str := "abcdefghijklmnopqrstuvwxyz"
def nameT (z : Str) : Bool := decide (1 ≤ z.length ∧ z.length ≤ 8) && z.cps.toList.all fun c => decide (c ∈ letters.cps.toList)
def nameD : D → Bool
  | .str z => nameT z
  | _ => false
theorem isi_int {μ : Mu} {x : D} {n : String} (h : tyD μ x = some n) : ∃ b, kitB n "int" = some b ∧ ((∃ i, x = .int i) ∧ b = true ∨ (∃ i, x = .bl i) ∧ b = true ∨ intD x = false ∧ b = false) := by
  cases x with
  | non => cases h; exact ⟨_, kb_NoneType_int, .inr (.inr ⟨rfl, rfl⟩)⟩
  | bl i => cases h; exact ⟨_, kb_bool_int, .inr (.inl ⟨⟨i, rfl⟩, rfl⟩)⟩
  | int i => cases h; exact ⟨_, kb_int_int, .inl ⟨⟨i, rfl⟩, rfl⟩⟩
  | str i => cases h; exact ⟨_, kb_str_int, .inr (.inr ⟨rfl, rfl⟩)⟩
  | tup i => cases h; exact ⟨_, kb_tuple_int, .inr (.inr ⟨rfl, rfl⟩)⟩
  | lst i => cases h; exact ⟨_, kb_list_int, .inr (.inr ⟨rfl, rfl⟩)⟩
  | dct i => cases h; exact ⟨_, kb_dict_int, .inr (.inr ⟨rfl, rfl⟩)⟩
  | ref a =>
    have h' : (match μ a with
      | some (.lst _) => some "list"
      | some (.dct _) => some "dict"
      | _ => none) = some n := h
    split at h'
    · cases h'; exact ⟨_, kb_list_int, .inr (.inr ⟨rfl, rfl⟩)⟩
    · cases h'; exact ⟨_, kb_dict_int, .inr (.inr ⟨rfl, rfl⟩)⟩
    · cases h'
  | _ => cases h
def sp_is_integer : Sp3 := fun ds μ R => ∃ x n, ds = [x] ∧ tyD μ x = some n ∧ R (.bl (intD x)) μ
def t_is_integer : TS3 := (sRet (vAndV (vCB gIsi (vCons (vVar 0) (vCons (vC (.ty "int")) vNil))) (vNotV (vCB gIsi (vCons (vVar 0) (vCons (vC (.ty "bool")) vNil))))))
theorem pure_is_integer (ds : List D) (μ : Mu) (R : DK) (hl : ds.length = 1) (h : sp_is_integer ds μ R) : t_is_integer (endsOf R) (start3 ["value"] ds) μ := by
  obtain ⟨x, n, rfl, ht, h⟩ := h
  show t_is_integer (endsOf R) [some x] μ
  unfold t_is_integer
  walk_at "l3"
  obtain ⟨b, hb, hc⟩ := isi_int ht
  refine ⟨n, b, ht, hb, ?_⟩
  rcases hc with ⟨⟨i, rfl⟩, rfl⟩ | ⟨⟨i, rfl⟩, rfl⟩ | ⟨hi, rfl⟩
  · cases ht
    exact ⟨_, _, rfl, kb_int_bool, fin_now h⟩
  · cases ht
    exact ⟨_, _, rfl, kb_bool_bool, fin_now h⟩
  · rw [hi] at h
    exact fin_now h
def sp_is_count : Sp3 := fun ds μ R => ∃ x n, ds = [x] ∧ tyD μ x = some n ∧ R (.bl (cntD x)) μ
def t_is_count : TS3 := (sRet (vAndV (vCall 1 sp_is_integer (vCons (vVar 0) vNil)) (vOp gGe (vVar 0) (vC (.int 0)))))
theorem pure_is_count (ds : List D) (μ : Mu) (R : DK) (hl : ds.length = 1) (h : sp_is_count ds μ R) : t_is_count (endsOf R) (start3 ["value"] ds) μ := by
  obtain ⟨x, n, rfl, ht, h⟩ := h
  show t_is_count (endsOf R) [some x] μ
  unfold t_is_count
  walk_at "l3"
  refine ⟨rfl, x, n, rfl, ht, ?_⟩
  cases x with
  | int i => exact fin_now h
  | _ => exact fin_now h
theorem isi_str {μ : Mu} {x : D} {n : String} (h : tyD μ x = some n) : ∃ b, kitB n "str" = some b ∧ ((∃ i, x = .str i) ∧ b = true ∨ nameD x = false ∧ b = false) := by
  cases x with
  | non => cases h; exact ⟨_, kb_NoneType_str, .inr ⟨rfl, rfl⟩⟩
  | bl i => cases h; exact ⟨_, kb_bool_str, .inr ⟨rfl, rfl⟩⟩
  | int i => cases h; exact ⟨_, kb_int_str, .inr ⟨rfl, rfl⟩⟩
  | str i => cases h; exact ⟨_, kb_str_str, .inl ⟨⟨i, rfl⟩, rfl⟩⟩
  | tup i => cases h; exact ⟨_, kb_tuple_str, .inr ⟨rfl, rfl⟩⟩
  | lst i => cases h; exact ⟨_, kb_list_str, .inr ⟨rfl, rfl⟩⟩
  | dct i => cases h; exact ⟨_, kb_dict_str, .inr ⟨rfl, rfl⟩⟩
  | ref a =>
    have h' : (match μ a with
      | some (.lst _) => some "list"
      | some (.dct _) => some "dict"
      | _ => none) = some n := h
    split at h'
    · cases h'; exact ⟨_, kb_list_str, .inr ⟨rfl, rfl⟩⟩
    · cases h'; exact ⟨_, kb_dict_str, .inr ⟨rfl, rfl⟩⟩
    · cases h'
  | _ => cases h
def sp_is_name : Sp3 := fun ds μ R => ∃ x n, ds = [x] ∧ tyD μ x = some n ∧ (∀ z, x = .str z → z.length ≤ 1000) ∧ R (.bl (nameD x)) μ
def t_is_name_1 : TS3 := (sRet (vCB gAll (vCons (vLc (iAny (vVar 0)) (gN 1) vYes (vOp (gIn false) (vVar 1) (vC (.str "abcdefghijklmnopqrstuvwxyz"))) [1]) vNil)))
def t_is_name : TS3 := sSeq (sIf (vOr (vNot (vB (vCB gIsi (vCons (vVar 0) (vCons (vC (.ty "str")) vNil))))) (vNot (vB (vChain gLe gLe (vC (.int 1)) (vCB gLen (vCons (vVar 0) vNil)) (vC (.int 8)))))) (sRet (vC (.bl false))) sNext) t_is_name_1
theorem pure_is_name (ds : List D) (μ : Mu) (R : DK) (hl : ds.length = 1) (h : sp_is_name ds μ R) : t_is_name (endsOf R) (start3 ["value", "sign"] ds) μ := by
  obtain ⟨x, n, rfl, ht, hz, h⟩ := h
  show t_is_name (endsOf R) [some x, none] μ
  unfold t_is_name t_is_name_1
  walk_at "l3"
  obtain ⟨b, hb, hc⟩ := isi_str ht
  refine ⟨n, b, ht, hb, ?_⟩
  rcases hc with ⟨⟨z, rfl⟩, rfl⟩ | ⟨hi, rfl⟩
  · have hz' := hz z rfl
    have hs : z.length ≤ sizeLine := Nat.le_trans hz' (by decide)
    refine ⟨hs, ?_⟩
    walk_at "l3"
    by_cases h1 : (1 : Int) ≤ z.length
    · by_cases h2 : (z.length : Int) ≤ 8
      · simp only [h1, h2, decide_true, if_true, Bool.not_true, Bool.false_eq_true, if_false]
        refine lc_mapOf _ (fun c => .bl (decide (c ∈ letters.cps.toList))) z.cps.toList [] (fun c hc R' hR => ?_) (by simpa [Str.length] using hs) ?_
        · exact in_s hR
        · refine ⟨_, z.cps.toList.map fun c => decide (c ∈ letters.cps.toList), rfl, ?_, fin_now ?_⟩
          · show some _ = some _
            simp
          · have e : nameD (.str z) = (z.cps.toList.map fun c => decide (c ∈ letters.cps.toList)).all id := by
              show nameT z = _
              unfold nameT
              rw [decide_eq_true (show 1 ≤ z.length ∧ z.length ≤ 8 by omega)]
              simp
            rw [← e]
            exact h
      · simp only [h1, h2, decide_true, decide_false, if_true, Bool.not_false]
        have e : nameD (.str z) = false := by
          show nameT z = _
          unfold nameT
          rw [decide_eq_false (show ¬ (1 ≤ z.length ∧ z.length ≤ 8) by omega)]
          rfl
        rw [e] at h
        exact fin_now h
    · simp only [h1, decide_false, Bool.false_eq_true, if_false, Bool.not_false, if_true]
      have e : nameD (.str z) = false := by
        show nameT z = _
        unfold nameT
        rw [decide_eq_false (show ¬ (1 ≤ z.length ∧ z.length ≤ 8) by omega)]
        rfl
      rw [e] at h
      exact fin_now h
  · rw [hi] at h
    exact fin_now h
/-! ### the law's draws -/
structure BoxOk (n : Nat) (c0 c1 c2 : Int) : Prop where
  h0 : 0 ≤ c0
  h1 : 0 ≤ c1
  h2 : c1 < 2147483629
  h3 : 0 ≤ c2
  h4 : c2 ≤ n
/-- at b: a box from which at most n draws were made by reckoning -/
def Box (μ : Mu) (b : Addr) (n : Nat) : Prop := ∃ c0 c1 c2, μ b = some (.lst [.int c0, .int c1, .int c2]) ∧ BoxOk n c0 c1 c2
def Onl (b : Addr) (μ μ' : Mu) : Prop := ∀ a, a ≠ b → μ' a = μ a
theorem Onl.refl (b : Addr) (μ : Mu) : Onl b μ μ := fun _ _ => rfl
theorem Onl.trans {b : Addr} {μ μ1 μ2 : Mu} (h : Onl b μ μ1) (k : Onl b μ1 μ2) : Onl b μ μ2 := fun a ha => (k a ha).trans (h a ha)
theorem Box.mono {μ : Mu} {b : Addr} {n m : Nat} (h : Box μ b n) (l : n ≤ m) : Box μ b m := by
  obtain ⟨c0, c1, c2, e, k⟩ := h
  exact ⟨c0, c1, c2, e, k.h0, k.h1, k.h2, k.h3, by have := k.h4; omega⟩
def sp__law_cell : Sp3 := fun ds μ R => ∃ (ns : List Int) (k : Nat), ds = [.scr (ns.map D.int), .int k] ∧ k ≤ 100 ∧ ∀ z, R (.int z) μ
def t__law_cell_1 : TS3 := (sRet (vOp gAdd (vOp gMul (vC (.int 7919)) (vVar 1)) (vC (.int 131))))
def t__law_cell : TS3 := sSeq (sIf (vB (vOp gLt (vVar 1) (vCB gLen (vCons (vVar 0) vNil)))) (sRet (vOp gAt (vVar 0) (vVar 1))) sNext) t__law_cell_1
theorem pure__law_cell (ds : List D) (μ : Mu) (R : DK) (hl : ds.length = 2) (h : sp__law_cell ds μ R) : t__law_cell (endsOf R) (start3 ["_law_script", "_law_k"] ds) μ := by
  obtain ⟨ns, k, rfl, hk, h⟩ := h
  show t__law_cell (endsOf R) [some (.scr (ns.map D.int)), some (.int k)] μ
  unfold t__law_cell t__law_cell_1
  walk_at "l3"
  refine ⟨_, rfl, ?_⟩
  walk_at "l3"
  by_cases hlt : (k : Int) < ((ns.map D.int).length : Nat)
  · simp only [hlt, decide_true, if_true]
    have hk2 : k < ns.length := by simpa using hlt
    refine at_q (xs := ns.map D.int) (d := .int ns[k]) rfl ?_ (fin_now (h _))
    unfold atI ixN
    rw [if_pos (by omega), if_pos hlt]
    simp [hk2]
  · simp only [hlt, decide_false, Bool.false_eq_true, if_false]
    refine ⟨?_, fin_now (h _)⟩
    exact wide_mul (a := 20) (b := 20) (by decide) (by omega) (by decide) (by decide) (by decide)
def sp__law_box : Sp3 := fun ds μ R => ∃ z, ds = [.int z] ∧ ∀ b μ', μ b = none → Onl b μ μ' → Box μ' b 0 → R (.ref b) μ'
def t__law_box : TS3 := (sRet (vLstT (vCons (vCB gMax2 (vCons (vC (.int 0)) (vCons (vOp gSub (vVar 0) (vOp gPow (vC (.int 10)) (vC (.int 18)))) vNil))) (vCons (vOp gMod (vVar 0) (vC (.int 2147483629))) (vCons (vC (.int 0)) vNil)))))
theorem pure__law_box (ds : List D) (μ : Mu) (R : DK) (hl : ds.length = 1) (h : sp__law_box ds μ R) : t__law_box (endsOf R) (start3 ["_law_cell_here"] ds) μ := by
  obtain ⟨z, rfl, h⟩ := h
  show t__law_box (endsOf R) [some (.int z)] μ
  unfold t__law_box
  walk_at "l3"
  refine ⟨⟨by decide, by decide, by decide⟩, ?_⟩
  refine ⟨by decide, (by show 3 ≤ sizeLine; decide), fun q hq => fin_now (h q _ hq (fun a ha => mset_ne ha) ⟨_, _, _, mset_same, ?_⟩)⟩
  exact ⟨by omega, by omega, by omega, by decide, by decide⟩
def sp__law_take : Sp3 := fun ds μ R => ∃ b m n, ds = [.ref b, .int m] ∧ Box μ b n ∧ n < 1099511627776 ∧ 0 < m ∧ m < 1606938044258990275541962092341162602522202993782792835301376 ∧ ∀ r μ', 0 ≤ r → r < m → Onl b μ μ' → Box μ' b (n + 1) → R (.int r) μ'
def t__law_take_4 : TS3 := (sRet (vOp gMod (vOp gDiv (vVar 3) (vC (.int 8))) (vVar 1)))
def t__law_take_3 : TS3 := sSeq (sSet 3 (vOp gMod (vOp gPow (vOp gAdd (vVar 3) (vOp gMul (vC (.int 104729)) (vOp gAt (vVar 0) (vC (.int 2))))) (vC (.int 3))) (vC (.int 2147483587)))) t__law_take_4
def t__law_take_2 : TS3 := sSeq (sSet 3 (vOp gMod (vOp gPow (vOp gAdd (vOp gAdd (vOp gAt (vVar 0) (vC (.int 1))) (vOp gMul (vC (.int 7919)) (vOp gAt (vVar 0) (vC (.int 2))))) (vC (.int 43))) (vC (.int 5))) (vC (.int 2147483647)))) t__law_take_3
def t__law_take_1 : TS3 := sSeq (sSub gSet (vOp gAdd (vOp gAt (vVar 0) (vC (.int 2))) (vC (.int 1))) (vVar 0) (vC (.int 2))) t__law_take_2
def t__law_take : TS3 := sSeq (sIf (vB (vOp gGt (vOp gAt (vVar 0) (vC (.int 0))) (vC (.int 0)))) (sSeq (sSet 2 (vOp gMod (vOp gAt (vVar 0) (vC (.int 0))) (vVar 1))) (sSeq (sSub gSet (vOp gDiv (vOp gAt (vVar 0) (vC (.int 0))) (vVar 1)) (vVar 0) (vC (.int 0))) (sRet (vVar 2)))) sNext) t__law_take_1
theorem pure__law_take (ds : List D) (μ : Mu) (R : DK) (hl : ds.length = 2) (h : sp__law_take ds μ R) : t__law_take (endsOf R) (start3 ["_law_box_here", "_law_many", "_law_digit", "_law_number"] ds) μ := by
  obtain ⟨b, m, n, rfl, ⟨c0, c1, c2, e, k⟩, hn, hm, hm2, h⟩ := h
  show t__law_take (endsOf R) [some (.ref b), some (.int m), none, none] μ
  unfold t__law_take t__law_take_1 t__law_take_2 t__law_take_3 t__law_take_4
  walk_at "l3"
  refine at_r e rfl ?_
  walk_at "l3"
  by_cases hp : 0 < c0
  · simp only [hp, decide_true, if_true]
    refine at_r e rfl ⟨hm, ?_⟩
    refine at_r e rfl ⟨⟨hm, ?_⟩, ?_⟩
    · have := PySem.Flt.log2_lt_of (n := m.natAbs) (k := 200) (by decide) (by omega)
      omega
    · refine set_l e rfl (fin_now ?_)
      refine h _ _ (Int.emod_nonneg _ (by omega)) (Int.emod_lt_of_pos _ hm) (fun a ha => mset_ne ha) ⟨_, _, _, mset_same, ?_⟩
      exact ⟨Int.ediv_nonneg k.h0 (by omega), k.h1, k.h2, k.h3, by have := k.h4; omega⟩
  · simp only [hp, decide_false, Bool.false_eq_true, if_false]
    have k4 := k.h4
    have k3 := k.h3
    have k2 := k.h2
    have k1 := k.h1
    refine at_r e rfl ?_
    rw [gAdd_ii]
    refine set_l (i := 2) (j := 2) (v := .int (c2 + 1)) e rfl ?_
    have e1 : (mset μ b (.lst ([.int c0, .int c1, .int c2].set 2 (.int (c2 + 1))))) b = some (.lst [.int c0, .int c1, .int (c2 + 1)]) := mset_same
    refine at_r e1 rfl (at_r e1 rfl ⟨?_, ?_⟩)
    · exact wide_mul (a := 20) (b := 64) (by decide) (by omega) (by decide) (by decide) (by decide)
    refine ⟨⟨by decide, by decide, by omega⟩, ?_⟩
    refine ⟨(by show (0 : Int) < 2147483647; decide), ?_⟩
    refine at_r e1 rfl ⟨?_, ?_⟩
    · exact wide_mul (a := 20) (b := 64) (by decide) (by omega) (by decide) (by decide) (by decide)
    generalize hx : ((c1 + 7919 * (c2 + 1) + 43) ^ (5 : Int).toNat) % 2147483647 = x1
    have hx0 : 0 ≤ x1 := by rw [← hx]; exact Int.emod_nonneg _ (by decide)
    have hx1 : x1 < 2147483647 := by rw [← hx]; exact Int.emod_lt_of_pos _ (by decide)
    refine ⟨⟨by decide, by decide, by omega⟩, ?_⟩
    refine ⟨(by show (0 : Int) < 2147483587; decide), ?_⟩
    refine ⟨⟨by decide, by decide⟩, hm, fin_now ?_⟩
    refine h _ _ (Int.emod_nonneg _ (by omega)) (Int.emod_lt_of_pos _ hm) (fun a ha => mset_ne ha) ⟨_, _, _, mset_same, ?_⟩
    exact ⟨k.h0, k.h1, k.h2, by omega, by omega⟩
theorem join1 (zs : List Str) (h : ∀ a ∈ zs, a.length = 1) : (Txt.join (Str.ofString "") zs).length = zs.length := PySem.W.KT.join_ones zs h
theorem sum1 (zs : List Str) (h : ∀ a ∈ zs, a.length = 1) : (zs.map (·.length)).sum = zs.length := by
  induction zs with
  | nil => rfl
  | cons a r ih => rw [List.map_cons, List.sum_cons, h a List.mem_cons_self, ih fun b hb => h b (List.mem_cons_of_mem _ hb), List.length_cons]; omega
/-- what stood there ahead stays, but for the box -/
def Keeps (b : Addr) (μ μ' : Mu) : Prop := ∀ a o, a ≠ b → μ a = some o → μ' a = some o
theorem Keeps.refl (b : Addr) (μ : Mu) : Keeps b μ μ := fun _ _ _ h => h
theorem Keeps.onl {b : Addr} {μ μ1 μ2 : Mu} (h : Keeps b μ μ1) (o : Onl b μ1 μ2) : Keeps b μ μ2 := fun a x ha e => by rw [o a ha]; exact h a x ha e
theorem Keeps.fresh {b : Addr} {μ μ1 : Mu} {n : Nat} {q : Addr} (h : Keeps b μ μ1) (bx : Box μ1 b n) (hq : μ1 q = none) : μ q = none ∧ q ≠ b := by
  have hb : q ≠ b := fun e => by obtain ⟨_, _, _, e2, _⟩ := bx; rw [e, e2] at hq; cases hq
  refine ⟨?_, hb⟩
  cases e : μ q with
  | none => rfl
  | some o => rw [h q o hb e] at hq; cases hq
theorem Keeps.put {b : Addr} {μ μ1 : Mu} {q : Addr} {o : MO} (h : Keeps b μ μ1) (hq : μ q = none) : Keeps b μ (mset μ1 q o) := fun a x ha e => by
  have : a ≠ q := fun e' => by rw [e', hq] at e; cases e
  rw [mset_ne this]; exact h a x ha e
theorem Box.put {b : Addr} {μ : Mu} {n : Nat} {q : Addr} {o : MO} (h : Box μ b n) (hq : q ≠ b) : Box (mset μ q o) b n := by
  obtain ⟨c0, c1, c2, e, k⟩ := h
  exact ⟨c0, c1, c2, by rw [mset_ne (Ne.symm hq)]; exact e, k⟩
/-- a def ends: what it made is forgotten -/
theorem fin_box {b : Addr} {n : Nat} {μ μ' : Mu} {R : DK} {d : D} (s : Keeps b μ μ') (bx : Box μ' b n) (h : ∀ μ2, Onl b μ μ2 → Box μ2 b n → R d μ2) : fin R d μ' := by
  refine fin_same (μ' := fun a => if a = b then μ' b else μ a) (fun a o e => ?_) (h _ (fun a ha => if_neg ha) ?_)
  · by_cases ha : a = b
    · subst ha; simpa using e
    · exact s a o ha (by simpa [ha] using e)
  · obtain ⟨c0, c1, c2, e, k⟩ := bx
    exact ⟨c0, c1, c2, by simp only [if_true]; exact e, k⟩

end C1

namespace C1
open PySem PySem.Spec L2 L3
local macro_rules | `(tactic| walk_at "l3") => `(tactic| simp only [sSeq, sNext, sIf, sRet, sRetN, sSet, sDrop, sSub, sFor, sAsg, sPar2, sPar3, sCont, sFld3, sFld2, sAug, vVar, vC, vNil, vCons, vOp, vB, vChain, vAnd, vOr, vNot, vAndV, vOrV, vNotV, vIf, vUn, vCB, vLst, vTup, vLstT, vCall, vCal, vMak, vMetA, vFld, vSl, vPart, vNoP, vLc, vLcT, vDc, vBM, vBM0, vGet1, vGet2, vItems, vRev, vLRg, vStar, iRg1, iRg2, iRgD, iAny, iEnm, iItm, iVal, vDict0, vDict0T, vDict0N, vDisp, vDispT, vPairs,
  List.getElem?_cons_zero, List.getElem?_cons_succ, List.set_cons_zero, List.set_cons_succ, wipe3, endsOf_rt, endsOf_nx, gLt, gLe, gGt, gGe, L3.gSub, gMul, gMod, gDiv, gPow, g2I, g2I0, gN, gT, gGo, Option.bind_some, gAdd_ii, gAdd_ss, gNeg_i, gMax2_ii, gMin2_ii, gLen_s, gEqS_ii, gEqS_ss, gEqS_bb, gNeS_ii, gNeS_ss, gIsN_n, gNotN_n, gSl_s, isNonD, if_true, if_false, Bool.false_eq_true, Bool.not_true, Bool.not_false])
/-! ### plans -/
abbrev Tie := Str × Str × Int
abbrev Lims := List (Str × Int)
def tieD (t : Tie) : D := .tup [.str t.1, .str t.2.1, .int t.2.2]
def limK (l : Lims) : List (Key × D) := l.map fun p => (.inr p.1, .int p.2)
structure EvOk (evs : List Str) : Prop where
  pos : 1 ≤ evs.length
  le : evs.length ≤ 8
  nd : evs.Nodup
  nm : ∀ e ∈ evs, nameT e = true
structure TiOk (evs : List Str) (ties : List Tie) : Prop where
  le : ties.length ≤ 60
  a : ∀ t ∈ ties, t.1 ∈ evs
  b : ∀ t ∈ ties, t.2.1 ∈ evs
  c : ∀ t ∈ ties, 0 ≤ t.2.2
structure LiOk (evs : List Str) (lims : Lims) : Prop where
  nd : (lims.map (·.1)).Nodup
  a : ∀ p ∈ lims, p.1 ∈ evs
  c : ∀ p ∈ lims, 0 ≤ p.2
theorem nameT_len {z : Str} (h : nameT z = true) : z.length ≤ 8 := by
  unfold nameT at h
  rw [Bool.and_eq_true] at h
  have := of_decide_eq_true h.1
  exact this.2
theorem size8 : (8 : Nat) ≤ sizeLine := by decide
theorem size60 : (60 : Nat) ≤ sizeLine := by decide
def sp_is_list : Sp3 := fun ds μ R => ∃ x n b, ds = [x] ∧ tyD μ x = some n ∧ gIsT.kitsB n ["list", "tuple"] = some b ∧ R (.bl b) μ
def t_is_list : TS3 := (sRet (vCB gIsT (vCons (vVar 0) (vCons (vTup (vCons (vC (.ty "list")) (vCons (vC (.ty "tuple")) vNil))) vNil))))
theorem pure_is_list (ds : List D) (μ : Mu) (R : DK) (hl : ds.length = 1) (h : sp_is_list ds μ R) : t_is_list (endsOf R) (start3 ["value"] ds) μ := by
  obtain ⟨x, n, b, rfl, ht, hk, h⟩ := h
  show t_is_list (endsOf R) [some x] μ
  unfold t_is_list
  walk_at "l3"
  exact ⟨by decide, _, _, ["list", "tuple"], n, b, rfl, rfl, ht, hk, fin_now h⟩
def sp_need_events : Sp3 := fun ds μ R => ∃ x evs, ds = [x] ∧ lstOf μ x = some (sds evs) ∧ EvOk evs ∧ R .non μ
def t_need_events_1 : TS3 := (sFor (iEnm (vCons (vVar 0) vNil)) (gT [(gN 1), (gN 2)]) (sSeq (sIf (vNot (vB (vCall 1 sp_is_name (vCons (vVar 2) vNil)))) sNever sNext) (sIf (vB (vOp (gIn false) (vVar 2) (vSl (vVar 0) vNoP (vPart (vVar 1))))) sNever sNext)))
def t_need_events : TS3 := sSeq (sIf (vOr (vNot (vB (vCall 1 sp_is_list (vCons (vVar 0) vNil)))) (vNot (vB (vChain gLe gLe (vC (.int 1)) (vCB gLen (vCons (vVar 0) vNil)) (vC (.int 8)))))) sNever sNext) t_need_events_1
theorem pure_need_events (ds : List D) (μ : Mu) (R : DK) (hl : ds.length = 1) (h : sp_need_events ds μ R) : t_need_events (endsOf R) (start3 ["events", "at", "event"] ds) μ := by
  obtain ⟨x, evs, rfl, hx, ok, h⟩ := h
  show t_need_events (endsOf R) [some x, none, none] μ
  unfold t_need_events t_need_events_1
  walk_at "l3"
  have hlen : (sds evs).length = evs.length := by simp [sds]
  refine ⟨rfl, x, _, true, rfl, ty_lst hx, kl_list, ?_⟩
  walk_at "l3"
  refine len_lst hx ?_
  walk_at "l3"
  have p := ok.pos
  have l := ok.le
  rw [hlen]
  simp only [show (1 : Int) ≤ (evs.length : Nat) by omega, show ((evs.length : Nat) : Int) ≤ 8 by omega, decide_true, if_true, Bool.not_true, Bool.false_eq_true, if_false]
  refine enm_lst hx fun Pm hP => ?_
  refine for_ix _ (fun k δ μ' => μ' = μ ∧ ∃ y1 y2, δ = [some x, y1, y2]) ⟨rfl, none, none, rfl⟩ ?_ ?_
  · rintro δ μ' ⟨rfl, y1, y2, rfl⟩
    exact ⟨hP _ hx, fin_now h⟩
  · rintro k d δ μ' hd ⟨rfl, y1, y2, rfl⟩
    have hk : k < (sds evs).length := by
      have := (List.getElem?_eq_some_iff.mp hd).1
      rw [enum_len] at this
      exact this
    rw [enum_get (List.getElem?_eq_getElem hk)] at hd
    cases hd
    obtain ⟨s, es, e2⟩ := sds_get (List.getElem?_eq_getElem hk)
    rw [e2]
    have hm : s ∈ evs := List.mem_of_getElem? es
    refine ⟨hP _ hx, _, rfl, fun N hN => ?_⟩
    walk_at "l3"
    refine ⟨rfl, .str s, "str", rfl, rfl, (fun z e => by cases e; have := nameT_len (ok.nm s hm); omega), ?_⟩
    simp only [nameD, ok.nm s hm, Bool.not_true, Bool.false_eq_true, if_false]
    refine sl_lst hx (in_q rfl rfl ?_ ?_)
    · rw [cut_to (by rw [hlen] at hk; omega)]; exact sds_flat _
    · rw [cut_to (by rw [hlen] at hk; omega), in_sds]
      have : s ∉ evs.take k := fun q => by
        have hk' : k < evs.length := by rw [hlen] at hk; exact hk
        obtain ⟨i, hi, e⟩ := List.getElem_of_mem q
        rw [List.getElem_take] at e
        have hi2 : i < k := by simp at hi; omega
        have : evs[i]'(by omega) = evs[k]'hk' := by
          rw [e]
          have := (List.getElem?_eq_some_iff.mp es).2
          exact this.symm
        have := (List.getElem_inj ok.nd).mp this
        omega
      simp only [this, decide_false, Bool.false_eq_true, if_false]
      exact hN _ _ ⟨rfl, _, _, rfl⟩
def sp_need_event : Sp3 := fun ds μ R => ∃ x evs e, ds = [x, .str e] ∧ lstOf μ x = some (sds evs) ∧ EvOk evs ∧ e ∈ evs ∧ R .non μ
def t_need_event : TS3 := (sIf (vOr (vNot (vB (vCall 1 sp_is_name (vCons (vVar 1) vNil)))) (vB (vOp (gIn true) (vVar 1) (vVar 0)))) sNever sNext)
theorem pure_need_event (ds : List D) (μ : Mu) (R : DK) (hl : ds.length = 2) (h : sp_need_event ds μ R) : t_need_event (endsOf R) (start3 ["events", "name"] ds) μ := by
  obtain ⟨x, evs, e, rfl, hx, ok, he, h⟩ := h
  show t_need_event (endsOf R) [some x, some (.str e)] μ
  unfold t_need_event
  walk_at "l3"
  refine ⟨rfl, .str e, "str", rfl, rfl, (fun z q => by cases q; have := nameT_len (ok.nm e he); omega), ?_⟩
  simp only [nameD, ok.nm e he, Bool.not_true, Bool.false_eq_true, if_false]
  refine in_q (seq_lst hx) rfl (sds_flat _) ?_
  rw [in_sds]
  simp only [he, decide_true, Bool.not_true, if_true, Bool.false_eq_true, if_false]
  exact fin_now h
def sp_need_ties : Sp3 := fun ds μ R => ∃ x evs y ties, ds = [x, y] ∧ lstOf μ x = some (sds evs) ∧ EvOk evs ∧ lstOf μ y = some (ties.map tieD) ∧ TiOk evs ties ∧ R .non μ
def t_need_ties_1 : TS3 := (sFor (iAny (vVar 1)) (gN 2) (sSeq (sIf (vOr (vNot (vB (vCB gIsi (vCons (vVar 2) (vCons (vC (.ty "tuple")) vNil))))) (vB (vOp gNeS (vCB gLen (vCons (vVar 2) vNil)) (vC (.int 3))))) sNever sNext) (sSeq (sDrop (vCall 2 sp_need_event (vCons (vVar 0) (vCons (vOp gAt (vVar 2) (vC (.int 0))) vNil)))) (sSeq (sDrop (vCall 2 sp_need_event (vCons (vVar 0) (vCons (vOp gAt (vVar 2) (vC (.int 1))) vNil)))) (sIf (vNot (vB (vCall 1 sp_is_count (vCons (vOp gAt (vVar 2) (vC (.int 2))) vNil)))) sNever sNext)))))
def t_need_ties : TS3 := sSeq (sIf (vOr (vNot (vB (vCall 1 sp_is_list (vCons (vVar 1) vNil)))) (vB (vOp gGt (vCB gLen (vCons (vVar 1) vNil)) (vC (.int 60))))) sNever sNext) t_need_ties_1
theorem pure_need_ties (ds : List D) (μ : Mu) (R : DK) (hl : ds.length = 2) (h : sp_need_ties ds μ R) : t_need_ties (endsOf R) (start3 ["events", "ties", "tie"] ds) μ := by
  obtain ⟨x, evs, y, ties, rfl, hx, ok, hy, tk, h⟩ := h
  show t_need_ties (endsOf R) [some x, some y, none] μ
  unfold t_need_ties t_need_ties_1
  walk_at "l3"
  refine ⟨rfl, y, _, true, rfl, ty_lst hy, kl_list, ?_⟩
  walk_at "l3"
  refine len_lst hy ?_
  walk_at "l3"
  have l := tk.le
  simp only [List.length_map, show ¬ ((60 : Int) < (ties.length : Nat)) by omega, decide_false, Bool.false_eq_true, if_false]
  refine any_lst hy fun Pm hP => ?_
  refine for_same ties tieD (fun δ => ∃ z, δ = [some x, some y, z]) (hP _ hy) ⟨none, rfl⟩ ?_ ?_
  · rintro δ ⟨z, rfl⟩
    exact fin_now h
  · rintro t ht δ ⟨z, rfl⟩
    refine ⟨_, rfl, fun N hN => ?_⟩
    unfold tieD
    walk_at "l3"
    refine ⟨"tuple", true, rfl, kb_tuple_tuple, ?_⟩
    walk_at "l3"
    refine gLen_of rfl ?_
    have e3 : ((([.str t.1, .str t.2.1, .int t.2.2] : List D).length : Nat) : Int) = 3 := rfl
    simp only [gNeS_ii, e3, decide_true, Bool.not_true, Bool.false_eq_true, if_false]
    refine at_t (d := .str t.1) rfl ⟨rfl, x, evs, t.1, rfl, hx, ok, tk.a t ht, ?_⟩
    refine at_t (d := .str t.2.1) rfl ⟨rfl, x, evs, t.2.1, rfl, hx, ok, tk.b t ht, ?_⟩
    refine at_t (d := .int t.2.2) rfl ⟨rfl, _, _, rfl, rfl, ?_⟩
    simp only [cntD, tk.c t ht, decide_true, Bool.not_true, Bool.false_eq_true, if_false]
    exact hN _ ⟨_, rfl⟩
def sp_need_limits : Sp3 := fun ds μ R => ∃ x evs lims, ds = [x, .dct (limK lims)] ∧ lstOf μ x = some (sds evs) ∧ EvOk evs ∧ LiOk evs lims ∧ R .non μ
def t_need_limits_1 : TS3 := (sFor (iItm (vVar 1)) (gT [(gN 2), (gN 3)]) (sIf (vOr (vNot (vB (vCall 1 sp_is_name (vCons (vVar 2) vNil)))) (vOr (vB (vOp (gIn true) (vVar 2) (vVar 0))) (vNot (vB (vCall 1 sp_is_count (vCons (vVar 3) vNil)))))) sNever sNext))
def t_need_limits : TS3 := sSeq (sIf (vNot (vB (vCB gIsi (vCons (vVar 1) (vCons (vC (.ty "dict")) vNil))))) sNever sNext) t_need_limits_1
theorem pure_need_limits (ds : List D) (μ : Mu) (R : DK) (hl : ds.length = 2) (h : sp_need_limits ds μ R) : t_need_limits (endsOf R) (start3 ["events", "limits", "event", "limit"] ds) μ := by
  obtain ⟨x, evs, lims, rfl, hx, ok, lk, h⟩ := h
  show t_need_limits (endsOf R) [some x, some (.dct (limK lims)), none, none] μ
  unfold t_need_limits t_need_limits_1
  walk_at "l3"
  refine ⟨"dict", true, rfl, kb_dict_dict, ?_⟩
  walk_at "l3"
  refine ⟨_, rfl, ?_⟩
  have e1 : (limK lims).map pairD = lims.map fun p => .tup [.str p.1, .int p.2] := by
    unfold limK; rw [List.map_map]; rfl
  rw [e1]
  refine for_same lims _ (fun δ => ∃ z1 z2, δ = [some x, some (.dct (limK lims)), z1, z2]) trivial ⟨none, none, rfl⟩ ?_ ?_
  · rintro δ ⟨z1, z2, rfl⟩
    exact fin_now h
  · rintro p hp δ ⟨z1, z2, rfl⟩
    refine ⟨_, rfl, fun N hN => ?_⟩
    have hm := lk.a p hp
    walk_at "l3"
    refine ⟨rfl, .str p.1, "str", rfl, rfl, (fun z q => by cases q; have := nameT_len (ok.nm p.1 hm); omega), ?_⟩
    simp only [nameD, ok.nm p.1 hm, Bool.not_true, Bool.false_eq_true, if_false]
    refine in_q (seq_lst hx) rfl (sds_flat _) ?_
    rw [in_sds]
    simp only [hm, decide_true, Bool.not_true, if_true, Bool.false_eq_true, if_false]
    refine ⟨rfl, _, _, rfl, rfl, ?_⟩
    simp only [cntD, lk.c p hp, decide_true, Bool.not_true, Bool.false_eq_true, if_false]
    exact hN _ ⟨_, _, rfl⟩

end C1

namespace C1
open PySem PySem.Spec L2 L3
local macro_rules | `(tactic| walk_at "l3") => `(tactic| simp only [sSeq, sNext, sIf, sRet, sRetN, sSet, sDrop, sSub, sFor, sAsg, sPar2, sPar3, sCont, sFld3, sFld2, sAug, vVar, vC, vNil, vCons, vOp, vB, vChain, vAnd, vOr, vNot, vAndV, vOrV, vNotV, vIf, vUn, vCB, vLst, vTup, vLstT, vCall, vCal, vMak, vMetA, vFld, vSl, vPart, vNoP, vLc, vLcT, vDc, vBM, vBM0, vGet1, vGet2, vItems, vRev, vLRg, vStar, iRg1, iRg2, iRgD, iAny, iEnm, iItm, iVal, vDict0, vDict0T, vDict0N, vDisp, vDispT, vPairs,
  List.getElem?_cons_zero, List.getElem?_cons_succ, List.set_cons_zero, List.set_cons_succ, wipe3, endsOf_rt, endsOf_nx, gLt, gLe, gGt, gGe, L3.gSub, gMul, gMod, gDiv, gPow, g2I, g2I0, gN, gT, gGo, Option.bind_some, gAdd_ii, gAdd_ss, gNeg_i, gMax2_ii, gMin2_ii, gLen_s, gEqS_ii, gEqS_ss, gEqS_bb, gNeS_ii, gNeS_ss, gIsN_n, gNotN_n, gSl_s, isNonD, if_true, if_false, Bool.false_eq_true, Bool.not_true, Bool.not_false])
theorem letters_asc : ∀ c ∈ letters.cps.toList, c < 128 := by decide +kernel
theorem nameT_asc {z : Str} (h : nameT z = true) : asc z := fun c hc => by
  unfold nameT at h
  rw [Bool.and_eq_true] at h
  exact letters_asc c (of_decide_eq_true (List.all_eq_true.mp h.2 c hc))
/-! ### what lies behind -/
inductive Rch (G : Str → List Str) (b : List Str) : Str → Prop
  | base {z : Str} : z ∈ b → Rch G b z
  | step {y z : Str} : Rch G b y → z ∈ G y → Rch G b z
theorem Rch.in_ {G : Str → List Str} {b evs : List Str} (hb : ∀ z ∈ b, z ∈ evs) (hG : ∀ e ∈ evs, ∀ z ∈ G e, z ∈ evs) : ∀ {z : Str}, Rch G b z → z ∈ evs
  | _, .base h => hb _ h
  | _, .step h k => hG _ (Rch.in_ hb hG h) _ k
def rest (f : Str → Nat) (evs found : List Str) : Nat := ((evs.filter fun e => !decide (e ∈ found)).map f).sum
theorem rest_le (f : Str → Nat) (x : Str) (found : List Str) : ∀ evs : List Str, rest f evs (found ++ [x]) ≤ rest f evs found
  | [] => Nat.le_refl _
  | e :: r => by
    have ih := rest_le f x found r
    unfold rest at ih ⊢
    rw [List.filter_cons, List.filter_cons]
    by_cases h1 : e ∈ found
    · have h2 : e ∈ found ++ [x] := List.mem_append_left _ h1
      simpa [h1, h2] using ih
    · by_cases h2 : e = x
      · subst h2
        simp only [h1, List.mem_append, List.mem_singleton, or_true, decide_true, decide_false, Bool.not_true, Bool.not_false, Bool.false_eq_true, if_false, if_true, List.map_cons, List.sum_cons]
        simp only [List.mem_append, List.mem_singleton] at ih
        omega
      · simp only [h1, h2, List.mem_append, List.mem_singleton, or_self, decide_false, Bool.not_false, if_true, List.map_cons, List.sum_cons]
        simp only [List.mem_append, List.mem_singleton] at ih
        omega
theorem rest_lt (f : Str → Nat) {x : Str} {found : List Str} (hx : x ∉ found) : ∀ {evs : List Str}, x ∈ evs → rest f evs (found ++ [x]) + f x ≤ rest f evs found
  | e :: r, h => by
    have le := rest_le f x found r
    have ih := fun h => rest_lt f hx (evs := r) h
    unfold rest at ih le ⊢
    rw [List.filter_cons, List.filter_cons]
    by_cases h2 : e = x
    · subst h2
      simp only [hx, List.mem_append, List.mem_singleton, or_true, decide_true, decide_false, Bool.not_true, Bool.not_false, Bool.false_eq_true, if_false, if_true, List.map_cons, List.sum_cons]
      simp only [List.mem_append, List.mem_singleton] at le
      omega
    · have h' : x ∈ r := by
        rcases List.mem_cons.mp h with h | h
        · exact absurd h.symm h2
        · exact h
      have ih := ih h'
      by_cases h1 : e ∈ found
      · have h3 : e ∈ found ++ [x] := List.mem_append_left _ h1
        simpa [h1, h3] using ih
      · simp only [h1, h2, List.mem_append, List.mem_singleton, or_self, decide_false, Bool.not_false, if_true, List.map_cons, List.sum_cons]
        simp only [List.mem_append, List.mem_singleton] at ih
        omega
structure GraphAt (μ : Mu) (kd : List (Key × D)) (evs : List Str) (G : Str → List Str) : Prop where
  get : ∀ e ∈ evs, ∃ y, valD kd (.inr e) = some y ∧ lstOf μ y = some (sds (G e))
  in_ : ∀ e ∈ evs, ∀ z ∈ G e, z ∈ evs
theorem lst_le {μ μ' : Mu} (l : Le μ μ') {x : D} {xs : List D} (h : lstOf μ x = some xs) : lstOf μ' x = some xs := by
  cases x with
  | lst ys => exact h
  | ref a => exact lst_ref (l a _ (ref_lst h))
  | _ => cases h
structure RchI (G : Str → List Str) (evs b found wait : List Str) : Prop where
  w : ∀ z ∈ wait, z ∈ evs
  f : ∀ z ∈ found, z ∈ evs
  sf : ∀ z ∈ found, Rch G b z
  sw : ∀ z ∈ wait, Rch G b z
  cb : ∀ z ∈ b, z ∈ found ∨ z ∈ wait
  cs : ∀ y ∈ found, ∀ z ∈ G y, z ∈ found ∨ z ∈ wait
  n : found.length + rest (fun _ => 1) evs found ≤ evs.length
theorem RchI.done {G : Str → List Str} {evs b found : List Str} (h : RchI G evs b found []) (z : Str) : z ∈ found ↔ Rch G b z := by
  refine ⟨h.sf z, fun r => ?_⟩
  induction r with
  | base k => exact (h.cb _ k).elim id (fun k => nomatch k)
  | step _ k ih => exact (h.cs _ ih _ k).elim id (fun k => nomatch k)
theorem RchI.old {G : Str → List Str} {evs b found wait : List Str} {x : Str} (h : RchI G evs b found (wait ++ [x])) (hx : x ∈ found) : RchI G evs b found wait := by
  have spl : ∀ z, z ∈ found ∨ z ∈ wait ++ [x] → z ∈ found ∨ z ∈ wait := fun z k => by
    rcases k with k | k
    · exact .inl k
    · rcases List.mem_append.mp k with k | k
      · exact .inr k
      · rw [List.mem_singleton.mp k]; exact .inl hx
  exact ⟨fun z k => h.w z (List.mem_append_left _ k), h.f, h.sf, fun z k => h.sw z (List.mem_append_left _ k), fun z k => spl z (h.cb z k), fun y hy z k => spl z (h.cs y hy z k), h.n⟩
theorem RchI.new {G : Str → List Str} {evs b found wait : List Str} {x : Str} (h : RchI G evs b found (wait ++ [x])) (hG : ∀ e ∈ evs, ∀ z ∈ G e, z ∈ evs) (hx : x ∉ found) : RchI G evs b (found ++ [x]) (wait ++ G x) := by
  have hxw : x ∈ wait ++ [x] := List.mem_append_right _ (List.mem_singleton.mpr rfl)
  have hxe := h.w x hxw
  have spl : ∀ z, z ∈ found ∨ z ∈ wait ++ [x] → z ∈ found ++ [x] ∨ z ∈ wait ++ G x := fun z k => by
    rcases k with k | k
    · exact .inl (List.mem_append_left _ k)
    · rcases List.mem_append.mp k with k | k
      · exact .inr (List.mem_append_left _ k)
      · exact .inl (List.mem_append_right _ k)
  refine ⟨fun z k => ?_, fun z k => ?_, fun z k => ?_, fun z k => ?_, fun z k => spl z (h.cb z k), fun y hy z k => ?_, ?_⟩
  · rcases List.mem_append.mp k with k | k
    · exact h.w z (List.mem_append_left _ k)
    · exact hG x hxe z k
  · rcases List.mem_append.mp k with k | k
    · exact h.f z k
    · rw [List.mem_singleton.mp k]; exact hxe
  · rcases List.mem_append.mp k with k | k
    · exact h.sf z k
    · rw [List.mem_singleton.mp k]; exact h.sw x hxw
  · rcases List.mem_append.mp k with k | k
    · exact h.sw z (List.mem_append_left _ k)
    · exact .step (h.sw x hxw) k
  · rcases List.mem_append.mp hy with hy | hy
    · exact spl z (h.cs y hy z k)
    · rw [List.mem_singleton.mp hy] at k
      exact .inr (List.mem_append_right _ k)
  · have := rest_lt (fun _ => 1) hx hxe
    have := h.n
    simp only [List.length_append, List.length_cons, List.length_nil]
    omega
def sp_reached : Sp3 := fun ds μ R => ∃ kd y evs G b, ds = [.dct kd, y] ∧ EvOk evs ∧ GraphAt μ kd evs G ∧ seqOf μ y = some (sds b) ∧ (∀ z ∈ b, z ∈ evs) ∧ b.length + rest (fun e => (G e).length) evs [] ≤ 100000 ∧ ∀ found : List Str, (∀ z, z ∈ found ↔ Rch G b z) → R (.lst (sds found)) μ
def t_reached_3 : TS3 := (sRet (vVar 2))
def t_reached_2 : TS3 := sSeq (sWhile (vB (vOp gNeD (vVar 3) (vLst vNil))) (sSeq (sSet 4 (vBM0 "list" gPop (vVar 3))) (sIf (vB (vOp (gIn true) (vVar 4) (vVar 2))) (sSeq (sDrop (vBM "list" gApp (vVar 2) (vCons (vVar 4) vNil))) (sDrop (vBM "list" gExt (vVar 3) (vCons (vOp gAt (vVar 0) (vVar 4)) vNil)))) sNext))) t_reached_3
def t_reached_1 : TS3 := sSeq (sSet 3 (vCB gListT (vCons (vVar 1) vNil))) t_reached_2
def t_reached : TS3 := sSeq (sSet 2 (vLstT vNil)) t_reached_1
theorem reached_loop {R : DK} {μ : Mu} {kd : List (Key × D)} {y : D} {evs b : List Str} {G : Str → List Str} {q1 q2 : Addr} (ok : EvOk evs) (g : GraphAt μ kd evs G) (h : ∀ found : List Str, (∀ z, z ∈ found ↔ Rch G b z) → R (.lst (sds found)) μ) (n1 : μ q1 = none) (n2 : μ q2 = none) (ne : q1 ≠ q2) :
    ∀ (n : Nat) (found wait : List Str) (μ' : Mu) (x : Option D), RchI G evs b found wait → Le μ μ' → μ' q1 = some (.lst (sds found)) → μ' q2 = some (.lst (sds wait)) → wait.length + rest (fun e => (G e).length) evs found < n → wait.length + rest (fun e => (G e).length) evs found ≤ 100000 →
    whileW (vB (vOp gNeD (vVar 3) (vLst vNil))) (sSeq (sSet 4 (vBM0 "list" gPop (vVar 3))) (sIf (vB (vOp (gIn true) (vVar 4) (vVar 2))) (sSeq (sDrop (vBM "list" gApp (vVar 2) (vCons (vVar 4) vNil))) (sDrop (vBM "list" gExt (vVar 3) (vCons (vOp gAt (vVar 0) (vVar 4)) vNil)))) sNext))
      { endsOf R with nx := t_reached_3 (endsOf R) } n [some (.dct kd), some y, some (.ref q1), some (.ref q2), x] μ'
  | 0, _, _, _, _, _, _, _, _, hn, _ => absurd hn (Nat.not_lt_zero _)
  | n + 1, found, wait, μ', x, I, l, e1, e2, hn, hB => by
    have hsl : sizeLine = 16777216 := by decide
    unfold whileW
    walk_at "l3"
    refine ⟨Nat.zero_le _, _, _, sh_lst (lst_ref e2), .lst .nil, ?_, rfl, ?_⟩
    · exact (Sm.list (k := 0) (B := 8) (n := wait.length) (fun p hp => by
        obtain ⟨w, hw, rfl⟩ := List.mem_map.mp hp
        have := ok.nm w (I.w w hw)
        exact Sm.str (nameT_asc this) (nameT_len this)) (by simp)).shaped (by decide)
    rw [eqv_nil]
    rcases List.eq_nil_or_concat wait with rfl | ⟨w0, z, rfl⟩
    · simp only [decide_true, Bool.not_true, Bool.false_eq_true, if_false]
      unfold t_reached_3
      walk_at "l3"
      exact fin_lst l e1 n1 (h _ I.done)
    · rw [List.concat_eq_append] at *
      have hne : w0 ++ [z] ≠ [] := by simp
      simp only [hne, decide_false, Bool.not_false, if_true]
      have e2' : μ' q2 = some (.lst (sds w0 ++ [.str z])) := by rw [e2]; simp [sds]
      refine ⟨.inl ⟨rfl, _, e2'⟩, q2, _, .str z, rfl, rfl, e2', by simp, ?_⟩
      rw [List.dropLast_concat]
      walk_at "l3"
      refine in_q (xs := sds found) (by simp only [seqOf]; rw [mset_ne ne, e1]) rfl (sds_flat _) ?_
      rw [in_sds]
      have hz : z ∈ evs := I.w z (List.mem_append_right _ (List.mem_singleton.mpr rfl))
      by_cases hf : z ∈ found
      · simp only [hf, decide_true, Bool.not_true, Bool.false_eq_true, if_false, if_true]
        refine reached_loop ok g h n1 n2 ne n found w0 _ _ (I.old hf) (l.mset n2) (by rw [mset_ne ne, e1]) mset_same ?_ ?_
        · simp only [List.length_append, List.length_cons, List.length_nil] at hn; omega
        · simp only [List.length_append, List.length_cons, List.length_nil] at hB; omega
      · simp only [hf, decide_false, Bool.not_false, if_true]
        have hlen := I.n
        have hle := ok.le
        refine ⟨.inl ⟨rfl, sds found, by rw [mset_ne ne, e1]⟩, q1, sds found, _, rfl, rfl, by rw [mset_ne ne, e1], by simp only [sds, List.length_map]; omega, ?_⟩
        obtain ⟨yg, eg, lg⟩ := g.get z hz
        refine ⟨.inl ⟨rfl, sds w0, by rw [mset_ne (Ne.symm ne), mset_same]⟩, ?_⟩
        refine at_d (c := .k kd) rfl (by show some _ = some _; rw [eg]) ?_
        have hr := rest_lt (fun e => (G e).length) hf hz
        simp only [List.length_append, List.length_cons, List.length_nil] at hn hB
        refine ⟨q2, sds w0, yg, sds (G z), rfl, rfl, by rw [mset_ne (Ne.symm ne), mset_same], lst_le ((l.mset n2).mset n1) lg, by simp only [sds, List.length_map]; omega, ?_⟩
        refine reached_loop ok g h n1 n2 ne n (found ++ [z]) (w0 ++ G z) _ _ (I.new g.in_ hf) (((l.mset n2).mset n1).mset n2) ?_ ?_ ?_ ?_
        · rw [mset_ne ne, mset_same]; simp [sds]
        · rw [mset_same]; simp [sds]
        · simp only [List.length_append]; omega
        · simp only [List.length_append]; omega
theorem pure_reached (ds : List D) (μ : Mu) (R : DK) (hl : ds.length = 2) (h : sp_reached ds μ R) : t_reached (endsOf R) (start3 ["behind", "begin", "found", "waiting", "event"] ds) μ := by
  obtain ⟨kd, y, evs, G, b, rfl, ok, g, hb, hbe, hB, h⟩ := h
  show t_reached (endsOf R) [some (.dct kd), some y, none, none, none] μ
  unfold t_reached t_reached_1 t_reached_2
  walk_at "l3"
  refine ⟨Nat.zero_le _, fun q1 n1 => ⟨y, sds b, rfl, ?_, fun q2 n2' => ?_⟩⟩
  · cases y with
    | ref a =>
      have ha : a ≠ q1 := by
        rintro rfl
        simp only [seqOf, n1] at hb
        cases hb
      simp only [seqOf]; rw [mset_ne ha]; exact hb
    | _ => exact hb
  have ne : q1 ≠ q2 := by
    rintro rfl
    rw [mset_same] at n2'
    cases n2'
  have n2 : μ q2 = none := by rw [mset_ne (Ne.symm ne)] at n2'; exact n2'
  refine ⟨100001, reached_loop ok g h n1 n2 ne 100001 [] b _ none ⟨hbe, (fun z k => nomatch k), (fun z k => nomatch k), fun z k => .base k, fun z k => .inr k, (fun y k => nomatch k), ?_⟩ (((Le.refl μ).mset n1).mset n2) ?_ mset_same (by omega) hB⟩
  · have : ∀ l : List Str, ((l.filter fun e => !decide (e ∈ ([] : List Str))).map fun _ => 1).sum ≤ l.length := fun l => by
      induction l with
      | nil => exact Nat.le_refl _
      | cons a r ih => simp at ih ⊢; omega
    have := this evs
    simpa [rest] using this
  · rw [mset_ne ne, mset_same]; rfl

end C1

namespace C1
open PySem PySem.Spec L2 L3
local macro_rules | `(tactic| walk_at "l3") => `(tactic| simp only [sSeq, sNext, sIf, sRet, sRetN, sSet, sDrop, sSub, sFor, sAsg, sPar2, sPar3, sCont, sFld3, sFld2, sAug, vVar, vC, vNil, vCons, vOp, vB, vChain, vAnd, vOr, vNot, vAndV, vOrV, vNotV, vIf, vUn, vCB, vLst, vTup, vLstT, vCall, vCal, vMak, vMetA, vFld, vSl, vPart, vNoP, vLc, vLcT, vDc, vBM, vBM0, vGet1, vGet2, vItems, vRev, vLRg, vStar, iRg1, iRg2, iRgD, iAny, iEnm, iItm, iVal, vDict0, vDict0T, vDict0N, vDisp, vDispT, vPairs,
  List.getElem?_cons_zero, List.getElem?_cons_succ, List.set_cons_zero, List.set_cons_succ, wipe3, endsOf_rt, endsOf_nx, gLt, gLe, gGt, gGe, L3.gSub, gMul, gMod, gDiv, gPow, g2I, g2I0, gN, gT, gGo, Option.bind_some, gAdd_ii, gAdd_ss, gNeg_i, gMax2_ii, gMin2_ii, gLen_s, gEqS_ii, gEqS_ss, gEqS_bb, gNeS_ii, gNeS_ss, gIsN_n, gNotN_n, gSl_s, isNonD, if_true, if_false, Bool.false_eq_true, Bool.not_true, Bool.not_false])
/-! ### a dict of lists, one for each event -/
def bk (ad : Str → Addr) (evs : List Str) : List (Key × D) := evs.map fun e => (.inr e, .ref (ad e))
structure Bh (μ μ' : Mu) (evs : List Str) (ad : Str → Addr) (G : Str → List Str) : Prop where
  le : Le μ μ'
  new : ∀ e ∈ evs, μ (ad e) = none
  at_ : ∀ e ∈ evs, μ' (ad e) = some (.lst (sds (G e)))
  inj : ∀ e ∈ evs, ∀ f ∈ evs, ad e = ad f → e = f
theorem val_bk {ad : Str → Addr} {e : Str} : ∀ {evs : List Str}, e ∈ evs → valD (bk ad evs) (.inr e) = some (.ref (ad e))
  | a :: r, h => by
    by_cases q : a = e
    · subst q; simp [bk, valD]
    · have h' : e ∈ r := by
        rcases List.mem_cons.mp h with h | h
        · exact absurd h.symm q
        · exact h
      have := val_bk (ad := ad) h'
      have ne : (Sum.inr a : Key) ≠ .inr e := fun h => q (Sum.inr.inj h)
      unfold bk valD at this ⊢
      rw [List.map_cons, List.find?_cons]
      simp only [ne, decide_false]
      exact this
theorem put_bk {ad : Str → Addr} {e : Str} {v : D} {evs : List Str} (h : e ∉ evs) : putD (bk ad evs) (.inr e) v = bk ad evs ++ [(.inr e, v)] := by
  unfold putD
  rw [if_neg]
  intro k
  rw [List.any_eq_true] at k
  obtain ⟨p, hp, q⟩ := k
  obtain ⟨a, ha, rfl⟩ := List.mem_map.mp hp
  have : a = e := Sum.inr.inj (of_decide_eq_true q)
  exact h (this ▸ ha)
theorem bh_dc {Pm : Mu → Prop} {μ : Mu} {i : Nat} {δ : St3} {R : Dic → Mu → Prop} (hi : i < δ.length) (hP : ∀ μ', Le μ μ' → Pm μ') : ∀ (todo done : List Str) (ad : Str → Addr) (μ' : Mu), Bh μ μ' done ad (fun _ => []) → (done ++ todo).Nodup → (done ++ todo).length ≤ 100 →
    (∀ ad μ', Bh μ μ' (done ++ todo) ad (fun _ => []) → R (.k (bk ad (done ++ todo))) μ') → dcW Pm (gN i) vYes (vVar i) (vLstT vNil) δ R (sds todo) (.k (bk ad done)) μ'
  | [], done, ad, μ', b, _, _, k => ⟨hP _ b.le, by simpa using k ad μ' (by simpa using b)⟩
  | e :: r, done, ad, μ', b, nd, hl, k => by
    have hsl : sizeLine = 16777216 := by decide
    refine ⟨hP _ b.le, ?_, ?_⟩
    · show (bk ad done).length < _
      simp only [bk, List.length_map]
      simp only [List.length_append] at hl
      omega
    have e1 : (δ.set i (some (.str e)))[i]? = some (some (.str e)) := by simp [hi]
    simp only [gN, vYes, if_true, vVar, e1]
    refine ⟨Nat.zero_le _, fun q hq => ?_⟩
    have ne : e ∉ done := by
      rw [List.nodup_append] at nd
      exact fun h => nd.2.2 e h e List.mem_cons_self rfl
    refine ⟨.k (putD (bk ad done) (.inr e) (.ref q)), rfl, ?_⟩
    rw [show putD (bk ad done) (.inr e) (.ref q) = bk (fun z => if z = e then q else ad z) (done ++ [e]) by
      rw [put_bk ne]
      unfold bk
      rw [List.map_append]
      congr 1
      · refine List.map_congr_left fun a ha => ?_
        have : a ≠ e := fun h => ne (h ▸ ha)
        simp [this]
      · simp]
    have ha : ∀ a ∈ done, ad a ≠ q := fun a ha h => by
      have := b.at_ a ha
      rw [h, hq] at this
      cases this
    have hne : ∀ a ∈ done, a ≠ e := fun a ha h => ne (h ▸ ha)
    have hμq : μ q = none := by
      cases z : μ q with
      | none => rfl
      | some o => have := b.le q o z; rw [hq] at this; cases this
    refine bh_dc hi hP r (done ++ [e]) _ _ ⟨b.le.mset hμq, fun a h => ?_, fun a h => ?_, fun a h f hf => ?_⟩ (by simpa using nd) (by simpa using hl) (fun ad μ' h => by simpa using k ad μ' (by simpa using h))
    · rcases List.mem_append.mp h with h | h
      · simp only [hne a h, if_false]; exact b.new a h
      · simp only [List.mem_singleton.mp h, if_true]; exact hμq
    · rcases List.mem_append.mp h with h | h
      · simp only [hne a h, if_false]; rw [mset_ne (ha a h)]; exact b.at_ a h
      · simp only [List.mem_singleton.mp h, if_true]; rw [mset_same]; rfl
    · rcases List.mem_append.mp h with h | h <;> rcases List.mem_append.mp hf with hf | hf
      · simp only [hne a h, hne f hf, if_false]; exact b.inj a h f hf
      · simp only [hne a h, List.mem_singleton.mp hf, if_false, if_true]; exact fun z => absurd z (ha a h)
      · simp only [hne f hf, List.mem_singleton.mp h, if_false, if_true]; exact fun z => absurd z.symm (ha f hf)
      · intro _; rw [List.mem_singleton.mp h, List.mem_singleton.mp hf]
theorem Bh.app {μ μ' : Mu} {evs : List Str} {ad : Str → Addr} {G G' : Str → List Str} {e : Str} (b : Bh μ μ' evs ad G) (he : e ∈ evs) (h : ∀ z, z ≠ e → G' z = G z) : Bh μ (mset μ' (ad e) (.lst (sds (G' e)))) evs ad G' := by
  refine ⟨b.le.mset (b.new e he), b.new, fun a ha => ?_, b.inj⟩
  by_cases q : a = e
  · subst q; exact mset_same
  · rw [mset_ne fun z => q (b.inj a ha e he z), b.at_ a ha, h a q]
theorem Bh.graph {μ μ' : Mu} {evs : List Str} {ad : Str → Addr} {G : Str → List Str} (b : Bh μ μ' evs ad G) (h : ∀ e ∈ evs, ∀ z ∈ G e, z ∈ evs) : GraphAt μ' (bk ad evs) evs G :=
  ⟨fun e he => ⟨_, val_bk he, lst_ref (b.at_ e he)⟩, h⟩
/-- who lies next to e -/
def adj (p : Tie → Bool) (s t : Tie → Str) (ts : List Tie) (e : Str) : List Str := (ts.filter fun c => p c && decide (s c = e)).map t
theorem adj_len (p : Tie → Bool) (s t : Tie → Str) (ts : List Tie) (e : Str) : (adj p s t ts e).length ≤ ts.length := by
  unfold adj; rw [List.length_map]; exact List.length_filter_le _ _
theorem adj_snoc {p : Tie → Bool} {s t : Tie → Str} {ts : List Tie} {c : Tie} {e : Str} : adj p s t (ts ++ [c]) e = if p c = true ∧ s c = e then adj p s t ts e ++ [t c] else adj p s t ts e := by
  unfold adj
  rw [List.filter_append, List.map_append]
  by_cases h : p c = true ∧ s c = e
  · rw [if_pos h]; simp [h.1, h.2]
  · rw [if_neg h]
    have : (p c && decide (s c = e)) = false := by
      cases q : p c with
      | false => rfl
      | true => simp only [Bool.true_and]; exact decide_eq_false fun z => h ⟨q, z⟩
    simp [this]
theorem mem_adj {p : Tie → Bool} {s t : Tie → Str} {ts : List Tie} {e z : Str} : z ∈ adj p s t ts e ↔ ∃ c ∈ ts, p c = true ∧ s c = e ∧ t c = z := by
  unfold adj
  simp only [List.mem_map, List.mem_filter, Bool.and_eq_true, decide_eq_true_eq]
  constructor
  · rintro ⟨c, ⟨h1, h2, h3⟩, h4⟩; exact ⟨c, h1, h2, h3, h4⟩
  · rintro ⟨c, h1, h2, h3, h4⟩; exact ⟨c, ⟨h1, h2, h3⟩, h4⟩
theorem rest_all {f : Str → Nat} {B : Nat} {found : List Str} (h : ∀ e, f e ≤ B) : ∀ evs : List Str, rest f evs found ≤ evs.length * B
  | [] => Nat.zero_le _
  | e :: r => by
    have ih := rest_all h r (found := found)
    unfold rest at ih ⊢
    rw [List.filter_cons, List.length_cons, Nat.succ_mul]
    have := h e
    split
    · rw [List.map_cons, List.sum_cons]; omega
    · omega
def adj0 := adj (fun t => decide (t.2.2 = 0)) (·.1) (·.2.1)
def NoRing (evs : List Str) (ties : List Tie) : Prop := ∀ e ∈ evs, ¬ Rch (adj0 ties) (adj0 ties e) e
theorem NoRing.of_rank {evs : List Str} {ties : List Tie} (rk : Str → Nat) (h : ∀ t ∈ ties, t.2.2 = 0 → rk t.1 < rk t.2.1) : NoRing evs ties := fun e _ r => by
  have key : ∀ z, Rch (adj0 ties) (adj0 ties e) z → rk e < rk z := fun z r => by
    induction r with
    | base k =>
      obtain ⟨c, hc, h1, h2, h3⟩ := mem_adj.mp k
      have := h c hc (of_decide_eq_true h1)
      rw [h2, h3] at this
      exact this
    | step _ k ih =>
      obtain ⟨c, hc, h1, h2, h3⟩ := mem_adj.mp k
      have := h c hc (of_decide_eq_true h1)
      rw [h2, h3] at this
      omega
  exact Nat.lt_irrefl _ (key e r)
def sp_need_no_ring : Sp3 := fun ds μ R => ∃ x evs y ties, ds = [x, y] ∧ lstOf μ x = some (sds evs) ∧ EvOk evs ∧ lstOf μ y = some (ties.map tieD) ∧ TiOk evs ties ∧ NoRing evs ties ∧ R .non μ
def t_need_no_ring_3 : TS3 := (sIf (vB (vOp gGt (vCB gLen (vCons (vVar 7) vNil)) (vC (.int 0)))) sNever sNext)
def t_need_no_ring_2 : TS3 := sSeq (sSet 7 (vLc (iAny (vVar 0)) (gN 3) (vB (vOp (gIn false) (vVar 3) (vCall 2 sp_reached (vCons (vVar 2) (vCons (vOp gAt (vVar 2) (vVar 3)) vNil))))) (vVar 3) [3])) t_need_no_ring_3
def t_need_no_ring_1 : TS3 := sSeq (sFor (iAny (vVar 1)) (gT [(gN 4), (gN 5), (gN 6)]) (sIf (vB (vOp gEqS (vVar 6) (vC (.int 0)))) (sDrop (vBM "list" gApp (vOp gAt (vVar 2) (vVar 4)) (vCons (vVar 5) vNil))) sNext)) t_need_no_ring_2
def t_need_no_ring : TS3 := sSeq (sSet 2 (vDc false false (iAny (vVar 0)) (gN 3) vYes (vVar 3) (vLstT vNil) [3])) t_need_no_ring_1
theorem pure_need_no_ring (ds : List D) (μ : Mu) (R : DK) (hl : ds.length = 2) (h : sp_need_no_ring ds μ R) : t_need_no_ring (endsOf R) (start3 ["events", "ties", "behind", "event", "earlier", "later", "lag", "found"] ds) μ := by
  obtain ⟨x, evs, y, ties, rfl, hx, ok, hy, tk, nr, h⟩ := h
  show t_need_no_ring (endsOf R) [some x, some y, none, none, none, none, none, none] μ
  have hsl : sizeLine = 16777216 := by decide
  have hle := ok.le
  have hte := tk.le
  have gin : ∀ e ∈ evs, ∀ z ∈ adj0 ties e, z ∈ evs := fun e he z hz => by
    obtain ⟨c, hc, h1, h2, rfl⟩ := mem_adj.mp hz
    exact tk.b c hc
  unfold t_need_no_ring t_need_no_ring_1
  walk_at "l3"
  refine any_lst hx fun Pm hP => ?_
  refine bh_dc (i := 3) (by show 3 < 8; decide) (fun μ' l => hP μ' (lst_le l hx)) evs [] (fun _ => 0) μ ⟨Le.refl μ, (fun e h => nomatch h), (fun e h => nomatch h), (fun e h => nomatch h)⟩ (by simpa using ok.nd) (by simp; omega) fun ad μ1 b => ?_
  rw [List.nil_append] at b ⊢
  refine any_lst (lst_le b.le hy) fun Pm hP => ?_
  refine for_ix (ties.map tieD) (fun k δ μ' => Bh μ μ' evs ad (adj0 (ties.take k)) ∧ ∃ y1 y2 y3, δ = [some x, some y, some (.dct (bk ad evs)), none, y1, y2, y3, none]) ⟨b, none, none, none, rfl⟩ ?_ ?_
  · rintro δ μ2 ⟨b2, y1, y2, y3, rfl⟩
    rw [List.length_map, List.take_length] at b2
    refine ⟨hP _ (lst_le b2.le hy), ?_⟩
    unfold t_need_no_ring_2
    walk_at "l3"
    refine any_lst (lst_le b2.le hx) fun Pm hP => ?_
    have key : lcW Pm (gN 3) (vB (vOp (gIn false) (vVar 3) (vCall 2 sp_reached (vCons (vVar 2) (vCons (vOp gAt (vVar 2) (vVar 3)) vNil))))) (vVar 3) [some x, some y, some (.dct (bk ad evs)), none, y1, y2, y3, none]
        (fun out μ2 => t_need_no_ring_3 (endsOf R) [some x, some y, some (.dct (bk ad evs)), none, y1, y2, y3, some (.lst out)] μ2) (sds evs) [] μ2 := by
      refine lcg_filter (fun _ => false) D.str D.str (hP _ (lst_le b2.le hx)) evs [] (fun e he => ⟨_, rfl, fun R' hR => ?_, fun z => nomatch z⟩) (by simp; omega) ?_
      · walk_at "l3"
        refine at_d (c := .k (bk ad evs)) rfl (by show some _ = some _; rw [val_bk he]) ⟨rfl, _, _, evs, adj0 ties, adj0 ties e, rfl, ok, b2.graph gin, seq_lst (lst_ref (b2.at_ e he)), gin e he, ?_, fun found hf => ?_⟩
        · have h1 := adj_len (fun t => decide (t.2.2 = 0)) (·.1) (·.2.1) ties e
          have h2 := rest_all (f := fun e => (adj0 ties e).length) (B := 60) (found := []) (fun e => Nat.le_trans (adj_len _ _ _ ties e) hte) evs
          unfold adj0 at h2 ⊢
          omega
        · refine in_q (xs := sds found) rfl rfl (sds_flat _) ?_
          rw [in_sds]
          have : ¬ e ∈ found := fun z => nr e he ((hf e).mp z)
          simp only [this, decide_false, Bool.false_eq_true, if_false]
          exact hR
      · unfold t_need_no_ring_3
        walk_at "l3"
        refine gLen_of (xs := []) (by simp [seqOf]) ?_
        walk_at "l3"
        simp
        exact fin_same b2.le h
    exact key
  · rintro k d δ μ2 hd ⟨b2, y1, y2, y3, rfl⟩
    rw [List.getElem?_map] at hd
    obtain ⟨t, et, rfl⟩ := Option.map_eq_some_iff.mp hd
    have htm : t ∈ ties := List.mem_of_getElem? et
    have hk : k < ties.length := (List.getElem?_eq_some_iff.mp et).1
    have etk : ties.take (k + 1) = ties.take k ++ [t] := by rw [List.take_succ, et]; rfl
    refine ⟨hP _ (lst_le b2.le hy), _, rfl, fun N hN => ?_⟩
    walk_at "l3"
    by_cases h0 : t.2.2 = 0
    · simp only [h0, decide_true, if_true]
      have ha := tk.a t htm
      have e2 : adj0 (ties.take (k + 1)) t.1 = adj0 (ties.take k) t.1 ++ [t.2.1] := by
        rw [etk]; unfold adj0; rw [adj_snoc, if_pos ⟨decide_eq_true h0, rfl⟩]
      refine at_d (c := .k (bk ad evs)) (d := .ref (ad t.1)) rfl (by show some _ = some _; rw [val_bk ha]) ⟨Or.inl ⟨rfl, _, b2.at_ _ ha⟩, ?_⟩
      refine ⟨_, _, _, rfl, rfl, b2.at_ _ ha, ?_, ?_⟩
      · have := adj_len (fun t => decide (t.2.2 = 0)) (·.1) (·.2.1) (ties.take k) t.1
        rw [List.length_take] at this
        simp only [sds, List.length_map]
        unfold adj0
        omega
      · refine hN _ _ ⟨?_, _, _, _, rfl⟩
        have := b2.app (G' := adj0 (ties.take (k + 1))) ha (fun z hz => by
          rw [etk]; unfold adj0; rw [adj_snoc, if_neg fun q => hz q.2.symm])
        rw [e2] at this
        have e3 : sds (adj0 (ties.take k) t.1 ++ [t.2.1]) = sds (adj0 (ties.take k) t.1) ++ [.str t.2.1] := by simp [sds]
        rw [e3] at this
        exact this
    · simp only [h0, decide_false, Bool.false_eq_true, if_false]
      refine hN _ _ ⟨?_, _, _, _, rfl⟩
      have : adj0 (ties.take (k + 1)) = adj0 (ties.take k) := by
        funext z
        rw [etk]; unfold adj0; rw [adj_snoc, if_neg fun q => h0 (of_decide_eq_true q.1)]
      rw [this]
      exact b2

end C1

namespace C1
open PySem PySem.Spec L2 L3
local macro_rules | `(tactic| walk_at "l3") => `(tactic| simp only [sSeq, sNext, sIf, sRet, sRetN, sSet, sDrop, sSub, sFor, sAsg, sPar2, sPar3, sCont, sFld3, sFld2, sAug, vVar, vC, vNil, vCons, vOp, vB, vChain, vAnd, vOr, vNot, vAndV, vOrV, vNotV, vIf, vUn, vCB, vLst, vTup, vLstT, vCall, vCal, vMak, vMetA, vFld, vSl, vPart, vNoP, vLc, vLcT, vDc, vBM, vBM0, vGet1, vGet2, vItems, vRev, vLRg, vStar, iRg1, iRg2, iRgD, iAny, iEnm, iItm, iVal, vDict0, vDict0T, vDict0N, vDisp, vDispT, vPairs,
  List.getElem?_cons_zero, List.getElem?_cons_succ, List.set_cons_zero, List.set_cons_succ, wipe3, endsOf_rt, endsOf_nx, gLt, gLe, gGt, gGe, L3.gSub, gMul, gMod, gDiv, gPow, g2I, g2I0, gN, gT, gGo, Option.bind_some, gAdd_ii, gAdd_ss, gNeg_i, gMax2_ii, gMin2_ii, gLen_s, gEqS_ii, gEqS_ss, gEqS_bb, gNeS_ii, gNeS_ss, gIsN_n, gNotN_n, gSl_s, isNonD, if_true, if_false, Bool.false_eq_true, Bool.not_true, Bool.not_false])
theorem mset_mset {μ : Mu} {a : Addr} {o o' : MO} : mset (mset μ a o) a o' = mset μ a o' := by
  funext b
  by_cases h : b = a
  · rw [h, mset_same, mset_same]
  · rw [mset_ne h, mset_ne h, mset_ne h]
theorem lst_ins {μ : Mu} {x : D} {xs : List D} {q : Addr} {n : Str} {fs : List (Str × D)} {o : MO} (h : lstOf μ x = some xs) (hq : μ q = some (.ins n fs)) : lstOf (mset μ q o) x = some xs := by
  cases x with
  | lst ys => exact h
  | ref a =>
    have := ref_lst h
    refine lst_ref ?_
    rw [mset_ne, this]
    rintro rfl
    rw [hq] at this
    cases this
  | _ => cases h
theorem putFD_len (f : Str) (v : D) : ∀ fs : List (Str × D), (putFD f v fs).length ≤ fs.length + 1
  | [] => Nat.le_refl _
  | (g, x) :: r => by
    unfold putFD
    have := putFD_len f v r
    split
    · simp
    · simp; omega
def limV : Option Lims → D
  | none => .non
  | some l => .dct (limK l)
def limsOf (evs : List Str) (lims : Lims) : Lims := evs.filterMap fun e => (lims.lookup e).map fun v => (e, v)
def planF (evs : List Str) (ties : List Tie) (lims : Lims) : List (Str × D) := [("own_events", .lst (sds evs)), ("own_ties", .lst (ties.map tieD)), ("own_limits", .dct (limK lims))]
def planD (evs : List Str) (ties : List Tie) (lims : Lims) : D := .obj "Plan" (planF evs ties lims)
structure PlOk (evs : List Str) (ties : List Tie) (lims : Lims) : Prop where
  e : EvOk evs
  t : TiOk evs ties
  l : LiOk evs lims
  r : NoRing evs ties
theorem val_lim {e : Str} : ∀ lims : Lims, valD (limK lims) (.inr e) = (lims.lookup e).map D.int
  | [] => rfl
  | (a, v) :: r => by
    have ih := val_lim (e := e) r
    unfold limK valD at ih ⊢
    rw [List.map_cons, List.find?_cons, List.lookup_cons]
    by_cases h : a = e
    · subst h; simp
    · have ne : (Sum.inr a : Key) ≠ .inr e := fun q => h (Sum.inr.inj q)
      have ne2 : (e == a) = false := by simpa using fun q : e = a => h q.symm
      simp only [ne, decide_false, ne2]
      exact ih
theorem look_mem {e : Str} {v : Int} : ∀ {lims : Lims}, lims.lookup e = some v → (e, v) ∈ lims
  | (a, w) :: r, h => by
    rw [List.lookup_cons] at h
    by_cases q : e = a
    · subst q; simp at h; subst h; exact List.mem_cons_self
    · have : (e == a) = false := by simpa using q
      rw [this] at h
      exact List.mem_cons_of_mem _ (look_mem h)
theorem limsOf_keys {evs : List Str} {lims : Lims} : (limsOf evs lims).map (·.1) = evs.filter fun e => (lims.lookup e).isSome := by
  unfold limsOf
  induction evs with
  | nil => rfl
  | cons e r ih =>
    rw [List.filterMap_cons, List.filter_cons]
    cases h : lims.lookup e with
    | none => simpa [h] using ih
    | some v => simp [ih]
theorem limsOf_ok {evs : List Str} {lims : Lims} (ok : EvOk evs) (lk : LiOk evs lims) : LiOk evs (limsOf evs lims) := by
  refine ⟨?_, fun p hp => ?_, fun p hp => ?_⟩
  · rw [limsOf_keys]; exact List.Pairwise.filter _ ok.nd
  · obtain ⟨e, he, h⟩ := List.mem_filterMap.mp hp
    obtain ⟨v, hv, rfl⟩ := Option.map_eq_some_iff.mp h
    exact he
  · obtain ⟨e, he, h⟩ := List.mem_filterMap.mp hp
    obtain ⟨v, hv, rfl⟩ := Option.map_eq_some_iff.mp h
    exact lk.c _ (look_mem hv)
theorem nil_ok {evs : List Str} : LiOk evs [] := ⟨List.nodup_nil, (fun p h => nomatch h), (fun p h => nomatch h)⟩
def sp_Plan___init__ : Sp3 := fun ds μ R => ∃ q x evs y ties lo, ds = [.ref q, x, y, limV lo] ∧ μ q = some (.ins "Plan" []) ∧ lstOf μ x = some (sds evs) ∧ lstOf μ y = some (ties.map tieD) ∧ PlOk evs ties (lo.getD []) ∧
  R .non (mset μ q (.ins "Plan" (planF evs ties (limsOf evs (lo.getD [])))))
def t_Plan___init___6 : TS3 := (sFld3 "Plan" "own_limits" (vDc false false (iAny (vVar 1)) (gN 4) (vAnd (vB (vOp gNotN (vVar 3) (vC .non))) (vB (vOp (gIn false) (vVar 4) (vVar 3)))) (vVar 4) (vOp gAt (vVar 3) (vVar 4)) [4]) (vVar 0))
def t_Plan___init___5 : TS3 := sSeq (sFld3 "Plan" "own_ties" (vCB gList (vCons (vVar 2) vNil)) (vVar 0)) t_Plan___init___6
def t_Plan___init___4 : TS3 := sSeq (sFld3 "Plan" "own_events" (vCB gList (vCons (vVar 1) vNil)) (vVar 0)) t_Plan___init___5
def t_Plan___init___3 : TS3 := sSeq (sDrop (vCall 2 sp_need_no_ring (vCons (vVar 1) (vCons (vVar 2) vNil)))) t_Plan___init___4
def t_Plan___init___2 : TS3 := sSeq (sIf (vB (vOp gNotN (vVar 3) (vC .non))) (sDrop (vCall 2 sp_need_limits (vCons (vVar 1) (vCons (vVar 3) vNil)))) sNext) t_Plan___init___3
def t_Plan___init___1 : TS3 := sSeq (sDrop (vCall 2 sp_need_ties (vCons (vVar 1) (vCons (vVar 2) vNil)))) t_Plan___init___2
def t_Plan___init__ : TS3 := sSeq (sDrop (vCall 1 sp_need_events (vCons (vVar 1) vNil))) t_Plan___init___1
theorem lim_dc {Pm : Mu → Prop} {μ : Mu} {δ : St3} {R : Dic → Mu → Prop} {lo : Option Lims} (hP : Pm μ) (h3 : δ[3]? = some (some (limV lo))) (hl : 4 < δ.length) : ∀ (todo done : List Str), (done ++ todo).Nodup → (done ++ todo).length ≤ 100 →
    R (.k (limK (limsOf (done ++ todo) (lo.getD [])))) μ →
    dcW Pm (gN 4) (vAnd (vB (vOp gNotN (vVar 3) (vC .non))) (vB (vOp (gIn false) (vVar 4) (vVar 3)))) (vVar 4) (vOp gAt (vVar 3) (vVar 4)) δ R (sds todo) (.k (limK (limsOf done (lo.getD [])))) μ
  | [], done, _, _, k => ⟨hP, by simpa using k⟩
  | e :: r, done, nd, hn, k => by
    have hsl : sizeLine = 16777216 := by decide
    have ne : e ∉ done := by
      rw [List.nodup_append] at nd
      exact fun h => nd.2.2 e h e List.mem_cons_self rfl
    refine ⟨hP, ?_, ?_⟩
    · show (limK _).length < _
      have : (limsOf done (lo.getD [])).length ≤ done.length := List.length_filterMap_le _ _
      simp only [limK, List.length_map]
      simp only [List.length_append] at hn
      omega
    have e1 : (δ.set 4 (some (D.str e)))[4]? = some (some (.str e)) := by simp [hl]
    have e2 : (δ.set 4 (some (D.str e)))[3]? = some (some (limV lo)) := by rw [List.getElem?_set_ne (by decide)]; exact h3
    have ap : limsOf (done ++ [e]) (lo.getD []) = limsOf done (lo.getD []) ++ ((lo.getD []).lookup e).toList.map fun v => (e, v) := by
      unfold limsOf
      rw [List.filterMap_append]
      congr 1
      cases h : (lo.getD []).lookup e <;> simp [h]
    have rec_ := lim_dc hP h3 hl r (done ++ [e]) (by simpa using nd) (by simpa using hn) (by simpa using k)
    rw [ap] at rec_
    simp only [gN, vAnd, vB, vOp, vVar, vC, e1, e2]
    cases lo with
    | none =>
      simp only [limV, gNotN, isNonD, Bool.not_true, Bool.false_eq_true, if_false]
      simpa [sds] using rec_
    | some l =>
      simp only [limV, gNotN, isNonD, Bool.not_false, if_true]
      refine in_d (c := .k (limK l)) (r := (l.lookup e).map D.int) rfl (by show some _ = some _; rw [val_lim]) ?_
      cases hv : l.lookup e with
      | none =>
        simp only [Option.map_none, Option.isSome_none, Bool.false_eq_true, if_false]
        simpa [hv, sds] using rec_
      | some v =>
        simp only [Option.map_some, Option.isSome_some, Bool.false_eq_true, if_false, if_true]
        refine at_d (c := .k (limK l)) (d := .int v) rfl (by show some _ = some _; rw [val_lim, hv]; rfl) ⟨.k (putD (limK (limsOf done l)) (.inr e) (.int v)), rfl, ?_⟩
        have : putD (limK (limsOf done l)) (.inr e) (.int v) = limK (limsOf done l ++ [(e, v)]) := by
          unfold putD
          rw [if_neg]
          · unfold limK; rw [List.map_append]; rfl
          · intro q
            rw [List.any_eq_true] at q
            obtain ⟨p, hp, q⟩ := q
            obtain ⟨a, ha, rfl⟩ := List.mem_map.mp hp
            have ea : a.1 = e := Sum.inr.inj (of_decide_eq_true q)
            have : a.1 ∈ (limsOf done l).map (·.1) := List.mem_map.mpr ⟨a, ha, rfl⟩
            rw [limsOf_keys] at this
            exact ne (ea ▸ (List.mem_filter.mp this).1)
        rw [this]
        simpa [hv, sds] using rec_
theorem pure_Plan___init__ (ds : List D) (μ : Mu) (R : DK) (hl : ds.length = 4) (h : sp_Plan___init__ ds μ R) : t_Plan___init__ (endsOf R) (start3 ["self", "events", "ties", "limits", "event"] ds) μ := by
  obtain ⟨q, x, evs, y, ties, lo, rfl, hq, hx, hy, ok, h⟩ := h
  show t_Plan___init__ (endsOf R) [some (.ref q), some x, some y, some (limV lo), none] μ
  unfold t_Plan___init__ t_Plan___init___1 t_Plan___init___2
  walk_at "l3"
  refine ⟨rfl, x, evs, rfl, hx, ok.e, rfl, x, evs, y, ties, rfl, hx, ok.e, hy, ok.t, ?_⟩
  have tail : t_Plan___init___3 (endsOf R) [some (.ref q), some x, some y, some (limV lo), none] μ := by
    unfold t_Plan___init___3 t_Plan___init___4 t_Plan___init___5
    walk_at "l3"
    refine ⟨rfl, x, evs, y, ties, rfl, hx, ok.e, hy, ok.t, ok.r, x, _, rfl, seq_lst hx, q, _, rfl, hq, by decide, ?_⟩
    refine ⟨y, _, rfl, seq_lst (lst_ins hy hq), q, _, rfl, mset_same, Nat.lt_of_le_of_lt (putFD_len _ _ _) (by decide), ?_⟩
    rw [mset_mset]
    unfold t_Plan___init___6
    walk_at "l3"
    refine any_lst (lst_ins hx hq) fun Pm hP => ?_
    refine lim_dc (lo := lo) (hP _ (lst_ins hx hq)) rfl (by show 4 < 5; decide) evs [] (by simpa using ok.e.nd) (by have := ok.e.le; simp; omega) ?_
    refine ⟨q, _, rfl, mset_same, Nat.lt_of_le_of_lt (putFD_len _ _ _) (Nat.lt_of_le_of_lt (Nat.succ_le_succ (putFD_len _ _ _)) (by decide)), ?_⟩
    rw [mset_mset]
    exact fin_now h
  cases lo with
  | none =>
    simp only [limV, gNotN, isNonD, Bool.not_true, Bool.false_eq_true, if_false]
    exact tail
  | some l =>
    simp only [limV, gNotN, isNonD, Bool.not_false, if_true]
    exact ⟨rfl, x, evs, l, rfl, hx, ok.e, ok.l, tail⟩

end C1

namespace C1
open PySem PySem.Spec L2 L3 C2
local macro_rules | `(tactic| walk_at "l3") => `(tactic| simp only [sSeq, sNext, sIf, sRet, sRetN, sSet, sDrop, sSub, sFor, sAsg, sPar2, sPar3, sCont, sFld3, sFld2, sAug, vVar, vC, vNil, vCons, vOp, vB, vChain, vAnd, vOr, vNot, vAndV, vOrV, vNotV, vIf, vUn, vCB, vLst, vTup, vLstT, vCall, vCal, vMak, vMetA, vFld, vSl, vPart, vNoP, vLc, vLcT, vDc, vBM, vBM0, vGet1, vGet2, vItems, vRev, vLRg, vStar, iRg1, iRg2, iRgD, iAny, iEnm, iItm, iVal, vDict0, vDict0T, vDict0N, vDisp, vDispT, vPairs,
  List.getElem?_cons_zero, List.getElem?_cons_succ, List.set_cons_zero, List.set_cons_succ, wipe3, endsOf_rt, endsOf_nx, gLt, gLe, gGt, gGe, L3.gSub, gMul, gMod, gDiv, gPow, g2I, g2I0, gN, gT, gGo, Option.bind_some, gAdd_ii, gAdd_ss, gNeg_i, gMax2_ii, gMin2_ii, gLen_s, gEqS_ii, gEqS_ss, gEqS_bb, gNeS_ii, gNeS_ss, gIsN_n, gNotN_n, gSl_s, isNonD, if_true, if_false, Bool.false_eq_true, Bool.not_true, Bool.not_false])
/-! ### a plan's own lists -/
def sp_Plan_events : Sp3 := fun ds μ R => ∃ evs ties lims, ds = [planD evs ties lims] ∧ R (.lst (sds evs)) μ
def t_Plan_events : TS3 := (sRet (vCB gList (vCons (vFld "Plan" "own_events" (vVar 0)) vNil)))
theorem pure_Plan_events (ds : List D) (μ : Mu) (R : DK) (hl : ds.length = 1) (h : sp_Plan_events ds μ R) : t_Plan_events (endsOf R) (start3 ["self"] ds) μ := by
  obtain ⟨evs, ties, lims, rfl, h⟩ := h
  show t_Plan_events (endsOf R) [some (planD evs ties lims)] μ
  unfold t_Plan_events
  walk_at "l3"
  exact ⟨planF evs ties lims, _, rfl, rfl, _, _, rfl, rfl, fin_now h⟩
def sp_Plan_ties : Sp3 := fun ds μ R => ∃ evs ties lims, ds = [planD evs ties lims] ∧ R (.lst (ties.map tieD)) μ
def t_Plan_ties : TS3 := (sRet (vCB gList (vCons (vFld "Plan" "own_ties" (vVar 0)) vNil)))
theorem pure_Plan_ties (ds : List D) (μ : Mu) (R : DK) (hl : ds.length = 1) (h : sp_Plan_ties ds μ R) : t_Plan_ties (endsOf R) (start3 ["self"] ds) μ := by
  obtain ⟨evs, ties, lims, rfl, h⟩ := h
  show t_Plan_ties (endsOf R) [some (planD evs ties lims)] μ
  unfold t_Plan_ties
  walk_at "l3"
  exact ⟨planF evs ties lims, _, rfl, rfl, _, _, rfl, rfl, fin_now h⟩
def sp_Plan_limits : Sp3 := fun ds μ R => ∃ evs ties lims, ds = [planD evs ties lims] ∧ R (.dct (limK lims)) μ
def t_Plan_limits : TS3 := (sRet (vCB (gDict false) (vCons (vFld "Plan" "own_limits" (vVar 0)) vNil)))
theorem pure_Plan_limits (ds : List D) (μ : Mu) (R : DK) (hl : ds.length = 1) (h : sp_Plan_limits ds μ R) : t_Plan_limits (endsOf R) (start3 ["self"] ds) μ := by
  obtain ⟨evs, ties, lims, rfl, h⟩ := h
  show t_Plan_limits (endsOf R) [some (planD evs ties lims)] μ
  unfold t_Plan_limits
  walk_at "l3"
  exact ⟨planF evs ties lims, _, rfl, rfl, _, _, rfl, .inl rfl, fin_now h⟩
def sp_need_plan : Sp3 := fun ds μ R => ∃ evs ties lims, ds = [planD evs ties lims] ∧ R .non μ
def t_need_plan : TS3 := (sIf (vNot (vB (vCB (gIsC "Plan" []) (vCons (vVar 0) (vCons (vC (.cls "Plan")) vNil))))) sNever sNext)
theorem pure_need_plan (ds : List D) (μ : Mu) (R : DK) (hl : ds.length = 1) (h : sp_need_plan ds μ R) : t_need_plan (endsOf R) (start3 ["value"] ds) μ := by
  obtain ⟨evs, ties, lims, rfl, h⟩ := h
  show t_need_plan (endsOf R) [some (planD evs ties lims)] μ
  unfold t_need_plan
  walk_at "l3"
  refine ⟨_, some "Plan", rfl, rfl, (fun n e => .inl (by cases e; rfl)), ?_⟩
  simp only [decide_true, Bool.not_true, Bool.false_eq_true, if_false]
  exact fin_now h
/-! ### rows -/
abbrev Nd := Option Str
def nodeD : Nd → D
  | none => .non
  | some e => .str e
def leafN : Nd → Leaf
  | none => .none
  | some e => .text e
def lk2 (a b : Nd) : LK := [leafN a, leafN b]
theorem leafN_inj {a b : Nd} (h : leafN a = leafN b) : a = b := by
  cases a <;> cases b <;> cases h <;> rfl
theorem lk2_inj {a b c d : Nd} (h : lk2 a b = lk2 c d) : a = c ∧ b = d := by
  unfold lk2 at h
  obtain ⟨h1, h2⟩ := List.cons.inj h
  exact ⟨leafN_inj h1, leafN_inj (List.cons.inj h2).1⟩
theorem leafOf_node (a : Nd) : leafOf (nodeD a) = some (leafN a) := by cases a <;> rfl
theorem lkOf_node (a b : Nd) : lkOf (.tup [nodeD a, nodeD b]) = some (lk2 a b) := by
  show leavesOf [nodeD a, nodeD b] = _
  simp only [leavesOf, leafOf_node]; rfl
abbrev RowT := (Nd × Nd × Int) × D
def rowD (r : RowT) : D := .tup [nodeD r.1.1, nodeD r.1.2.1, .int r.1.2.2, r.2]
def tieR (p : Tie × Nat) : RowT := ((some p.1.1, some p.1.2.1, p.1.2.2), .tup [.str "tie", .int (p.2 : Nat)])
def limR (p : Str × Int) : RowT := ((none, some p.1, p.2), .tup [.str "limit", .str p.1])
def endR (e : Str) : RowT := ((some e, none, 0), .tup [.str "none", .str e])
def planRows (evs : List Str) (ties : List Tie) (lims : Lims) : List RowT := ties.zipIdx.map tieR ++ lims.map limR ++ evs.map endR
theorem enum_map {α : Type} (f : α → D) (xs : List α) : enumD (xs.map f) = xs.zipIdx.map fun p => .tup [.int (p.2 : Nat), f p.1] := by
  apply List.ext_getElem?
  intro i
  rw [List.getElem?_map, List.getElem?_zipIdx]
  cases h : xs[i]? with
  | none =>
    have h1 : xs.length ≤ i := List.getElem?_eq_none_iff.mp h
    simp only [Option.map_none]
    apply List.getElem?_eq_none
    rw [enum_len, List.length_map]
    exact h1
  | some x =>
    rw [enum_get (d := f x) (by rw [List.getElem?_map, h]; rfl)]
    simp
def sp_rows_of : Sp3 := fun ds μ R => ∃ evs ties lims, ds = [planD evs ties lims] ∧ PlOk evs ties lims ∧ R (.lst ((planRows evs ties lims).map rowD)) μ
theorem lims_len {evs : List Str} {lims : Lims} (h : LiOk evs lims) : lims.length ≤ evs.length := by
  have := nodup_len h.nd (m := evs) fun x hx => by
    obtain ⟨p, hp, rfl⟩ := List.mem_map.mp hx
    exact h.a p hp
  simpa using this
def t_rows_of_2 : TS3 := (sRet (vOp gAdd (vVar 1) (vLc (iAny (vMetA "Plan" "events" 0 sp_Plan_events (vVar 0) vNil)) (gN 6) vYes (vTup (vCons (vVar 6) (vCons (vC .non) (vCons (vC (.int 0)) (vCons (vTup (vCons (vC (.str "none")) (vCons (vVar 6) vNil))) vNil))))) [6])))
def t_rows_of_1 : TS3 := sSeq (sAug 1 (vLc (iItm (vMetA "Plan" "limits" 0 sp_Plan_limits (vVar 0) vNil)) (gT [(gN 6), (gN 7)]) vYes (vTup (vCons (vC .non) (vCons (vVar 6) (vCons (vVar 7) (vCons (vTup (vCons (vC (.str "limit")) (vCons (vVar 6) vNil))) vNil))))) [6, 7]) gIAdd) t_rows_of_2
def t_rows_of : TS3 := sSeq (sSet 1 (vLcT (iEnm (vCons (vMetA "Plan" "ties" 0 sp_Plan_ties (vVar 0) vNil) vNil)) (gT [(gN 2), (gT [(gN 3), (gN 4), (gN 5)])]) vYes (vTup (vCons (vVar 3) (vCons (vVar 4) (vCons (vVar 5) (vCons (vTup (vCons (vC (.str "tie")) (vCons (vVar 2) vNil))) vNil))))) [2, 3, 4, 5])) t_rows_of_1
theorem pure_rows_of (ds : List D) (μ : Mu) (R : DK) (hl : ds.length = 1) (h : sp_rows_of ds μ R) : t_rows_of (endsOf R) (start3 ["plan", "found", "index", "earlier", "later", "lag", "event", "limit"] ds) μ := by
  obtain ⟨evs, ties, lims, rfl, ok, h⟩ := h
  have hsl : sizeLine = 16777216 := by decide
  have h1 := ok.e.le
  have h2 := ok.t.le
  have h3 := lims_len ok.l
  show t_rows_of (endsOf R) [some (planD evs ties lims), none, none, none, none, none, none, none] μ
  unfold t_rows_of t_rows_of_1
  walk_at "l3"
  refine ⟨planF evs ties lims, rfl, rfl, rfl, evs, ties, lims, rfl, ?_⟩
  show lcW _ _ _ _ _ _ (enumD (ties.map tieD)) _ _
  rw [enum_map]
  refine lcg_map _ (fun p => rowD (tieR p)) trivial ties.zipIdx [] (fun p hp => ⟨_, rfl, fun R' hR => ?_⟩) (by rw [List.length_zipIdx]; simp; omega) fun q hq => ?_
  · walk_at "l3"
    exact ⟨by show 2 ≤ sizeLine; omega, by show 4 ≤ sizeLine; omega, hR⟩
  refine ⟨planF evs ties lims, rfl, rfl, rfl, evs, ties, lims, rfl, _, rfl, ?_⟩
  have e1 : (limK lims).map pairD = lims.map fun p => .tup [.str p.1, .int p.2] := by
    unfold limK; rw [List.map_map]; rfl
  rw [e1]
  refine lcg_map _ (fun p => rowD (limR p)) trivial lims [] (fun p hp => ⟨_, rfl, fun R' hR => ?_⟩) (by simp; omega) ?_
  · walk_at "l3"
    exact ⟨by show 2 ≤ sizeLine; omega, by show 4 ≤ sizeLine; omega, hR⟩
  refine ⟨_, _, mset_same, rfl, by simp; omega, ?_⟩
  unfold t_rows_of_2
  walk_at "l3"
  refine ⟨planF evs ties lims, rfl, rfl, rfl, evs, ties, lims, rfl, ?_⟩
  refine lcg_map _ (fun e => rowD (endR e)) trivial evs [] (fun p hp => ⟨_, rfl, fun R' hR => ?_⟩) (by simp; omega) ?_
  · walk_at "l3"
    exact ⟨by show 2 ≤ sizeLine; omega, by show 4 ≤ sizeLine; omega, hR⟩
  refine ⟨_, _, lst_ref mset_same, rfl, by simp; omega, fin_same (((Le.refl μ).mset hq).mset hq) ?_⟩
  have : (planRows evs ties lims).map rowD = [] ++ ties.zipIdx.map (fun p => rowD (tieR p)) ++ ([] ++ lims.map fun p => rowD (limR p)) ++ ([] ++ evs.map fun e => rowD (endR e)) := by
    unfold planRows
    simp
    rfl
  rw [← this]
  exact h

end C1

namespace C1
open PySem PySem.Spec L2 L3 C2
local macro_rules | `(tactic| walk_at "l3") => `(tactic| simp only [sSeq, sNext, sIf, sRet, sRetN, sSet, sDrop, sSub, sFor, sAsg, sPar2, sPar3, sCont, sFld3, sFld2, sAug, vVar, vC, vNil, vCons, vOp, vB, vChain, vAnd, vOr, vNot, vAndV, vOrV, vNotV, vIf, vUn, vCB, vLst, vTup, vLstT, vCall, vCal, vMak, vMetA, vFld, vSl, vPart, vNoP, vLc, vLcT, vDc, vBM, vBM0, vGet1, vGet2, vItems, vRev, vLRg, vStar, iRg1, iRg2, iRgD, iAny, iEnm, iItm, iVal, vDict0, vDict0T, vDict0N, vDisp, vDispT, vPairs,
  List.getElem?_cons_zero, List.getElem?_cons_succ, List.set_cons_zero, List.set_cons_succ, wipe3, endsOf_rt, endsOf_nx, gLt, gLe, gGt, gGe, L3.gSub, gMul, gMod, gDiv, gPow, g2I, g2I0, gN, gT, gGo, Option.bind_some, gAdd_ii, gAdd_ss, gNeg_i, gMax2_ii, gMin2_ii, gLen_s, gEqS_ii, gEqS_ss, gEqS_bb, gNeS_ii, gNeS_ss, gIsN_n, gNotN_n, gSl_s, isNonD, if_true, if_false, Bool.false_eq_true, Bool.not_true, Bool.not_false])
/-! ### dicts whose keys are pairs of nodes -/
theorem valN_map {k k' : LK} {v : D} : ∀ kvs : List (LK × D), valN (kvs.map fun kv => if kv.1 = k then (kv.1, v) else kv) k' = if k' = k then (valN kvs k).map (fun _ => v) else valN kvs k'
  | [] => by simp [valN]
  | (x, y) :: r => by
    have ih := valN_map (k := k) (k' := k') (v := v) r
    unfold valN at ih ⊢
    rw [List.map_cons, List.find?_cons, List.find?_cons, List.find?_cons]
    by_cases h1 : x = k
    · subst h1
      by_cases h2 : k' = x
      · subst h2; simp
      · have h3 : ¬ x = k' := fun z => h2 z.symm
        simp only [if_true, h3, h2, decide_false, if_false]
        rw [ih, if_neg h2]
    · by_cases h2 : x = k'
      · subst h2
        simp [h1]
      · simp only [h1, h2, if_false, decide_false]
        rw [ih]
theorem valN_put {kvs : List (LK × D)} {k k' : LK} {v : D} : valN (putN kvs k v) k' = if k' = k then some v else valN kvs k' := by
  unfold putN
  split
  · rename_i h
    rw [valN_map]
    obtain ⟨w, e⟩ := Option.isSome_iff_exists.mp h
    rw [e]; rfl
  · rename_i h
    unfold valN at h ⊢
    rw [List.find?_append]
    by_cases q : k' = k
    · subst q
      cases e : kvs.find? fun kv => decide (kv.1 = k') with
      | none => simp
      | some z => rw [e] at h; exact absurd rfl h
    · rw [if_neg q]
      have : ¬ k = k' := fun z => q z.symm
      simp [this]
theorem putN_len {kvs : List (LK × D)} {k : LK} {v : D} : (putN kvs k v).length ≤ kvs.length + 1 := by
  unfold putN
  split
  · rw [List.length_map]; omega
  · rw [List.length_append]; exact Nat.le_refl _
def RepG (kvs : List (LK × D)) (f : Nd → Nd → Option D) : Prop := ∀ a b, valN kvs (lk2 a b) = f a b
theorem RepG.put {kvs : List (LK × D)} {f : Nd → Nd → Option D} (h : RepG kvs f) (a b : Nd) (d : D) : RepG (putN kvs (lk2 a b) d) (fun x z => if x = a ∧ z = b then some d else f x z) := fun x z => by
  rw [valN_put]
  by_cases q : x = a ∧ z = b
  · obtain ⟨rfl, rfl⟩ := q; simp
  · rw [if_neg fun e => q (lk2_inj e)]
    show _ = if x = a ∧ z = b then some d else f x z
    rw [if_neg q]; exact h x z
abbrev LST := LS Nd D
def RepL (kvs : List (LK × D)) (L : Nd → Nd → Option Int) : Prop := RepG kvs fun a b => (L a b).map D.int
structure LsAt (μ0 μ : Mu) (q1 q2 : Addr) (s : LST) (n : Nat) : Prop where
  le : Le μ0 μ
  n1 : μ0 q1 = none
  n2 : μ0 q2 = none
  ne : q1 ≠ q2
  ex : ∃ kl ks, μ q1 = some (.dcn kl) ∧ μ q2 = some (.dcn ks) ∧ RepL kl s.L ∧ RepG ks s.S ∧ kl.length ≤ n ∧ ks.length ≤ n
theorem LsAt.mono {μ0 μ : Mu} {q1 q2 : Addr} {s : LST} {n m : Nat} (h : LsAt μ0 μ q1 q2 s n) (l : n ≤ m) : LsAt μ0 μ q1 q2 s m := by
  obtain ⟨kl, ks, e1, e2, r1, r2, l1, l2⟩ := h.ex
  exact ⟨h.le, h.n1, h.n2, h.ne, kl, ks, e1, e2, r1, r2, Nat.le_trans l1 l, Nat.le_trans l2 l⟩
theorem dic_n {μ : Mu} {q : Addr} {kvs : List (LK × D)} (h : μ q = some (.dcn kvs)) : dicOf μ (.ref q) = some (.n kvs) := by simp only [dicOf, h]
theorem get_n {kl : List (LK × D)} {f : Nd → Nd → Option D} (r : RepG kl f) (a b : Nd) : (Dic.n kl).get (.tup [nodeD a, nodeD b]) = some (f a b) := by
  show (lkOf _).map _ = _
  rw [lkOf_node]
  show some (valN kl (lk2 a b)) = _
  rw [r a b]
theorem relax {Z : Ends3} {δ : St3} {μ0 μ : Mu} {q1 q2 : Addr} {s : LST} {n i j : Nat} {a b : Nd} {w : Int} {y : D} (h : LsAt μ0 μ q1 q2 s n) (hn : n < 100000) (h2 : δ[2]? = some (some (.ref q1))) (h4 : δ[4]? = some (some (.ref q2))) (h5 : δ[5]? = some (some (nodeD a))) (h6 : δ[6]? = some (some (nodeD b)))
    (hi : δ[i]? = some (some (.int w))) (hj : δ[j]? = some (some y)) (k : ∀ μ', LsAt μ0 μ' q1 q2 (rlx s a b w y) (n + 1) → Z.nx δ μ') :
    sIf (vOr (vB (vOp (gIn true) (vTup (vCons (vVar 5) (vCons (vVar 6) vNil))) (vVar 2))) (vB (vOp gLt (vVar i) (vOp gAt (vVar 2) (vTup (vCons (vVar 5) (vCons (vVar 6) vNil))))))) (sSeq (sSub gSet (vVar i) (vVar 2) (vTup (vCons (vVar 5) (vCons (vVar 6) vNil)))) (sSub gSet (vVar j) (vVar 4) (vTup (vCons (vVar 5) (vCons (vVar 6) vNil))))) sNext Z δ μ := by
  have hsl : sizeLine = 16777216 := by decide
  have z2 : ([nodeD a, nodeD b] : List D).length ≤ sizeLine := by rw [hsl]; show 2 ≤ _; decide
  obtain ⟨kl, ks, e1, e2, r1, r2, l1, l2⟩ := h.ex
  have thn : bet (s.L a b) w = true → (sSeq (sSub gSet (vVar i) (vVar 2) (vTup (vCons (vVar 5) (vCons (vVar 6) vNil)))) (sSub gSet (vVar j) (vVar 4) (vTup (vCons (vVar 5) (vCons (vVar 6) vNil))))) Z δ μ := fun hb => by
    simp only [sSeq, sSub, vVar, vTup, vCons, vNil, h2, h4, h5, h6, hi, hj]
    refine ⟨z2, set_n e1 (by omega) (lkOf_node a b) ⟨z2, set_n (by rw [mset_ne (Ne.symm h.ne)]; exact e2) (by omega) (lkOf_node a b) (k _ ?_)⟩⟩
    refine ⟨(h.le.mset h.n1).mset h.n2, h.n1, h.n2, h.ne, _, _, by rw [mset_ne h.ne, mset_same], mset_same, ?_, ?_, Nat.le_trans putN_len (by omega), Nat.le_trans putN_len (by omega)⟩
    · have := RepG.put r1 a b (.int w)
      refine fun x z => ?_
      rw [this x z]
      unfold rlx
      rw [if_pos hb]
      simp only
      split <;> rfl
    · have := r2.put a b y
      refine fun x z => ?_
      rw [this x z]
      unfold rlx
      rw [if_pos hb]
  have els : bet (s.L a b) w = false → Z.nx δ μ := fun hb => k μ (by
    have : rlx s a b w y = s := by unfold rlx; rw [if_neg (by rw [hb]; exact Bool.false_ne_true)]
    rw [this]
    exact h.mono (Nat.le_succ n))
  unfold sIf
  simp only [vOr, vB, vOp, vVar, vTup, vCons, vNil, h2, h5, h6, hi, sNext]
  refine ⟨z2, in_d (dic_n e1) (get_n r1 a b) ?_⟩
  cases hL : s.L a b with
  | none =>
    simp only [Option.map_none, Option.isSome_none, Bool.not_false, if_true]
    exact thn (by rw [hL]; rfl)
  | some v =>
    simp only [Option.map_some, Option.isSome_some, Bool.not_true, if_true, Bool.false_eq_true, if_false]
    refine ⟨z2, at_d (d := .int v) (dic_n e1) (by rw [get_n r1 a b]; simp only [hL]; rfl) ?_⟩
    simp only [gLt, g2I, g2I0]
    by_cases hw : w < v
    · simp only [hw, decide_true, if_true]
      exact thn (by rw [hL]; exact decide_eq_true hw)
    · simp only [hw, decide_false, Bool.false_eq_true, if_false]
      exact els (by rw [hL]; exact decide_eq_false hw)
def fwP (nodes : List Nd) (rows : List RowT) : LST := fw nodeD nodes rows
def sp_leads_of : Sp3 := fun ds μ R => ∃ nodes rows, ds = [.lst (nodes.map nodeD), .lst (rows.map rowD)] ∧ nodes.length ≤ 9 ∧ nodes.Nodup ∧ rows.length ≤ 100 ∧ ∀ kl ks, RepL kl (fwP nodes rows).L → RepG ks (fwP nodes rows).S → R (.tup [.dcn kl, .dcn ks]) μ
def t_leads_of_4 : TS3 := (sRet (vTup (vCons (vVar 2) (vCons (vVar 4) vNil))))
def t_leads_of_3 : TS3 := sSeq (sFor (iAny (vVar 0)) (gN 9) (sFor (iAny (vVar 0)) (gN 5) (sFor (iAny (vVar 0)) (gN 6) (sIf (vAnd (vB (vOp (gIn false) (vTup (vCons (vVar 5) (vCons (vVar 9) vNil))) (vVar 2))) (vB (vOp (gIn false) (vTup (vCons (vVar 9) (vCons (vVar 6) vNil))) (vVar 2)))) (sSeq (sSet 10 (vOp gAdd (vOp gAt (vVar 2) (vTup (vCons (vVar 5) (vCons (vVar 9) vNil)))) (vOp gAt (vVar 2) (vTup (vCons (vVar 9) (vCons (vVar 6) vNil)))))) (sIf (vOr (vB (vOp (gIn true) (vTup (vCons (vVar 5) (vCons (vVar 6) vNil))) (vVar 2))) (vB (vOp gLt (vVar 10) (vOp gAt (vVar 2) (vTup (vCons (vVar 5) (vCons (vVar 6) vNil))))))) (sSeq (sSub gSet (vVar 10) (vVar 2) (vTup (vCons (vVar 5) (vCons (vVar 6) vNil)))) (sSub gSet (vVar 9) (vVar 4) (vTup (vCons (vVar 5) (vCons (vVar 6) vNil))))) sNext)) sNext)))) t_leads_of_4
def t_leads_of_2 : TS3 := sSeq (sFor (iAny (vVar 1)) (gT [(gN 5), (gN 6), (gN 7), (gN 8)]) (sIf (vOr (vB (vOp (gIn true) (vTup (vCons (vVar 5) (vCons (vVar 6) vNil))) (vVar 2))) (vB (vOp gLt (vVar 7) (vOp gAt (vVar 2) (vTup (vCons (vVar 5) (vCons (vVar 6) vNil))))))) (sSeq (sSub gSet (vVar 7) (vVar 2) (vTup (vCons (vVar 5) (vCons (vVar 6) vNil)))) (sSub gSet (vVar 8) (vVar 4) (vTup (vCons (vVar 5) (vCons (vVar 6) vNil))))) sNext)) t_leads_of_3
def t_leads_of_1 : TS3 := sSeq (sSet 4 vDict0N) t_leads_of_2
def t_leads_of : TS3 := sSeq (sSet 2 (vDc true true (iAny (vVar 0)) (gN 3) vYes (vTup (vCons (vVar 3) (vCons (vVar 3) vNil))) (vC (.int 0)) [3])) t_leads_of_1
theorem row0_dc {Pm : Mu → Prop} {μ : Mu} {δ : St3} {R : Dic → Mu → Prop} (hP : Pm μ) (hl : 3 < δ.length) (nodes : List Nd) (hn : nodes.length ≤ 9) (k : ∀ kl, RepL kl (row0 nodes : LST).L → kl.length ≤ 9 → R (.n kl) μ) : ∀ (todo done : List Nd) (kl : List (LK × D)), done ++ todo = nodes → RepL kl (row0 done : LST).L → kl.length ≤ done.length →
    dcW Pm (gN 3) vYes (vTup (vCons (vVar 3) (vCons (vVar 3) vNil))) (vC (.int 0)) δ R (todo.map nodeD) (.n kl) μ
  | [], done, kl, e, r, l => ⟨hP, k kl (by rw [← e, List.append_nil]; exact r) (by rw [← e, List.append_nil] at hn; omega)⟩
  | a :: t, done, kl, e, r, l => by
    have hsl : sizeLine = 16777216 := by decide
    have hd : done.length ≤ nodes.length := by rw [← e, List.length_append]; omega
    have e1 : (δ.set 3 (some (nodeD a)))[3]? = some (some (nodeD a)) := by simp [hl]
    refine ⟨hP, by show kl.length < _; omega, ?_⟩
    simp only [gN, vYes, if_true, vTup, vCons, vVar, vNil, vC, e1]
    refine ⟨by rw [hsl]; show 2 ≤ _; decide, .n (putN kl (lk2 a a) (.int 0)), ?_, ?_⟩
    · show (lkOf _).map _ = _
      rw [lkOf_node]; rfl
    · refine row0_dc hP hl nodes hn k t (done ++ [a]) _ (by rw [← e]; simp) (fun x z => ?_) (Nat.le_trans putN_len (by simp; omega))
      rw [RepG.put r a a (.int 0) x z]
      unfold row0
      simp only
      by_cases q : x = a ∧ z = a
      · obtain ⟨rfl, rfl⟩ := q
        simp
      · rw [if_neg q]
        have : (x = z ∧ x ∈ done ++ [a]) ↔ (x = z ∧ x ∈ done) := by
          constructor
          · rintro ⟨rfl, h⟩
            refine ⟨rfl, ?_⟩
            rcases List.mem_append.mp h with h | h
            · exact h
            · exact absurd ⟨List.mem_singleton.mp h, List.mem_singleton.mp h⟩ q
          · rintro ⟨h1, h2⟩; exact ⟨h1, List.mem_append_left _ h2⟩
        by_cases q2 : x = z ∧ x ∈ done
        · rw [if_pos q2, if_pos (this.mpr q2)]
        · rw [if_neg q2, if_neg fun c => q2 (this.mp c)]
theorem take_snoc {α : Type} {xs : List α} {k : Nat} {x : α} (h : xs[k]? = some x) : xs.take (k + 1) = xs.take k ++ [x] := by
  rw [List.take_succ, h]; rfl
theorem map_at {α : Type} {f : α → D} {xs : List α} {k : Nat} {d : D} (h : (xs.map f)[k]? = some d) : ∃ x, xs[k]? = some x ∧ d = f x := by
  rw [List.getElem?_map] at h
  obtain ⟨x, e, rfl⟩ := Option.map_eq_some_iff.mp h
  exact ⟨x, e, rfl⟩
theorem lt_at {α : Type} {xs : List α} {k : Nat} {x : α} (h : xs[k]? = some x) : k < xs.length := (List.getElem?_eq_some_iff.mp h).1
theorem pure_leads_of (ds : List D) (μ : Mu) (R : DK) (hl : ds.length = 2) (h : sp_leads_of ds μ R) : t_leads_of (endsOf R) (start3 ["nodes", "rows", "leads", "node", "steps", "earlier", "later", "lag", "name", "middle", "lead"] ds) μ := by
  obtain ⟨nodes, rows, rfl, hn, nd, hr, h⟩ := h
  have hsl : sizeLine = 16777216 := by decide
  show t_leads_of (endsOf R) [some (.lst (nodes.map nodeD)), some (.lst (rows.map rowD)), none, none, none, none, none, none, none, none, none] μ
  unfold t_leads_of t_leads_of_1
  walk_at "l3"
  refine row0_dc trivial (by show 3 < 11; decide) nodes hn (fun kl r l q1 n1 => ?_) nodes [] [] rfl (fun a b => by simp [row0, valN]) (Nat.zero_le _)
  intro q2 n2'
  have ne : q1 ≠ q2 := by
    rintro rfl
    rw [mset_same] at n2'
    cases n2'
  have n2 : μ q2 = none := by rw [mset_ne (Ne.symm ne)] at n2'; exact n2'
  have L0 : LsAt μ (mset (mset μ q1 (.dcn kl)) q2 (.dcn [])) q1 q2 (row0 nodes) 9 := ⟨((Le.refl μ).mset n1).mset n2, n1, n2, ne, kl, [], by rw [mset_ne ne, mset_same], mset_same, r, fun a b => rfl, l, Nat.zero_le _⟩
  unfold t_leads_of_2
  walk_at "l3"
  refine for_ix (rows.map rowD) (fun k δ μ' => LsAt μ μ' q1 q2 (rlxR (rows.take k) (row0 nodes)) (9 + k) ∧ ∃ y5 y6 y7 y8, δ = [some (.lst (nodes.map nodeD)), some (.lst (rows.map rowD)), some (.ref q1), none, some (.ref q2), y5, y6, y7, y8, none, none]) ⟨L0, none, none, none, none, rfl⟩ ?_ ?_
  · rintro δ μ1 ⟨L1, y5, y6, y7, y8, rfl⟩
    rw [List.length_map, List.take_length] at L1
    have L1 := L1.mono (m := 109) (by omega)
    refine ⟨trivial, ?_⟩
    unfold t_leads_of_3
    walk_at "l3"
    refine for_ix (nodes.map nodeD) (fun k δ μ' => LsAt μ μ' q1 q2 (fwM nodeD nodes (nodes.take k) (rlxR rows (row0 nodes))) (109 + 81 * k) ∧ ∃ y5 y6 y9 y10, δ = [some (.lst (nodes.map nodeD)), some (.lst (rows.map rowD)), some (.ref q1), none, some (.ref q2), y5, y6, y7, y8, y9, y10]) ⟨L1, _, _, _, _, rfl⟩ ?_ ?_
    · rintro δ μ2 ⟨L2, y5, y6, y9, y10, rfl⟩
      rw [List.length_map, List.take_length] at L2
      refine ⟨trivial, ?_⟩
      obtain ⟨kl, ks, e1, e2, r1, r2, l1, l2⟩ := L2.ex
      unfold t_leads_of_4
      walk_at "l3"
      exact ⟨by rw [hsl]; show 2 ≤ _; decide, _, μ, L2.le, .inT (.cons (.dcn e1 n1 (Frn.same kl)) (.cons (.dcn e2 n2 (Frn.same ks)) .nil)), h kl ks r1 r2⟩
    · rintro k d δ μ2 hd ⟨L2, y5, y6, y9, y10, rfl⟩
      obtain ⟨m, em, rfl⟩ := map_at hd
      have km := lt_at em
      refine ⟨trivial, _, rfl, fun N hN => ?_⟩
      walk_at "l3"
      refine for_ix (nodes.map nodeD) (fun i δ μ' => LsAt μ μ' q1 q2 (fwA nodeD m nodes (nodes.take i) (fwM nodeD nodes (nodes.take k) (rlxR rows (row0 nodes)))) (109 + 81 * k + 9 * i) ∧ ∃ y5 y6 y10, δ = [some (.lst (nodes.map nodeD)), some (.lst (rows.map rowD)), some (.ref q1), none, some (.ref q2), y5, y6, y7, y8, some (nodeD m), y10]) ⟨L2, _, _, _, rfl⟩ ?_ ?_
      · rintro δ μ3 ⟨L3, y5, y6, y10, rfl⟩
        rw [List.length_map, List.take_length] at L3
        refine ⟨trivial, hN _ _ ⟨?_, _, _, _, _, rfl⟩⟩
        rw [take_snoc em]
        unfold fwM
        rw [List.foldl_append]
        exact L3.mono (by omega)
      · rintro i d δ μ3 hd ⟨L3, y5, y6, y10, rfl⟩
        obtain ⟨a, ea, rfl⟩ := map_at hd
        have ka := lt_at ea
        refine ⟨trivial, _, rfl, fun N hN => ?_⟩
        walk_at "l3"
        refine for_ix (nodes.map nodeD) (fun j δ μ' => LsAt μ μ' q1 q2 (fwB nodeD m a (nodes.take j) (fwA nodeD m nodes (nodes.take i) (fwM nodeD nodes (nodes.take k) (rlxR rows (row0 nodes))))) (109 + 81 * k + 9 * i + j) ∧ ∃ y6 y10, δ = [some (.lst (nodes.map nodeD)), some (.lst (rows.map rowD)), some (.ref q1), none, some (.ref q2), some (nodeD a), y6, y7, y8, some (nodeD m), y10]) ⟨L3, _, _, rfl⟩ ?_ ?_
        · rintro δ μ4 ⟨L4, y6, y10, rfl⟩
          rw [List.length_map, List.take_length] at L4
          refine ⟨trivial, hN _ _ ⟨?_, _, _, _, rfl⟩⟩
          rw [take_snoc ea]
          unfold fwA
          rw [List.foldl_append]
          exact L4.mono (by omega)
        · rintro j d δ μ4 hd ⟨L4, y6, y10, rfl⟩
          obtain ⟨b, eb, rfl⟩ := map_at hd
          have kb := lt_at eb
          refine ⟨trivial, _, rfl, fun N hN => ?_⟩
          have z2 : ∀ x y : D, ([x, y] : List D).length ≤ sizeLine := fun x y => by rw [hsl]; show 2 ≤ _; decide
          obtain ⟨kl, ks, e1, e2, r1, r2, l1, l2⟩ := L4.ex
          generalize hs : fwB nodeD m a (nodes.take j) (fwA nodeD m nodes (nodes.take i) (fwM nodeD nodes (nodes.take k) (rlxR rows (row0 nodes)))) = s at L4 r1 r2
          have goal : ∀ y10 μ', LsAt μ μ' q1 q2 (fwS nodeD m s a b) (109 + 81 * k + 9 * i + (j + 1)) → N [some (.lst (nodes.map nodeD)), some (.lst (rows.map rowD)), some (.ref q1), none, some (.ref q2), some (nodeD a), some (nodeD b), y7, y8, some (nodeD m), y10] μ' := fun y10 μ' L => by
            refine hN _ _ ⟨?_, _, _, rfl⟩
            rw [take_snoc eb]
            unfold fwB
            rw [List.foldl_append]
            show LsAt μ μ' q1 q2 (fwS nodeD m (fwB nodeD m a (nodes.take j) _) a b) _
            rw [hs]
            exact L
          unfold sIf
          simp only [vAnd]
          walk_at "l3"
          refine ⟨z2 _ _, in_d (dic_n e1) (get_n r1 a m) ?_⟩
          unfold fwS at goal
          cases h1 : s.L a m with
          | none =>
            simp only [Option.map_none, Option.isSome_none, Bool.false_eq_true, if_false]
            simp only [h1] at goal
            exact goal _ _ (L4.mono (by omega))
          | some u =>
            simp only [Option.map_some, Option.isSome_some, Bool.false_eq_true, if_false, if_true]
            refine ⟨z2 _ _, in_d (dic_n e1) (get_n r1 m b) ?_⟩
            cases h2 : s.L m b with
            | none =>
              simp only [Option.map_none, Option.isSome_none, Bool.false_eq_true, if_false]
              simp only [h1, h2] at goal
              exact goal _ _ (L4.mono (by omega))
            | some v =>
              simp only [Option.map_some, Option.isSome_some, Bool.false_eq_true, if_false, if_true]
              simp only [h1, h2] at goal
              refine ⟨z2 _ _, at_d (d := .int u) (dic_n e1) (by rw [get_n r1 a m]; simp only [h1]; rfl) ⟨z2 _ _, at_d (d := .int v) (dic_n e1) (by rw [get_n r1 m b]; simp only [h2]; rfl) ?_⟩⟩
              walk_at "l3"
              exact relax (Z := { endsOf R with nx := N }) (δ := [some (.lst (nodes.map nodeD)), some (.lst (rows.map rowD)), some (.ref q1), none, some (.ref q2), some (nodeD a), some (nodeD b), y7, y8, some (nodeD m), some (.int (u + v))]) (i := 10) (j := 9) L4 (by omega) rfl rfl rfl rfl rfl rfl fun μ' L => goal _ _ (L.mono (by omega))
  · rintro k d δ μ1 hd ⟨L1, y5, y6, y7, y8, rfl⟩
    obtain ⟨r, er, rfl⟩ := map_at hd
    have kr := lt_at er
    refine ⟨trivial, _, rfl, fun N hN => ?_⟩
    refine relax (i := 7) (j := 8) L1 (by omega) rfl rfl rfl rfl rfl rfl fun μ' L => hN _ _ ⟨?_, _, _, _, _, rfl⟩
    rw [take_snoc er]
    unfold rlxR
    rw [List.foldl_append]
    exact L

end C1

namespace C1
open PySem PySem.Spec L2 L3 C2
local macro_rules | `(tactic| walk_at "l3") => `(tactic| simp only [sSeq, sNext, sIf, sRet, sRetN, sSet, sDrop, sSub, sFor, sAsg, sPar2, sPar3, sCont, sFld3, sFld2, sAug, vVar, vC, vNil, vCons, vOp, vB, vChain, vAnd, vOr, vNot, vAndV, vOrV, vNotV, vIf, vUn, vCB, vLst, vTup, vLstT, vCall, vCal, vMak, vMetA, vFld, vSl, vPart, vNoP, vLc, vLcT, vDc, vBM, vBM0, vGet1, vGet2, vItems, vRev, vLRg, vStar, iRg1, iRg2, iRgD, iAny, iEnm, iItm, iVal, vDict0, vDict0T, vDict0N, vDisp, vDispT, vPairs,
  List.getElem?_cons_zero, List.getElem?_cons_succ, List.set_cons_zero, List.set_cons_succ, wipe3, endsOf_rt, endsOf_nx, gLt, gLe, gGt, gGe, L3.gSub, gMul, gMod, gDiv, gPow, g2I, g2I0, gN, gT, gGo, Option.bind_some, gAdd_ii, gAdd_ss, gNeg_i, gMax2_ii, gMin2_ii, gLen_s, gEqS_ii, gEqS_ss, gEqS_bb, gNeS_ii, gNeS_ss, gIsN_n, gNotN_n, gSl_s, isNonD, if_true, if_false, Bool.false_eq_true, Bool.not_true, Bool.not_false])
/-! ### tables -/
def plNodes (evs : List Str) : List Nd := none :: evs.map some
def plT (evs : List Str) (ties : List Tie) (lims : Lims) : LST := fwP (plNodes evs) (planRows evs ties lims)
structure TabOk (evs : List Str) (ties : List Tie) (lims : Lims) (kl ks : List (LK × D)) : Prop where
  l : RepL kl (plT evs ties lims).L
  s : RepG ks (plT evs ties lims).S
def tabF (evs : List Str) (kl ks : List (LK × D)) : List (Str × D) := [("row_of_events", .lst (sds evs)), ("leads", .dcn kl), ("steps", .dcn ks)]
def tabD (evs : List Str) (kl ks : List (LK × D)) : D := .obj "Table" (tabF evs kl ks)
theorem nodes_nodup {evs : List Str} (ok : EvOk evs) : (plNodes evs).Nodup := by
  unfold plNodes
  refine List.nodup_cons.mpr ⟨fun h => ?_, ?_⟩
  · obtain ⟨e, _, q⟩ := List.mem_map.mp h
    cases q
  · refine List.Pairwise.map _ (fun a b h => ?_) ok.nd
    exact fun q => h (Option.some.inj q)
theorem nodes_len {evs : List Str} (ok : EvOk evs) : (plNodes evs).length ≤ 9 := by
  have := ok.le
  simp [plNodes]; omega
theorem rows_len {evs : List Str} {ties : List Tie} {lims : Lims} (ok : PlOk evs ties lims) : (planRows evs ties lims).length ≤ 100 := by
  have := ok.e.le
  have := ok.t.le
  have := lims_len ok.l
  simp [planRows, List.length_zipIdx]; omega
theorem nodes_map (evs : List Str) : (plNodes evs).map nodeD = .non :: sds evs := by
  simp [plNodes, sds, nodeD]
def sp_Table___init__ : Sp3 := fun ds μ R => ∃ q evs ties lims, ds = [.ref q, planD evs ties lims] ∧ μ q = some (.ins "Table" []) ∧ PlOk evs ties lims ∧ ∀ kl ks, TabOk evs ties lims kl ks → R .non (mset μ q (.ins "Table" (tabF evs kl ks)))
def t_Table___init___2 : TS3 := (sFld2 "Table" "leads" "steps" (vCall 2 sp_leads_of (vCons (vLst (vCons (vC .non) (vStar (vFld "Table" "row_of_events" (vVar 0)) vNil))) (vCons (vCall 1 sp_rows_of (vCons (vVar 1) vNil)) vNil))) (vVar 0) (vVar 0))
def t_Table___init___1 : TS3 := sSeq (sFld3 "Table" "row_of_events" (vMetA "Plan" "events" 0 sp_Plan_events (vVar 1) vNil) (vVar 0)) t_Table___init___2
def t_Table___init__ : TS3 := sSeq (sDrop (vCall 1 sp_need_plan (vCons (vVar 1) vNil))) t_Table___init___1
theorem pure_Table___init__ (ds : List D) (μ : Mu) (R : DK) (hl : ds.length = 2) (h : sp_Table___init__ ds μ R) : t_Table___init__ (endsOf R) (start3 ["self", "plan"] ds) μ := by
  obtain ⟨q, evs, ties, lims, rfl, hq, ok, h⟩ := h
  have hsl : sizeLine = 16777216 := by decide
  show t_Table___init__ (endsOf R) [some (.ref q), some (planD evs ties lims)] μ
  unfold t_Table___init__ t_Table___init___1
  walk_at "l3"
  refine ⟨rfl, evs, ties, lims, rfl, planF evs ties lims, rfl, rfl, rfl, evs, ties, lims, rfl, q, [], rfl, hq, by decide, ?_⟩
  unfold t_Table___init___2
  walk_at "l3"
  refine ⟨[("row_of_events", .lst (sds evs))], .lst (sds evs), ?_, rfl, _, rfl, ?_, ?_⟩
  · simp only [insOf, mset_same, if_true]; rfl
  · have := ok.e.le
    simp [sds]; omega
  refine ⟨rfl, evs, ties, lims, rfl, ok, rfl, plNodes evs, planRows evs ties lims, ?_, nodes_len ok.e, nodes_nodup ok.e, rows_len ok, fun kl ks r1 r2 => ?_⟩
  · rw [nodes_map]; simp
  refine ⟨_, _, rfl, q, _, rfl, mset_same, Nat.lt_of_le_of_lt (putFD_len _ _ _) (by decide), ?_⟩
  refine ⟨q, _, rfl, mset_same, Nat.lt_of_le_of_lt (putFD_len _ _ _) (Nat.lt_of_le_of_lt (Nat.succ_le_succ (putFD_len _ _ _)) (by decide)), ?_⟩
  rw [mset_mset, mset_mset]
  exact fin_now (h kl ks ⟨r1, r2⟩)
def optD (o : Option Int) : D := (o.map D.int).getD .non
theorem optD_non (o : Option Int) : isNonD (optD o) = !o.isSome := by cases o <;> rfl
def sp_Table_most : Sp3 := fun ds μ R => ∃ evs ties lims kl ks e, ds = [tabD evs kl ks, .str e] ∧ EvOk evs ∧ TabOk evs ties lims kl ks ∧ e ∈ evs ∧ R (optD ((plT evs ties lims).L none (some e))) μ
def t_Table_most_1 : TS3 := (sRet (vGet1 (vFld "Table" "leads" (vVar 0)) (vTup (vCons (vC .non) (vCons (vVar 1) vNil)))))
def t_Table_most : TS3 := sSeq (sDrop (vCall 2 sp_need_event (vCons (vFld "Table" "row_of_events" (vVar 0)) (vCons (vVar 1) vNil)))) t_Table_most_1
theorem pure_Table_most (ds : List D) (μ : Mu) (R : DK) (hl : ds.length = 2) (h : sp_Table_most ds μ R) : t_Table_most (endsOf R) (start3 ["self", "event"] ds) μ := by
  obtain ⟨evs, ties, lims, kl, ks, e, rfl, ok, tk, he, h⟩ := h
  have hsl : sizeLine = 16777216 := by decide
  show t_Table_most (endsOf R) [some (tabD evs kl ks), some (.str e)] μ
  unfold t_Table_most t_Table_most_1
  walk_at "l3"
  refine ⟨tabF evs kl ks, .lst (sds evs), rfl, rfl, rfl, _, evs, e, rfl, rfl, ok, he, tabF evs kl ks, .dcn kl, rfl, rfl, rfl, by rw [hsl]; show 2 ≤ _; decide, .n kl, _, rfl, get_n tk.l none (some e), fin_now h⟩
def sp_Table_lead : Sp3 := fun ds μ R => ∃ evs ties lims kl ks a b, ds = [tabD evs kl ks, .str a, .str b] ∧ EvOk evs ∧ TabOk evs ties lims kl ks ∧ a ∈ evs ∧ b ∈ evs ∧ R (optD ((plT evs ties lims).L (some a) (some b))) μ
def t_Table_lead_2 : TS3 := (sRet (vGet1 (vFld "Table" "leads" (vVar 0)) (vTup (vCons (vVar 1) (vCons (vVar 2) vNil)))))
def t_Table_lead_1 : TS3 := sSeq (sDrop (vCall 2 sp_need_event (vCons (vFld "Table" "row_of_events" (vVar 0)) (vCons (vVar 2) vNil)))) t_Table_lead_2
def t_Table_lead : TS3 := sSeq (sDrop (vCall 2 sp_need_event (vCons (vFld "Table" "row_of_events" (vVar 0)) (vCons (vVar 1) vNil)))) t_Table_lead_1
theorem pure_Table_lead (ds : List D) (μ : Mu) (R : DK) (hl : ds.length = 3) (h : sp_Table_lead ds μ R) : t_Table_lead (endsOf R) (start3 ["self", "earlier", "later"] ds) μ := by
  obtain ⟨evs, ties, lims, kl, ks, a, b, rfl, ok, tk, ha, hb, h⟩ := h
  have hsl : sizeLine = 16777216 := by decide
  show t_Table_lead (endsOf R) [some (tabD evs kl ks), some (.str a), some (.str b)] μ
  unfold t_Table_lead t_Table_lead_1 t_Table_lead_2
  walk_at "l3"
  refine ⟨tabF evs kl ks, .lst (sds evs), rfl, rfl, rfl, _, evs, a, rfl, rfl, ok, ha, tabF evs kl ks, .lst (sds evs), rfl, rfl, rfl, _, evs, b, rfl, rfl, ok, hb, ?_⟩
  exact ⟨tabF evs kl ks, .dcn kl, rfl, rfl, rfl, by rw [hsl]; show 2 ≤ _; decide, .n kl, _, rfl, get_n tk.l (some a) (some b), fin_now h⟩
/-! ### what a lead is -/
theorem plan_isD {evs : List Str} {ties : List Tie} {lims : Lims} (ok : PlOk evs ties lims) {a b : Nd} (ha : a ∈ plNodes evs) (hb : b ∈ plNodes evs) : IsD ((planRows evs ties lims).map (·.1)) a b ((plT evs ties lims).L a b) := by
  have ev : ∀ e ∈ evs, some e ∈ plNodes evs := fun e he => List.mem_cons_of_mem _ (List.mem_map.mpr ⟨e, he, rfl⟩)
  have n0 : none ∈ plNodes evs := List.mem_cons_self
  have key : ∀ r ∈ planRows evs ties lims, 0 ≤ r.1.2.2 ∧ r.1.1 ∈ plNodes evs ∧ r.1.2.1 ∈ plNodes evs := fun r hr => by
    unfold planRows at hr
    rcases List.mem_append.mp hr with hr | hr
    · rcases List.mem_append.mp hr with hr | hr
      · obtain ⟨p, hp, rfl⟩ := List.mem_map.mp hr
        have hm : p.1 ∈ ties := by
          have := List.mem_zipIdx hp
          rw [this.2.2]; exact List.getElem_mem _
        exact ⟨ok.t.c _ hm, ev _ (ok.t.a _ hm), ev _ (ok.t.b _ hm)⟩
      · obtain ⟨p, hp, rfl⟩ := List.mem_map.mp hr
        exact ⟨ok.l.c _ hp, n0, ev _ (ok.l.a _ hp)⟩
    · obtain ⟨e, he, rfl⟩ := List.mem_map.mp hr
      exact ⟨Int.le_refl _, ev e he, n0⟩
  exact fw_isD (fun r hr => (key r hr).1) (fun r hr => (key r hr).2) ha hb
theorem mem_rows {evs : List Str} {ties : List Tie} {lims : Lims} {r : Nd × Nd × Int} : r ∈ (planRows evs ties lims).map (·.1) ↔ (∃ t ∈ ties, r = (some t.1, some t.2.1, t.2.2)) ∨ (∃ p ∈ lims, r = (none, some p.1, p.2)) ∨ ∃ e ∈ evs, r = (some e, none, 0) := by
  unfold planRows
  rw [List.map_append, List.map_append, List.mem_append, List.mem_append, List.map_map, List.map_map, List.map_map, or_assoc]
  refine or_congr ?_ (or_congr ?_ ?_)
  · constructor
    · intro h
      obtain ⟨p, hp, rfl⟩ := List.mem_map.mp h
      have hm : p.1 ∈ ties := by
        have := List.mem_zipIdx hp
        rw [this.2.2]; exact List.getElem_mem _
      exact ⟨p.1, hm, rfl⟩
    · rintro ⟨t, ht, rfl⟩
      obtain ⟨i, hi, e⟩ := List.getElem_of_mem ht
      refine List.mem_map.mpr ⟨(t, i), ?_, rfl⟩
      rw [List.mk_mem_zipIdx_iff_getElem?]
      exact List.getElem?_eq_some_iff.mpr ⟨hi, e⟩
  · constructor
    · intro h
      obtain ⟨p, hp, rfl⟩ := List.mem_map.mp h
      exact ⟨p, hp, rfl⟩
    · rintro ⟨p, hp, rfl⟩
      exact List.mem_map.mpr ⟨p, hp, rfl⟩
  · constructor
    · intro h
      obtain ⟨p, hp, rfl⟩ := List.mem_map.mp h
      exact ⟨p, hp, rfl⟩
    · rintro ⟨p, hp, rfl⟩
      exact List.mem_map.mpr ⟨p, hp, rfl⟩

end C1

namespace C1
open PySem PySem.Spec L2 L3 C2
local macro_rules | `(tactic| walk_at "l3") => `(tactic| simp only [sSeq, sNext, sIf, sRet, sRetN, sSet, sDrop, sSub, sFor, sAsg, sPar2, sPar3, sCont, sFld3, sFld2, sAug, vVar, vC, vNil, vCons, vOp, vB, vChain, vAnd, vOr, vNot, vAndV, vOrV, vNotV, vIf, vUn, vCB, vLst, vTup, vLstT, vCall, vCal, vMak, vMetA, vFld, vSl, vPart, vNoP, vLc, vLcT, vDc, vBM, vBM0, vGet1, vGet2, vItems, vRev, vLRg, vStar, iRg1, iRg2, iRgD, iAny, iEnm, iItm, iVal, vDict0, vDict0T, vDict0N, vDisp, vDispT, vPairs,
  List.getElem?_cons_zero, List.getElem?_cons_succ, List.set_cons_zero, List.set_cons_succ, wipe3, endsOf_rt, endsOf_nx, gLt, gLe, gGt, gGe, L3.gSub, gMul, gMod, gDiv, gPow, g2I, g2I0, gN, gT, gGo, Option.bind_some, gAdd_ii, gAdd_ss, gNeg_i, gMax2_ii, gMin2_ii, gLen_s, gEqS_ii, gEqS_ss, gEqS_bb, gNeS_ii, gNeS_ss, gIsN_n, gNotN_n, gSl_s, isNonD, if_true, if_false, Bool.false_eq_true, Bool.not_true, Bool.not_false])
/-! ### the laws' own helpers -/
def bigB : Nat := 1000000000
/-- a def ends: what it made is forgotten, but for its answer -/
theorem fin_boxL {b q : Addr} {n : Nat} {μ μ' : Mu} {R : DK} {xs : List D} (s : Keeps b μ μ') (bx : Box μ' b n) (e : μ' q = some (.lst xs)) (nq : μ q = none) (nb : q ≠ b) (h : ∀ μ2, Onl b μ μ2 → Box μ2 b n → R (.lst xs) μ2) : fin R (.ref q) μ' := by
  refine ⟨.lst xs, fun a => if a = b then μ' b else μ a, fun a o e => ?_, .lst e (by simp [nb, nq]) (Frs.same xs), h _ (fun a ha => if_neg ha) ?_⟩
  · by_cases ha : a = b
    · subst ha; simpa using e
    · exact s a o ha (by simpa [ha] using e)
  · obtain ⟨c0, c1, c2, e, k⟩ := bx
    exact ⟨c0, c1, c2, by simp only [if_true]; exact e, k⟩
theorem onl_at {b q : Addr} {μ μ' : Mu} {o : MO} (h : Onl b μ μ') (nb : q ≠ b) (e : μ q = some o) : μ' q = some o := by rw [h q nb]; exact e
theorem lst_onl {b : Addr} {μ μ' : Mu} {n : Nat} (h : Onl b μ μ') {x : D} {xs : List D} (bx : x ≠ .ref b) (e : lstOf μ x = some xs) : lstOf μ' x = some xs := by
  cases x with
  | lst ys => exact e
  | ref a => exact lst_ref (onl_at h (fun q => bx (by rw [q])) (ref_lst e))
  | _ => cases e
theorem perm_sds {ys : List D} {l : List Str} (h : ys.Perm (sds l)) : ∃ l', ys = sds l' ∧ l'.Perm l := by
  have key : ∀ {xs ys : List D}, xs.Perm ys → ∀ l, ys = sds l → ∃ l', xs = sds l' ∧ l'.Perm l := fun {xs ys} h => by
    induction h with
    | nil =>
      intro l e
      cases l with
      | nil => exact ⟨[], rfl, List.Perm.refl _⟩
      | cons a r => cases e
    | cons x _ ih =>
      intro l e
      cases l with
      | nil => cases e
      | cons a r =>
        obtain ⟨rfl, rfl⟩ := List.cons.inj e
        obtain ⟨l', rfl, p⟩ := ih r rfl
        exact ⟨a :: l', rfl, p.cons a⟩
    | swap x y t =>
      intro l e
      cases l with
      | nil => cases e
      | cons a r =>
        cases r with
        | nil => cases e
        | cons c r =>
          obtain ⟨rfl, e2⟩ := List.cons.inj (show x :: y :: t = .str a :: .str c :: sds r from e)
          obtain ⟨rfl, rfl⟩ := List.cons.inj e2
          exact ⟨c :: a :: r, rfl, List.Perm.swap _ _ _⟩
    | trans _ _ ih1 ih2 =>
      intro l e
      obtain ⟨l2, e2, p2⟩ := ih2 l e
      obtain ⟨l3, e3, p3⟩ := ih1 l2 e2
      exact ⟨l3, e3, p3.trans p2⟩
  exact key h l rfl
theorem erase_perm {xs : List D} : ∀ {k : Nat} {d : D}, xs[k]? = some d → (d :: xs.eraseIdx k).Perm xs := by
  induction xs with
  | nil => intro k d h; cases h
  | cons a r ih =>
    intro k d h
    cases k with
    | zero => cases h; exact List.Perm.refl _
    | succ k =>
      have := ih (k := k) (d := d) (by simpa using h)
      exact (List.Perm.swap _ _ _).trans (this.cons a)
def sp__law_mixed : Sp3 := fun ds μ R => ∃ b n x xs, ds = [.ref b, x] ∧ Box μ b n ∧ n < bigB ∧ lstOf μ x = some xs ∧ x ≠ .ref b ∧ xs.length ≤ 100 ∧ ∀ ys μ', ys.Perm xs → Onl b μ μ' → Box μ' b (n + xs.length) → R (.lst ys) μ'
def t__law_mixed_1 : TS3 := (sRet (vLc (iRg1 (vCons (vCB gLen (vCons (vVar 1) vNil)) vNil)) (gN 3) vYes (vBM "list" gPopAt (vVar 2) (vCons (vCall 2 sp__law_take (vCons (vVar 0) (vCons (vCB gLen (vCons (vVar 2) vNil)) vNil))) vNil)) [3]))
def t__law_mixed : TS3 := sSeq (sSet 2 (vCB gListT (vCons (vVar 1) vNil))) t__law_mixed_1
theorem pure__law_mixed (ds : List D) (μ : Mu) (R : DK) (hl : ds.length = 2) (h : sp__law_mixed ds μ R) : t__law_mixed (endsOf R) (start3 ["_law_box_here", "_law_some", "_law_left", "_law_k"] ds) μ := by
  obtain ⟨b, n, x, xs, rfl, bx, hn, hx, hxb, hlen, h⟩ := h
  have hsl : sizeLine = 16777216 := by decide
  unfold bigB at hn
  show t__law_mixed (endsOf R) [some (.ref b), some x, none, none] μ
  unfold t__law_mixed t__law_mixed_1
  walk_at "l3"
  refine ⟨x, xs, rfl, seq_lst hx, fun q hq => ?_⟩
  obtain ⟨_, nqb⟩ := (Keeps.refl b μ).fresh bx hq
  have hx1 : lstOf (mset μ q (.lst xs)) x = some xs := by
    cases x with
    | lst ys => exact hx
    | ref a =>
      have ha := ref_lst hx
      refine lst_ref ?_
      rw [mset_ne, ha]
      rintro rfl
      rw [hq] at ha; cases ha
    | _ => cases hx
  refine len_lst hx1 ?_
  walk_at "l3"
  refine ⟨by omega, by omega, ?_⟩
  have e0 : ((xs.length : Nat) : Int).toNat = xs.length := by simp
  rw [e0]
  refine lc_rg (by omega) (fun k acc μ' => acc.length = k ∧ Keeps b μ μ' ∧ Box μ' b (n + k) ∧ ∃ left, μ' q = some (.lst left) ∧ (acc ++ left).Perm xs) ⟨rfl, (Keeps.refl b μ).put hq, bx.put nqb, xs, mset_same, List.Perm.refl _⟩ (fun k acc μ' w => w.1) ?_ ?_
  · rintro acc μ' ⟨ha, kp, bx', left, e, p⟩
    have hl0 : left = [] := by
      have := p.length_eq
      rw [List.length_append, ha] at this
      exact List.eq_nil_of_length_eq_zero (by omega)
    subst hl0
    rw [List.append_nil] at p
    exact fin_box kp bx' fun μ2 o bx2 => h acc μ2 p o bx2
  · rintro k acc μ' hk ⟨ha, kp, bx', left, e, p⟩ N hN
    have hll : left.length = xs.length - k := by
      have := p.length_eq
      rw [List.length_append, ha] at this
      omega
    walk_at "l3"
    refine ⟨.inl ⟨rfl, left, e⟩, ?_⟩
    refine gLen_of (xs := left) (by simp only [seqOf, e]) ?_
    refine ⟨rfl, b, left.length, n + k, rfl, bx', by omega, by omega, by omega, fun r μ2 r0 r1 o bx2 => ?_⟩
    have e2 := onl_at o nqb e
    have hr : r.toNat < left.length := by omega
    refine ⟨q, left, r, r.toNat, left[r.toNat], rfl, rfl, e2, by omega, by omega, ?_, List.getElem?_eq_getElem hr, ?_⟩
    · unfold seqIndex?
      simp only [r0, show ¬ r < 0 by omega, if_false]
      simp
      omega
    · refine hN _ _ ⟨by simp [ha], (kp.onl o).put hq, (bx2.put nqb).mono (by omega), _, mset_same, ?_⟩
      have := erase_perm (List.getElem?_eq_getElem hr)
      refine List.Perm.trans ?_ p
      rw [List.append_assoc]
      exact List.Perm.append_left acc this
theorem pick {xs : List D} {r : Int} (h0 : 0 ≤ r) (h1 : r < xs.length) : ∃ d ∈ xs, atI xs r = some d ∧ xs[r.toNat]? = some d := by
  have hr : r.toNat < xs.length := by omega
  refine ⟨xs[r.toNat], List.getElem_mem hr, ?_, List.getElem?_eq_getElem hr⟩
  unfold atI ixN
  rw [if_pos h0, if_pos h1]
  exact List.getElem?_eq_getElem hr
def sp__law_lag : Sp3 := fun ds μ R => ∃ b n, ds = [.ref b] ∧ Box μ b n ∧ n < bigB ∧ ∀ r μ', 0 ≤ r → r < 10 ^ 27 → Onl b μ μ' → Box μ' b (n + 2) → R (.int r) μ'
def t__law_lag : TS3 := (sRet (vOp gAt (vLst (vCons (vC (.int 0)) (vCons (vC (.int 0)) (vCons (vC (.int 1)) (vCons (vC (.int 1)) (vCons (vC (.int 2)) (vCons (vC (.int 3)) (vCons (vC (.int 5)) (vCons (vOp gMul (vCall 2 sp__law_take (vCons (vVar 0) (vCons (vOp gPow (vC (.int 10)) (vC (.int 12))) vNil))) (vOp gPow (vC (.int 10)) (vC (.int 15)))) vNil))))))))) (vCall 2 sp__law_take (vCons (vVar 0) (vCons (vC (.int 8)) vNil)))))
theorem pure__law_lag (ds : List D) (μ : Mu) (R : DK) (hl : ds.length = 1) (h : sp__law_lag ds μ R) : t__law_lag (endsOf R) (start3 ["_law_box_here"] ds) μ := by
  obtain ⟨b, n, rfl, bx, hn, h⟩ := h
  have hsl : sizeLine = 16777216 := by decide
  unfold bigB at hn
  show t__law_lag (endsOf R) [some (.ref b)] μ
  unfold t__law_lag
  walk_at "l3"
  refine ⟨⟨by decide, by decide, by decide⟩, rfl, b, _, n, rfl, bx, by omega, by decide, by decide, fun r μ1 r0 r1 o1 b1 => ⟨⟨by decide, by decide, by decide⟩, ?_⟩⟩
  have hr2 : r * 10 ^ (15 : Int).toNat < 10 ^ 27 := by
    have : r < 1000000000000 := r1
    show r * 1000000000000000 < 1000000000000000000000000000
    omega
  have hr0 : 0 ≤ r * 10 ^ (15 : Int).toNat := by
    show 0 ≤ r * 1000000000000000
    omega
  refine ⟨?_, by rw [hsl]; show 8 ≤ _; decide, rfl, b, _, n + 1, rfl, b1, by omega, by decide, by decide, fun i μ2 i0 i1 o2 b2 => ?_⟩
  · exact wide_mul (a := 60) (b := 60) (by have : r < 1000000000000 := r1; omega) (by decide) (by decide) (by decide) (by decide)
  obtain ⟨d, hd, ed, _⟩ := pick (xs := [D.int 0, D.int 0, D.int 1, D.int 1, D.int 2, D.int 3, D.int 5, D.int (r * 10 ^ (15 : Int).toNat)]) i0 i1
  refine at_l ed (fin_now ?_)
  have key : ∃ v, d = .int v ∧ 0 ≤ v ∧ v < 10 ^ 27 := by
    simp only [List.mem_cons, List.mem_nil_iff, or_false] at hd
    rcases hd with rfl | rfl | rfl | rfl | rfl | rfl | rfl | rfl
    all_goals first
      | exact ⟨_, rfl, by decide, by decide⟩
      | exact ⟨_, rfl, hr0, hr2⟩
  obtain ⟨v, rfl, v0, v1⟩ := key
  exact h v μ2 v0 v1 (o1.trans o2) (b2.mono (by omega))

end C1

namespace C1
open PySem PySem.Spec L2 L3 C2
local macro_rules | `(tactic| walk_at "l3") => `(tactic| simp only [sSeq, sNext, sIf, sRet, sRetN, sSet, sDrop, sSub, sFor, sAsg, sPar2, sPar3, sCont, sFld3, sFld2, sAug, vVar, vC, vNil, vCons, vOp, vB, vChain, vAnd, vOr, vNot, vAndV, vOrV, vNotV, vIf, vUn, vCB, vLst, vTup, vLstT, vCall, vCal, vMak, vMetA, vFld, vSl, vPart, vNoP, vLc, vLcT, vDc, vBM, vBM0, vGet1, vGet2, vItems, vRev, vLRg, vStar, iRg1, iRg2, iRgD, iAny, iEnm, iItm, iVal, vDict0, vDict0T, vDict0N, vDisp, vDispT, vPairs,
  List.getElem?_cons_zero, List.getElem?_cons_succ, List.set_cons_zero, List.set_cons_succ, wipe3, endsOf_rt, endsOf_nx, gLt, gLe, gGt, gGe, L3.gSub, gMul, gMod, gDiv, gPow, g2I, g2I0, gN, gT, gGo, Option.bind_some, gAdd_ii, gAdd_ss, gNeg_i, gMax2_ii, gMin2_ii, gLen_s, gEqS_ii, gEqS_ss, gEqS_bb, gNeS_ii, gNeS_ss, gIsN_n, gNotN_n, gSl_s, isNonD, if_true, if_false, Bool.false_eq_true, Bool.not_true, Bool.not_false])
/-! ### names -/
def sg (c : Nat) : Str := ⟨#[c]⟩
def nmAt (stem : Str) (c : Nat) : Nat → Str
  | 0 => stem ++ sg c
  | 1 => sg c ++ stem
  | _ => sg c
def stems : List Str := ["", "a", "tie", "load", "limit", "zzzzzzz"]
theorem stems_ok : ∀ s ∈ stems, s.length ≤ 7 ∧ ∀ c ∈ s.cps.toList, c ∈ letters.cps.toList := by decide +kernel
theorem let_at : ∀ j : Fin 26, letters.cps.toList[j.val]? = some (97 + j.val) := by decide +kernel
theorem let_mem {c : Nat} (h : 97 ≤ c) (h2 : c < 123) : c ∈ letters.cps.toList := by
  have := let_at ⟨c - 97, by omega⟩
  have e : 97 + (c - 97) = c := by omega
  simp only [e] at this
  exact List.mem_of_getElem? this
theorem let_atI {i : Int} (h0 : 0 ≤ i) (h1 : i < 26) : atI letters.cps.toList i = some (97 + i.toNat) := by
  have hr : i.toNat < 26 := by omega
  have hl : letters.cps.toList.length = 26 := by decide +kernel
  unfold atI ixN
  rw [if_pos h0, if_pos (by rw [hl]; omega)]
  exact let_at ⟨i.toNat, hr⟩
theorem app_l (x y : Str) : (x ++ y).cps.toList = x.cps.toList ++ y.cps.toList := by
  show (x.cps ++ y.cps).toList = _
  simp
theorem len_l (x : Str) : x.length = x.cps.toList.length := by simp [Str.length]
theorem nm_l (stem : Str) (c w : Nat) : (nmAt stem c w).cps.toList = match w with
    | 0 => stem.cps.toList ++ [c]
    | 1 => c :: stem.cps.toList
    | _ => [c] := by
  unfold nmAt
  split
  · rw [app_l]; rfl
  · rw [app_l]; rfl
  · rfl
theorem nm_ok {stem : Str} {c w : Nat} (hs : stem ∈ stems) (h : 97 ≤ c) (h2 : c < 123) : nameT (nmAt stem c w) = true := by
  obtain ⟨l, m⟩ := stems_ok stem hs
  rw [len_l] at l
  have hc := let_mem h h2
  unfold nameT
  rw [Bool.and_eq_true, len_l, nm_l, List.all_eq_true]
  refine ⟨decide_eq_true ?_, fun d hd => decide_eq_true ?_⟩
  · split <;> simp <;> omega
  · split at hd
    · rcases List.mem_append.mp hd with hd | hd
      · exact m d hd
      · rw [List.mem_singleton.mp hd]; exact hc
    · rcases List.mem_cons.mp hd with rfl | hd
      · exact hc
      · exact m d hd
    · rw [List.mem_singleton.mp hd]; exact hc
theorem nm_inj {stem : Str} {c d w v : Nat} (hw : w = v ∨ v = 0 ∨ w = 0) (h : nmAt stem c w = nmAt stem d v) : c = d := by
  have e : (nmAt stem c w).cps.toList = (nmAt stem d v).cps.toList := by rw [h]
  rw [nm_l, nm_l] at e
  have hsum := congrArg List.sum e
  have hlen := congrArg List.length e
  rcases w with _ | _ | w <;> rcases v with _ | _ | v <;> simp at hsum hlen e <;> first
    | omega
    | (have e0 : stem.cps.toList = [] := by simpa using hlen
       simp [e0] at e
       omega)
def chr (f st : Int) (k : Nat) : Nat := 97 + ((f + st * k) % 26).toNat
theorem chr_ok (f st : Int) (k : Nat) : 97 ≤ chr f st k ∧ chr f st k < 123 := by
  unfold chr
  have := Int.emod_lt_of_pos (f + st * k) (show (0 : Int) < 26 by decide)
  have := Int.emod_nonneg (f + st * k) (show (26 : Int) ≠ 0 by decide)
  omega
theorem chr_inj {f st : Int} {i j : Nat} (hs : st = 1 ∨ st = 3 ∨ st = 5 ∨ st = 7 ∨ st = 9 ∨ st = 11) (hij : i < j) (hj : j < 8) : chr f st i ≠ chr f st j := by
  intro h
  unfold chr at h
  have := Int.emod_nonneg (f + st * i) (show (26 : Int) ≠ 0 by decide)
  have := Int.emod_nonneg (f + st * j) (show (26 : Int) ≠ 0 by decide)
  have h' : (f + st * i) % 26 = (f + st * j) % 26 := by omega
  rcases hs with rfl | rfl | rfl | rfl | rfl | rfl <;> omega
def nmsOf (stem : Str) (f st : Int) (way m : Nat) : List Str := (List.range m).map fun k => nmAt stem (chr f st k) (if 0 < k then way else 0)
theorem nms_ok {stem : Str} {f st : Int} {way m : Nat} (hs : stem ∈ stems) (ht : st = 1 ∨ st = 3 ∨ st = 5 ∨ st = 7 ∨ st = 9 ∨ st = 11) (h1 : 1 ≤ m) (h8 : m ≤ 8) : EvOk (nmsOf stem f st way m) := by
  refine ⟨by simp [nmsOf]; omega, by simp [nmsOf]; omega, ?_, fun e he => ?_⟩
  · unfold nmsOf
    refine List.pairwise_map.mpr (List.Pairwise.imp_of_mem (fun {a b} ha hb hab => ?_) List.pairwise_lt_range)
    intro h
    rw [List.mem_range] at hb
    refine chr_inj ht hab (by omega) (nm_inj (stem := stem) ?_ h)
    by_cases q : 0 < a
    · left; rw [if_pos q, if_pos (by omega)]
    · right; right; rw [if_neg q]
  · obtain ⟨k, hk, rfl⟩ := List.mem_map.mp he
    obtain ⟨c1, c2⟩ := chr_ok f st k
    exact nm_ok hs c1 c2
def sp__law_names : Sp3 := fun ds μ R => ∃ b n m, ds = [.ref b, .int m] ∧ Box μ b n ∧ n < bigB ∧ 1 ≤ m ∧ m ≤ 8 ∧ ∀ names μ', EvOk names → (names.length : Int) = m → Onl b μ μ' → Box μ' b (n + 4) → R (.lst (sds names)) μ'
def t__law_names_5 : TS3 := (sRet (vVar 7))
def t__law_names_4 : TS3 := sSeq (sFor (iRg1 (vCons (vVar 1) vNil)) (gN 8) (sSeq (sSet 9 (vOp gAt (vVar 2) (vOp gMod (vOp gAdd (vVar 4) (vOp gMul (vVar 5) (vVar 8))) (vC (.int 26))))) (sDrop (vBM "list" gApp (vVar 7) (vCons (vOp gAt (vLst (vCons (vOp gAdd (vVar 3) (vVar 9)) (vCons (vOp gAdd (vVar 9) (vVar 3)) (vCons (vVar 9) vNil)))) (vIf (vB (vOp gGt (vVar 8) (vC (.int 0)))) (vVar 6) (vC (.int 0)))) vNil))))) t__law_names_5
def t__law_names_3 : TS3 := sSeq (sSet 7 (vLstT vNil)) t__law_names_4
def t__law_names_2 : TS3 := sSeq (sPar3 4 5 6 (vCons (vCall 2 sp__law_take (vCons (vVar 0) (vCons (vC (.int 26)) vNil))) (vCons (vOp gAt (vLst (vCons (vC (.int 1)) (vCons (vC (.int 3)) (vCons (vC (.int 5)) (vCons (vC (.int 7)) (vCons (vC (.int 9)) (vCons (vC (.int 11)) vNil))))))) (vCall 2 sp__law_take (vCons (vVar 0) (vCons (vC (.int 6)) vNil)))) (vCons (vCall 2 sp__law_take (vCons (vVar 0) (vCons (vC (.int 3)) vNil))) vNil)))) t__law_names_3
def t__law_names_1 : TS3 := sSeq (sSet 3 (vOp gAt (vLst (vCons (vC (.str "")) (vCons (vC (.str "a")) (vCons (vC (.str "tie")) (vCons (vC (.str "load")) (vCons (vC (.str "limit")) (vCons (vC (.str "zzzzzzz")) vNil))))))) (vCall 2 sp__law_take (vCons (vVar 0) (vCons (vC (.int 6)) vNil))))) t__law_names_2
def t__law_names : TS3 := sSeq (sSet 2 (vC (.str "abcdefghijklmnopqrstuvwxyz"))) t__law_names_1
theorem pure__law_names (ds : List D) (μ : Mu) (R : DK) (hl : ds.length = 2) (h : sp__law_names ds μ R) : t__law_names (endsOf R) (start3 ["_law_box_here", "_law_many", "_law_letters", "_law_stem", "_law_first", "_law_step", "_law_way", "_law_found", "_law_k", "_law_sign"] ds) μ := by
  obtain ⟨b, n, m, rfl, bx, hn, m1, m8, h⟩ := h
  have hsl : sizeLine = 16777216 := by decide
  unfold bigB at hn
  show t__law_names (endsOf R) [some (.ref b), some (.int m), none, none, none, none, none, none, none, none] μ
  unfold t__law_names t__law_names_1
  walk_at "l3"
  refine ⟨by rw [hsl]; show 6 ≤ _; decide, rfl, b, _, n, rfl, bx, by omega, by decide, by decide, fun i μ1 i0 i1 o1 b1 => ?_⟩
  obtain ⟨d, hd, ed, _⟩ := pick (xs := sds stems) i0 i1
  refine at_l (xs := sds stems) ed ?_
  obtain ⟨stem, hs, rfl⟩ := List.mem_map.mp hd
  unfold t__law_names_2
  walk_at "l3"
  refine ⟨rfl, b, _, n + 1, rfl, b1, by omega, by decide, by decide, fun f μ2 f0 f1 o2 b2 => ?_⟩
  refine ⟨by rw [hsl]; show 6 ≤ _; decide, rfl, b, _, n + 2, rfl, b2, by omega, by decide, by decide, fun i μ3 i0 i1 o3 b3 => ?_⟩
  obtain ⟨d, hd, ed, _⟩ := pick (xs := [D.int 1, D.int 3, D.int 5, D.int 7, D.int 9, D.int 11]) i0 i1
  refine at_l (xs := [D.int 1, D.int 3, D.int 5, D.int 7, D.int 9, D.int 11]) ed ?_
  have key : ∃ st, d = .int st ∧ (st = 1 ∨ st = 3 ∨ st = 5 ∨ st = 7 ∨ st = 9 ∨ st = 11) := by
    simp only [List.mem_cons, List.mem_nil_iff, or_false] at hd
    rcases hd with rfl | rfl | rfl | rfl | rfl | rfl
    all_goals exact ⟨_, rfl, by decide⟩
  obtain ⟨st, rfl, hst⟩ := key
  refine ⟨rfl, b, _, n + 3, rfl, b3, by omega, by decide, by decide, fun way μ4 w0 w1 o4 b4 => ?_⟩
  have kp : Keeps b μ μ4 := (Keeps.refl b μ).onl (((o1.trans o2).trans o3).trans o4)
  unfold t__law_names_3 t__law_names_4
  walk_at "l3"
  refine ⟨Nat.zero_le _, fun q hq => ⟨by omega, by omega, ?_⟩⟩
  obtain ⟨nq, nb⟩ := kp.fresh b4 hq
  refine for_rg (fun k δ μ' => Keeps b μ μ' ∧ Box μ' b (n + 4) ∧ μ' q = some (.lst (sds (nmsOf stem f st way.toNat k))) ∧ ∃ y8 y9, δ = [some (.ref b), some (.int m), some (.str letters), some (.str stem), some (.int f), some (.int st), some (.int way), some (.ref q), y8, y9])
    ⟨kp.put nq, b4.put nb, mset_same, none, none, rfl⟩ ?_ ?_
  · rintro δ μ5 ⟨kp5, b5, e5, y8, y9, rfl⟩
    unfold t__law_names_5
    walk_at "l3"
    have ok := nms_ok (way := way.toNat) (f := f) hs hst (m := m.toNat) (by omega) (by omega)
    exact fin_boxL kp5 b5 e5 nq nb fun μ2 o bx2 => h _ μ2 ok (by simp [nmsOf]; omega) o bx2
  · rintro k δ μ5 hk ⟨kp5, b5, e5, y8, y9, rfl⟩ N hN
    have hk8 : k < 8 := by omega
    walk_at "l3"
    refine ⟨?_, by decide, ?_⟩
    · exact wide_mul (a := 20) (b := 20) (by rcases hst with rfl | rfl | rfl | rfl | rfl | rfl <;> decide) (by omega) (by decide) (by decide) (by decide)
    have c0 := Int.emod_nonneg (f + st * (0 + (k : Nat))) (show (26 : Int) ≠ 0 by decide)
    have c1 := Int.emod_lt_of_pos (f + st * (0 + (k : Nat))) (show (0 : Int) < 26 by decide)
    refine at_s (z := letters) (c := chr f st k) (by decide) (by rw [let_atI c0 c1]; simp [chr]) ?_
    obtain ⟨sl, sc⟩ := stems_ok stem hs
    refine ⟨.inl ⟨rfl, _, e5⟩, ?_⟩
    have s1 : (⟨#[chr f st k]⟩ : Str).length = 1 := rfl
    refine ⟨by omega, by omega, by rw [hsl]; show 3 ≤ _; decide, ?_⟩
    have app : ∀ w : Nat, w < 3 → ([D.str (stem ++ sg (chr f st k)), .str (sg (chr f st k) ++ stem), .str (sg (chr f st k))] : List D)[w]? = some (.str (nmAt stem (chr f st k) w)) := fun w hw => by
      rcases w with _ | _ | _ | w
      · rfl
      · rfl
      · rfl
      · omega
    have fin_ : ∀ w : Nat, w < 3 → w = (if 0 < k then way.toNat else 0) → gAt (.lst [D.str (stem ++ sg (chr f st k)), .str (sg (chr f st k) ++ stem), .str (sg (chr f st k))]) (.int w) μ5 fun d μ1 => gApp (.ref q) [d] μ1 fun d μ => N [some (.ref b), some (.int m), some (.str letters), some (.str stem), some (.int f), some (.int st), some (.int way), some (.ref q), some (.int (0 + (k : Nat))), some (.str (sg (chr f st k)))] μ := fun w hw e => by
      refine at_l (d := .str (nmAt stem (chr f st k) w)) ?_ ?_
      · unfold atI ixN
        rw [if_pos (by omega), if_pos (by show (w : Int) < 3; omega)]
        exact app w hw
      · refine ⟨q, _, _, rfl, rfl, e5, by simp [sds, nmsOf]; omega, hN _ _ ⟨kp5.put nq, b5.put nb, ?_, _, _, rfl⟩⟩
        rw [mset_same]
        have : nmsOf stem f st way.toNat (k + 1) = nmsOf stem f st way.toNat k ++ [nmAt stem (chr f st k) (if 0 < k then way.toNat else 0)] := by
          unfold nmsOf
          rw [List.range_succ, List.map_append]; rfl
        rw [this, ← e]
        simp [sds]
    by_cases hk0 : 0 < k
    · have : (0 : Int) < 0 + (k : Nat) := by omega
      simp only [this, decide_true, if_true]
      have e : way = ((way.toNat : Nat) : Int) := by omega
      have := fin_ way.toNat (by omega) (by rw [if_pos hk0])
      rw [← e] at this
      exact this
    · have : ¬ (0 : Int) < 0 + (k : Nat) := by omega
      simp only [this, decide_false, Bool.false_eq_true, if_false]
      exact fin_ 0 (by omega) (by rw [if_neg hk0])

end C1

namespace C1
open PySem PySem.Spec L2 L3 C2
local macro_rules | `(tactic| walk_at "l3") => `(tactic| simp only [sSeq, sNext, sIf, sRet, sRetN, sSet, sDrop, sSub, sFor, sAsg, sPar2, sPar3, sCont, sFld3, sFld2, sAug, vVar, vC, vNil, vCons, vOp, vB, vChain, vAnd, vOr, vNot, vAndV, vOrV, vNotV, vIf, vUn, vCB, vLst, vTup, vLstT, vCall, vCal, vMak, vMetA, vFld, vSl, vPart, vNoP, vLc, vLcT, vDc, vBM, vBM0, vGet1, vGet2, vItems, vRev, vLRg, vStar, iRg1, iRg2, iRgD, iAny, iEnm, iItm, iVal, vDict0, vDict0T, vDict0N, vDisp, vDispT, vPairs,
  List.getElem?_cons_zero, List.getElem?_cons_succ, List.set_cons_zero, List.set_cons_succ, wipe3, endsOf_rt, endsOf_nx, gLt, gLe, gGt, gGe, L3.gSub, gMul, gMod, gDiv, gPow, g2I, g2I0, gN, gT, gGo, Option.bind_some, gAdd_ii, gAdd_ss, gNeg_i, gMax2_ii, gMin2_ii, gLen_s, gEqS_ii, gEqS_ss, gEqS_bb, gNeS_ii, gNeS_ss, gIsN_n, gNotN_n, gSl_s, isNonD, if_true, if_false, Bool.false_eq_true, Bool.not_true, Bool.not_false])
theorem idx_sds {e : Str} : ∀ {l : List Str}, e ∈ l → idxD (.str e) (sds l) = some (l.idxOf e)
  | a :: r, h => by
    unfold idxD sds
    rw [List.map_cons, List.findIdx?_cons, List.idxOf_cons]
    have q : eqD (.str a) (.str e) = (a == e) := rfl
    rw [q]
    by_cases ha : a = e
    · subst ha; simp
    · have hb : (a == e) = false := by simpa using ha
      have h' : e ∈ r := by
        rcases List.mem_cons.mp h with h | h
        · exact absurd h.symm ha
        · exact h
      have ih := idx_sds h'
      unfold idxD sds at ih
      rw [hb]
      simp only [Bool.false_eq_true, if_false, cond_false]
      rw [ih]; rfl
def bigM : Nat := 500000000
def modelL (marks : List Str) (y z : D) : List D := [.lst (sds marks), y, z]
structure MdOk (marks : List Str) (ties : List Tie) (caps : Lims) : Prop where
  p : PlOk marks ties caps
  t : ∀ t ∈ ties, t.2.2 < 10 ^ 27
  c : ∀ p ∈ caps, p.2 < 10 ^ 27
def sp__law_model : Sp3 := fun ds μ R => ∃ (tr : Bool) (b : Addr) (n : Nat) (m mo : Int), ds = [.ref b, .int m, .int mo] ∧ Box μ b n ∧ n < bigM ∧ 1 ≤ m ∧ m ≤ 8 ∧ 0 ≤ mo ∧ mo ≤ 60 ∧
  ∀ marks ties caps, MdOk marks ties caps → (marks.length : Int) = m → (ties.length : Int) ≤ mo →
    if tr = true then ∀ (q qc qd : Addr) (μ' : Mu), Keeps b μ μ' → Box μ' b (n + 1000) → μ q = none → μ qc = none → μ qd = none → q ≠ b → qc ≠ b → qd ≠ b → q ≠ qc → q ≠ qd → qc ≠ qd →
      μ' q = some (.lst (modelL marks (.ref qc) (.ref qd))) → μ' qc = some (.lst (ties.map tieD)) → μ' qd = some (.dct (limK caps)) → R (.ref q) μ'
    else ∀ μ', Onl b μ μ' → Box μ' b (n + 1000) → R (.lst (modelL marks (.lst (ties.map tieD)) (.dct (limK caps)))) μ'
def t__law_model_4 : TS3 := (sRet (vLstT (vCons (vVar 3) (vCons (vVar 5) (vCons (vVar 6) vNil)))))
def t__law_model_3 : TS3 := sSeq (sFor (iAny (vCall 2 sp__law_mixed (vCons (vVar 0) (vCons (vVar 3) vNil)))) (gN 11) (sIf (vB (vOp gEqS (vCall 2 sp__law_take (vCons (vVar 0) (vCons (vC (.int 4)) vNil))) (vC (.int 0)))) (sSub gSet (vOp gAt (vLst (vCons (vC (.int 0)) (vCons (vC (.int 1)) (vCons (vC (.int 2)) (vCons (vC (.int 4)) (vCons (vC (.int 7)) (vCons (vOp gMul (vCall 2 sp__law_take (vCons (vVar 0) (vCons (vOp gPow (vC (.int 10)) (vC (.int 12))) vNil))) (vOp gPow (vC (.int 10)) (vC (.int 15)))) vNil))))))) (vCall 2 sp__law_take (vCons (vVar 0) (vCons (vC (.int 6)) vNil)))) (vVar 6) (vVar 11)) sNext)) t__law_model_4
def t__law_model_2 : TS3 := sSeq (sFor (iRg1 (vCons (vCall 2 sp__law_take (vCons (vVar 0) (vCons (vOp gAdd (vVar 2) (vC (.int 1))) vNil))) vNil)) (gN 7) (sSeq (sPar2 8 9 (vCons (vOp gAt (vVar 3) (vCall 2 sp__law_take (vCons (vVar 0) (vCons (vVar 1) vNil)))) (vCons (vOp gAt (vVar 3) (vCall 2 sp__law_take (vCons (vVar 0) (vCons (vVar 1) vNil)))) vNil))) (sSeq (sSet 10 (vCall 1 sp__law_lag (vCons (vVar 0) vNil))) (sSeq (sIf (vAnd (vB (vOp gEqS (vVar 10) (vC (.int 0)))) (vB (vOp gGe (vBM "list" gIdx (vVar 4) (vCons (vVar 8) vNil)) (vBM "list" gIdx (vVar 4) (vCons (vVar 9) vNil))))) (sSet 10 (vC (.int 1))) sNext) (sDrop (vBM "list" gApp (vVar 5) (vCons (vTup (vCons (vVar 8) (vCons (vVar 9) (vCons (vVar 10) vNil)))) vNil))))))) t__law_model_3
def t__law_model_1 : TS3 := sSeq (sPar3 4 5 6 (vCons (vCall 2 sp__law_mixed (vCons (vVar 0) (vCons (vVar 3) vNil))) (vCons (vLstT vNil) (vCons vDict0T vNil)))) t__law_model_2
def t__law_model : TS3 := sSeq (sSet 3 (vCall 2 sp__law_names (vCons (vVar 0) (vCons (vVar 1) vNil)))) t__law_model_1
theorem pure__law_model (ds : List D) (μ : Mu) (R : DK) (hl : ds.length = 3) (h : sp__law_model ds μ R) : t__law_model (endsOf R) (start3 ["_law_box_here", "_law_many", "_law_most", "_law_marks", "_law_order", "_law_cords", "_law_caps", "_law_k", "_law_one", "_law_other", "_law_lag_here", "_law_event"] ds) μ := by
  obtain ⟨tr, b, n, m, mo, rfl, bx, hn, m1, m8, mo0, mo1, h⟩ := h
  have hsl : sizeLine = 16777216 := by decide
  unfold bigM at hn
  show t__law_model (endsOf R) [some (.ref b), some (.int m), some (.int mo), none, none, none, none, none, none, none, none, none] μ
  unfold t__law_model t__law_model_1
  walk_at "l3"
  refine ⟨rfl, b, n, m, rfl, bx, by unfold bigB; omega, m1, m8, fun marks μ1 ok hm o1 b1 => ?_⟩
  have hm8 : marks.length ≤ 8 := ok.le
  have hsm : (sds marks).length = marks.length := by simp [sds]
  refine ⟨rfl, b, n + 4, _, _, rfl, b1, by unfold bigB; omega, rfl, (fun e => nomatch e), by rw [hsm]; omega, fun ys μ2 py o2 b2 => ?_⟩
  obtain ⟨order, rfl, po⟩ := perm_sds py
  rw [hsm] at b2
  have kp2 : Keeps b μ μ2 := (Keeps.refl b μ).onl (o1.trans o2)
  refine ⟨Nat.zero_le _, fun qc hqc => ?_⟩
  obtain ⟨nc, ncb⟩ := kp2.fresh b2 hqc
  have kp3 := kp2.put (o := .lst []) nc
  have b3 := b2.put (o := .lst []) ncb
  intro qd hqd
  obtain ⟨nd, ndb⟩ := kp3.fresh b3 hqd
  have ncd : qc ≠ qd := by
    rintro rfl
    rw [mset_same] at hqd; cases hqd
  have kp4 := kp3.put (o := .dct []) nd
  have b4 := b3.put (o := .dct []) ndb
  unfold t__law_model_2
  walk_at "l3"
  refine ⟨rfl, b, _, n + 4 + marks.length, rfl, b4, by omega, by omega, by omega, fun cnt μ5 c0 c1 o5 b5 => ⟨by omega, by omega, ?_⟩⟩
  have kp5 := kp4.onl o5
  have ec5 : μ5 qc = some (.lst []) := onl_at o5 ncb (by rw [mset_ne ncd, mset_same])
  have ed5 : μ5 qd = some (.dct []) := onl_at o5 ndb mset_same
  refine for_rg (fun k δ μ' => Keeps b μ μ' ∧ Box μ' b (n + 13 + 4 * k) ∧ (∃ ties, μ' qc = some (.lst (ties.map tieD)) ∧ ties.length = k ∧ (∀ t ∈ ties, t.1 ∈ marks ∧ t.2.1 ∈ marks ∧ 0 ≤ t.2.2 ∧ t.2.2 < 10 ^ 27 ∧ (t.2.2 = 0 → order.idxOf t.1 < order.idxOf t.2.1))) ∧ μ' qd = some (.dct []) ∧
    ∃ y7 y8 y9 y10, δ = [some (.ref b), some (.int m), some (.int mo), some (.lst (sds marks)), some (.lst (sds order)), some (.ref qc), some (.ref qd), y7, y8, y9, y10, none])
    ⟨kp5, b5.mono (by omega), ⟨[], ec5, rfl, fun t h => nomatch h⟩, ed5, none, none, none, none, rfl⟩ ?_ ?_
  · rintro δ μ6 ⟨kp6, b6, ⟨ties, ec6, hlt, tok⟩, ed6, y7, y8, y9, y10, rfl⟩
    have hk : (ties.length : Int) ≤ mo := by omega
    have tk : TiOk marks ties := ⟨by omega, fun t ht => (tok t ht).1, fun t ht => (tok t ht).2.1, fun t ht => (tok t ht).2.2.1⟩
    have nr : NoRing marks ties := NoRing.of_rank (fun e => order.idxOf e) fun t ht h0 => (tok t ht).2.2.2.2 h0
    unfold t__law_model_3
    walk_at "l3"
    refine ⟨rfl, b, n + 300, _, _, rfl, b6.mono (by omega), by unfold bigB; omega, rfl, (fun e => nomatch e), by rw [hsm]; omega, fun ys μ7 py o7 b7 => ?_⟩
    obtain ⟨marks2, rfl, pm⟩ := perm_sds py
    rw [hsm] at b7
    have kp7 := kp6.onl o7
    have ec7 := onl_at o7 ncb ec6
    have ed7 := onl_at o7 ndb ed6
    have nd2 : marks2.Nodup := pm.nodup_iff.mpr ok.nd
    refine for_ix (sds marks2) (fun k δ μ' => Keeps b μ μ' ∧ Box μ' b (n + 308 + 3 * k) ∧ μ' qc = some (.lst (ties.map tieD)) ∧ (∃ caps : Lims, μ' qd = some (.dct (limK caps)) ∧ (caps.map (·.1)).Sublist (marks2.take k) ∧ (∀ p ∈ caps, 0 ≤ p.2 ∧ p.2 < 10 ^ 27)) ∧
      ∃ y11, δ = [some (.ref b), some (.int m), some (.int mo), some (.lst (sds marks)), some (.lst (sds order)), some (.ref qc), some (.ref qd), y7, y8, y9, y10, y11])
      ⟨kp7, b7.mono (by omega), ec7, ⟨[], ed7, List.Sublist.refl _, fun p h => nomatch h⟩, none, rfl⟩ ?_ ?_
    · rintro δ μ8 ⟨kp8, b8, ec8, ⟨caps, ed8, sub, cok⟩, y11, rfl⟩
      refine ⟨trivial, ?_⟩
      have sl2 : (sds marks2).length = marks2.length := by simp [sds]
      have ml2 : marks2.length = marks.length := pm.length_eq
      rw [sl2] at b8 sub
      rw [List.take_length] at sub
      have lk : LiOk marks caps := ⟨sub.nodup nd2, fun p hp => pm.mem_iff.mp (sub.subset (List.mem_map.mpr ⟨p, hp, rfl⟩)), fun p hp => (cok p hp).1⟩
      have md : MdOk marks ties caps := ⟨⟨ok, tk, lk, nr⟩, fun t ht => (tok t ht).2.2.2.1, fun p hp => (cok p hp).2⟩
      have h := h marks ties caps md hm hk
      unfold t__law_model_4
      walk_at "l3"
      refine ⟨by rw [hsl]; show 3 ≤ _; decide, fun q hq => ?_⟩
      obtain ⟨nq, nqb⟩ := kp8.fresh b8 hq
      have nqc : q ≠ qc := by rintro rfl; rw [ec8] at hq; cases hq
      have nqd : q ≠ qd := by rintro rfl; rw [ed8] at hq; cases hq
      have b9 := (b8.put (o := .lst [.lst (sds marks), .ref qc, .ref qd]) nqb).mono (m := n + 1000) (by omega)
      have kp9 := kp8.put (o := .lst [.lst (sds marks), .ref qc, .ref qd]) nq
      cases tr with
      | true =>
        rw [if_pos rfl] at h
        exact fin_now (h q qc qd _ kp9 b9 nq nc nd nqb ncb ndb nqc nqd ncd mset_same (by rw [mset_ne (Ne.symm nqc), ec8]) (by rw [mset_ne (Ne.symm nqd), ed8]))
      | false =>
        rw [if_neg Bool.false_ne_true] at h
        refine ⟨.lst (modelL marks (.lst (ties.map tieD)) (.dct (limK caps))), fun a => if a = b then (mset μ8 q (.lst [.lst (sds marks), .ref qc, .ref qd])) b else μ a, fun a o e => ?_, ?_, h _ (fun a ha => if_neg ha) ?_⟩
        · by_cases ha : a = b
          · subst ha; simpa using e
          · exact kp9 a o ha (by simpa [ha] using e)
        · refine .lst mset_same (by simp [nqb, nq]) (.cons (.same _) (.cons (.lst (by rw [mset_ne (Ne.symm nqc), ec8]) (by simp [ncb, nc]) (Frs.same _)) (.cons (.dct (by rw [mset_ne (Ne.symm nqd), ed8]) (by simp [ndb, nd]) (Frk.same _)) .nil)))
        · obtain ⟨c0, c1, c2, e, k⟩ := b9
          exact ⟨c0, c1, c2, by simp only [if_true]; exact e, k⟩
    · rintro k d δ μ8 hd ⟨kp8, b8, ec8, ⟨caps, ed8, sub, cok⟩, y11, rfl⟩
      obtain ⟨e, ee, rfl⟩ := sds_get hd
      have klt := lt_at ee
      have ml2 : marks2.length = marks.length := pm.length_eq
      refine ⟨trivial, _, rfl, fun N hN => ?_⟩
      walk_at "l3"
      refine ⟨rfl, b, _, _, rfl, b8, by omega, by decide, by decide, fun r μ9 r0 r1 o9 b9 => ?_⟩
      walk_at "l3"
      have kp9 := kp8.onl o9
      have ec9 := onl_at o9 ncb ec8
      have ed9 := onl_at o9 ndb ed8
      by_cases hr : r = 0
      · simp only [hr, decide_true, if_true]
        refine ⟨⟨by decide, by decide, by decide⟩, rfl, b, _, _, rfl, b9, by omega, by decide, by decide, fun r μ10 r0 r1 o10 b10 => ⟨⟨by decide, by decide, by decide⟩, ?_⟩⟩
        have hr2 : r * 10 ^ (15 : Int).toNat < 10 ^ 27 := by
          have : r < 1000000000000 := r1
          show r * 1000000000000000 < 1000000000000000000000000000
          omega
        have hr0 : 0 ≤ r * 10 ^ (15 : Int).toNat := by
          show 0 ≤ r * 1000000000000000
          omega
        refine ⟨?_, by rw [hsl]; show 6 ≤ _; decide, rfl, b, _, _, rfl, b10, by omega, by decide, by decide, fun i μ11 i0 i1 o11 b11 => ?_⟩
        · exact wide_mul (a := 60) (b := 60) (by have : r < 1000000000000 := r1; omega) (by decide) (by decide) (by decide) (by decide)
        obtain ⟨d, hd, ed, _⟩ := pick (xs := [D.int 0, D.int 1, D.int 2, D.int 4, D.int 7, D.int (r * 10 ^ (15 : Int).toNat)]) i0 i1
        refine at_l ed ?_
        have key : ∃ v, d = .int v ∧ 0 ≤ v ∧ v < 10 ^ 27 := by
          simp only [List.mem_cons, List.mem_nil_iff, or_false] at hd
          rcases hd with rfl | rfl | rfl | rfl | rfl | rfl
          all_goals first
            | exact ⟨_, rfl, by decide, by decide⟩
            | exact ⟨_, rfl, hr0, hr2⟩
        obtain ⟨v, rfl, v0, v1⟩ := key
        have o := o10.trans o11
        have kp11 := kp9.onl o
        have ec11 := onl_at o ncb ec9
        have ed11 := onl_at o ndb ed9
        have ne : e ∉ caps.map (·.1) := fun h => by
          have h1 := sub.subset h
          obtain ⟨i, hi, q⟩ := List.getElem_of_mem h1
          rw [List.getElem_take] at q
          have e2 : marks2[k] = e := (List.getElem?_eq_some_iff.mp ee).2
          have := (List.getElem_inj nd2).mp (q.trans e2.symm)
          simp at hi
          omega
        have put : putD (limK caps) (.inr e) (.int v) = limK (caps ++ [(e, v)]) := by
          unfold putD
          rw [if_neg]
          · unfold limK; rw [List.map_append]; rfl
          · intro q
            rw [List.any_eq_true] at q
            obtain ⟨p, hp, q⟩ := q
            obtain ⟨a, ha, rfl⟩ := List.mem_map.mp hp
            have ea : a.1 = e := Sum.inr.inj (of_decide_eq_true q)
            exact ne (ea ▸ List.mem_map.mpr ⟨a, ha, rfl⟩)
        have hcl : caps.length ≤ marks2.length := by
          have := sub.length_le
          rw [List.length_map, List.length_take] at this
          omega
        refine set_k ed11 (by simp only [limK, List.length_map]; omega) (k := .inr e) rfl ?_
        rw [put]
        refine hN _ _ ⟨kp11.put nd, (b11.put ndb).mono (by omega), by rw [mset_ne ncd, ec11], ⟨_, mset_same, ?_, fun p hp => ?_⟩, _, rfl⟩
        · rw [take_snoc ee, List.map_append]
          exact sub.append (List.Sublist.refl _)
        · rcases List.mem_append.mp hp with hp | hp
          · exact cok p hp
          · rw [List.mem_singleton.mp hp]; exact ⟨v0, v1⟩
      · simp only [hr, decide_false, Bool.false_eq_true, if_false]
        refine hN _ _ ⟨kp9, b9.mono (by omega), ec9, ⟨caps, ed9, ?_, cok⟩, _, rfl⟩
        rw [take_snoc ee]
        exact sub.trans (List.sublist_append_left _ _)
  · rintro k δ μ6 hk ⟨kp6, b6, ⟨ties, ec6, hlt, tok⟩, ed6, y7, y8, y9, y10, rfl⟩ N hN
    have hk60 : k < 60 := by omega
    walk_at "l3"
    refine ⟨rfl, b, _, _, rfl, b6, by omega, by omega, by omega, fun i μ7 i0 i1 o7 b7 => ?_⟩
    obtain ⟨d, hd, ed, _⟩ := pick (xs := sds marks) i0 (by rw [hsm]; omega)
    obtain ⟨one, hone, rfl⟩ := List.mem_map.mp hd
    refine at_l ed ⟨rfl, b, _, _, rfl, b7, by omega, by omega, by omega, fun i μ8 i0 i1 o8 b8 => ?_⟩
    obtain ⟨d, hd, ed, _⟩ := pick (xs := sds marks) i0 (by rw [hsm]; omega)
    obtain ⟨oth, hoth, rfl⟩ := List.mem_map.mp hd
    refine at_l ed ⟨rfl, b, _, rfl, b8, by unfold bigB; omega, fun lag μ9 l0 l1 o9 b9 => ?_⟩
    have o := (o7.trans o8).trans o9
    have kp9 := kp6.onl o
    have ec9 := onl_at o ncb ec6
    have ed9 := onl_at o ndb ed6
    have ho1 : one ∈ order := po.mem_iff.mpr hone
    have ho2 : oth ∈ order := po.mem_iff.mpr hoth
    have app : ∀ lag' : Int, 0 ≤ lag' → lag' < 10 ^ 27 → (lag' = 0 → order.idxOf one < order.idxOf oth) → tyM "list" μ9 (.ref qc) ∧ ([D.str one, .str oth, .int lag'] : List D).length ≤ sizeLine ∧ gApp (.ref qc) [.tup [.str one, .str oth, .int lag']] μ9 fun d μ => N [some (.ref b), some (.int m), some (.int mo), some (.lst (sds marks)), some (.lst (sds order)), some (.ref qc), some (.ref qd), some (.int (0 + (k : Nat))), some (.str one), some (.str oth), some (.int lag'), none] μ := fun lag' h0 h1 h2 => by
      refine ⟨.inl ⟨rfl, _, ec9⟩, by rw [hsl]; show 3 ≤ _; decide, qc, _, _, rfl, rfl, ec9, by rw [List.length_map]; omega, ?_⟩
      refine hN _ _ ⟨kp9.put nc, (b9.put ncb).mono (by omega), ⟨ties ++ [(one, oth, lag')], by rw [mset_same]; simp [tieD], by simp [hlt], fun t ht => ?_⟩, by rw [mset_ne (Ne.symm ncd), ed9], _, _, _, _, rfl⟩
      rcases List.mem_append.mp ht with ht | ht
      · exact tok t ht
      · rw [List.mem_singleton.mp ht]; exact ⟨hone, hoth, h0, h1, h2⟩
    walk_at "l3"
    by_cases hz : lag = 0
    · simp only [hz, decide_true, if_true]
      refine ⟨rfl, _, _, _, rfl, rfl, rfl, sds_flat _, idx_sds ho1, rfl, _, _, _, rfl, rfl, rfl, sds_flat _, idx_sds ho2, ?_⟩
      walk_at "l3"
      by_cases hi : ((order.idxOf oth : Nat) : Int) ≤ (order.idxOf one : Nat)
      · simp only [hi, decide_true, if_true]
        exact app 1 (by decide) (by decide) (fun h => by cases h)
      · simp only [hi, decide_false, Bool.false_eq_true, if_false]
        have := app 0 (by decide) (by decide) (fun _ => by omega)
        exact this
    · simp only [hz, decide_false, Bool.false_eq_true, if_false]
      exact app lag l0 l1 (fun h => absurd h hz)

end C1

namespace C1
open PySem PySem.Spec L2 L3 C2
local macro_rules | `(tactic| walk_at "l3") => `(tactic| simp only [sSeq, sNext, sIf, sRet, sRetN, sSet, sDrop, sSub, sFor, sAsg, sPar2, sPar3, sCont, sFld3, sFld2, sAug, vVar, vC, vNil, vCons, vOp, vB, vChain, vAnd, vOr, vNot, vAndV, vOrV, vNotV, vIf, vUn, vCB, vLst, vTup, vLstT, vCall, vCal, vMak, vMetA, vFld, vSl, vPart, vNoP, vLc, vLcT, vDc, vBM, vBM0, vGet1, vGet2, vItems, vRev, vLRg, vStar, iRg1, iRg2, iRgD, iAny, iEnm, iItm, iVal, vDict0, vDict0T, vDict0N, vDisp, vDispT, vPairs,
  List.getElem?_cons_zero, List.getElem?_cons_succ, List.set_cons_zero, List.set_cons_succ, wipe3, endsOf_rt, endsOf_nx, gLt, gLe, gGt, gGe, L3.gSub, gMul, gMod, gDiv, gPow, g2I, g2I0, gN, gT, gGo, Option.bind_some, gAdd_ii, gAdd_ss, gNeg_i, gMax2_ii, gMin2_ii, gLen_s, gEqS_ii, gEqS_ss, gEqS_bb, gNeS_ii, gNeS_ss, gIsN_n, gNotN_n, gSl_s, isNonD, if_true, if_false, Bool.false_eq_true, Bool.not_true, Bool.not_false])
/-! ### dicts with texts as keys -/
theorem valD_map {k k' : Key} {v : D} : ∀ kvs : List (Key × D), valD (kvs.map fun kv => if kv.1 = k then (kv.1, v) else kv) k' = if k' = k then (valD kvs k).map (fun _ => v) else valD kvs k'
  | [] => by simp [valD]
  | (x, y) :: r => by
    have ih := valD_map (k := k) (k' := k') (v := v) r
    unfold valD at ih ⊢
    rw [List.map_cons, List.find?_cons, List.find?_cons, List.find?_cons]
    by_cases h1 : x = k
    · subst h1
      by_cases h2 : k' = x
      · subst h2; simp
      · have h3 : ¬ x = k' := fun z => h2 z.symm
        simp only [if_true, h3, h2, decide_false, if_false]
        rw [ih, if_neg h2]
    · by_cases h2 : x = k'
      · subst h2
        simp [h1]
      · simp only [h1, h2, if_false, decide_false]
        rw [ih]
theorem any_valD {kvs : List (Key × D)} {k : Key} : (kvs.any fun kv => decide (kv.1 = k)) = (valD kvs k).isSome := by
  unfold valD
  induction kvs with
  | nil => rfl
  | cons a r ih =>
    rw [List.any_cons, List.find?_cons]
    cases decide (a.1 = k) with
    | true => rfl
    | false => simpa using ih
theorem valD_put {kvs : List (Key × D)} {k k' : Key} {v : D} : valD (putD kvs k v) k' = if k' = k then some v else valD kvs k' := by
  unfold putD
  rw [any_valD]
  split
  · rename_i h
    rw [valD_map]
    obtain ⟨w, e⟩ := Option.isSome_iff_exists.mp h
    rw [e]; rfl
  · rename_i h
    unfold valD at h ⊢
    rw [List.find?_append]
    by_cases q : k' = k
    · subst q
      cases e : kvs.find? fun kv => decide (kv.1 = k') with
      | none => simp
      | some z => rw [e] at h; exact absurd rfl h
    · rw [if_neg q]
      have : ¬ k = k' := fun z => q z.symm
      simp [this]
theorem putD_len {kvs : List (Key × D)} {k : Key} {v : D} : (putD kvs k v).length ≤ kvs.length + 1 := by
  unfold putD
  split
  · rw [List.length_map]; omega
  · rw [List.length_append]; exact Nat.le_refl _
def RepF (kvs : List (Key × D)) (f : Str → Option Int) : Prop := ∀ e, valD kvs (.inr e) = (f e).map D.int
theorem merge_new : ∀ (ps acc : List (Key × D)), ((acc ++ ps).map (·.1)).Nodup → mergeD acc ps = acc ++ ps
  | [], acc, _ => by simp [mergeD]
  | p :: r, acc, nd => by
    unfold mergeD
    rw [List.foldl_cons]
    have : putD acc p.1 p.2 = acc ++ [p] := by
      unfold putD
      rw [if_neg]
      intro q
      rw [List.any_eq_true] at q
      obtain ⟨a, ha, q⟩ := q
      rw [List.map_append, List.nodup_append] at nd
      exact nd.2.2 a.1 (List.mem_map.mpr ⟨a, ha, rfl⟩) p.1 (by simp) (of_decide_eq_true q)
    rw [this]
    have ih := merge_new r (acc ++ [p]) (by simpa using nd)
    unfold mergeD at ih
    rw [ih]; simp
/-! ### the law's plan, and how far -/
def mdD (marks : List Str) (ties : List Tie) (caps : Lims) : D := .lst (modelL marks (.lst (ties.map tieD)) (.dct (limK caps)))
def sp__law_plan : Sp3 := fun ds μ R => ∃ x marks y ties caps, ds = [x] ∧ seqOf μ x = some (modelL marks y (.dct (limK caps))) ∧ lstOf μ y = some (ties.map tieD) ∧ PlOk marks ties caps ∧ R (planD marks ties (limsOf marks caps)) μ
def t__law_plan : TS3 := (sRet (vMak "Plan" 2 1 [.pos 0, .pos 1, .pos 2, .kw 0] [] sp_Plan___init__ (vCons (vOp gAt (vVar 0) (vC (.int 0))) (vCons (vOp gAt (vVar 0) (vC (.int 1))) vNil)) (vCons (vOp gAt (vVar 0) (vC (.int 2))) vNil)))
theorem lst_new {μ : Mu} {x : D} {xs : List D} {q : Addr} {o : MO} (h : lstOf μ x = some xs) (hq : μ q = none) : lstOf (mset μ q o) x = some xs := lst_le ((Le.refl μ).mset hq) h
theorem pure__law_plan (ds : List D) (μ : Mu) (R : DK) (hl : ds.length = 1) (h : sp__law_plan ds μ R) : t__law_plan (endsOf R) (start3 ["_law_model_here"] ds) μ := by
  obtain ⟨x, marks, y, ties, caps, rfl, hx, hy, ok, h⟩ := h
  show t__law_plan (endsOf R) [some x] μ
  unfold t__law_plan
  walk_at "l3"
  refine at_q hx (d := .lst (sds marks)) rfl (at_q hx (d := y) rfl (at_q hx (d := .dct (limK caps)) rfl ⟨rfl, rfl, fun q hq => ?_⟩))
  refine ⟨q, .lst (sds marks), marks, y, ties, some caps, rfl, mset_same, rfl, lst_new hy hq, ok, rfl, ?_⟩
  rw [mset_mset]
  exact fin_obj (Le.mset_new hq) mset_same hq (fin_now h)
def lawRows (marks : List Str) (ties : List Tie) (caps : Lims) : List Tie := ties ++ caps.map (fun p => ((("" : Str), p.1, p.2) : Tie)) ++ marks.map fun e => ((e, ("" : Str), 0) : Tie)
def far0 (b : Str) : Str → Option Int := fun x => if x = b then some 0 else none
def farL (marks : List Str) (ties : List Tie) (caps : Lims) (b : Str) : Str → Option Int := farF (lawRows marks ties caps) (marks.length + 1) (far0 b)
def sp__law_far : Sp3 := fun ds μ R => ∃ marks ties caps b, ds = [mdD marks ties caps, .str b] ∧ PlOk marks ties caps ∧ ∀ kvs, RepF kvs (farL marks ties caps b) → R (.dct kvs) μ
def t__law_far_5 : TS3 := (sRet (vVar 7))
def t__law_far_4 : TS3 := sSeq (sFor (iRg1 (vCons (vOp gAdd (vCB gLen (vCons (vVar 2) vNil)) (vC (.int 1))) vNil)) (gN 8) (sFor (iAny (vVar 5)) (gT [(gN 9), (gN 10), (gN 11)]) (sSeq (sIf (vB (vOp (gIn true) (vVar 9) (vVar 7))) sCont sNext) (sIf (vOr (vB (vOp (gIn true) (vVar 10) (vVar 7))) (vB (vOp gLt (vOp gAdd (vOp gAt (vVar 7) (vVar 9)) (vVar 11)) (vOp gAt (vVar 7) (vVar 10))))) (sSub gSet (vOp gAdd (vOp gAt (vVar 7) (vVar 9)) (vVar 11)) (vVar 7) (vVar 10)) sNext)))) t__law_far_5
def t__law_far_3 : TS3 := sSeq (sSet 7 (vDispT [((vVar 1), (vC (.int 0)))])) t__law_far_4
def t__law_far_2 : TS3 := sSeq (sSet 5 (vOp gAdd (vVar 5) (vLc (iAny (vVar 2)) (gN 6) vYes (vTup (vCons (vVar 6) (vCons (vC (.str "")) (vCons (vC (.int 0)) vNil)))) [6]))) t__law_far_3
def t__law_far_1 : TS3 := sSeq (sSet 5 (vOp gAdd (vCB gList (vCons (vVar 3) vNil)) (vLc (iAny (vVar 4)) (gN 6) vYes (vTup (vCons (vC (.str "")) (vCons (vVar 6) (vCons (vOp gAt (vVar 4) (vVar 6)) vNil)))) [6]))) t__law_far_2
def t__law_far : TS3 := sSeq (sAsg (vVar 0) (gT [(gN 2), (gN 3), (gN 4)])) t__law_far_1
theorem look_of {caps : Lims} (nd : (caps.map (·.1)).Nodup) {p : Str × Int} (h : p ∈ caps) : caps.lookup p.1 = some p.2 := by
  induction caps with
  | nil => cases h
  | cons a r ih =>
    rw [List.map_cons, List.nodup_cons] at nd
    rw [List.lookup_cons]
    rcases List.mem_cons.mp h with rfl | h
    · simp
    · have : (p.1 == a.1) = false := by
        simp only [beq_eq_false_iff_ne]
        intro q
        exact nd.1 (q ▸ List.mem_map.mpr ⟨p, h, rfl⟩)
      rw [this]
      exact ih nd.2 h
theorem dic_k {μ : Mu} {q : Addr} {kvs : List (Key × D)} (h : μ q = some (.dct kvs)) : dicOf μ (.ref q) = some (.k kvs) := by simp only [dicOf, h]
theorem get_k {kvs : List (Key × D)} {f : Str → Option Int} (r : RepF kvs f) (e : Str) : (Dic.k kvs).get (.str e) = some ((f e).map D.int) := by
  show some (valD kvs (.inr e)) = _
  rw [r e]
theorem pure__law_far (ds : List D) (μ : Mu) (R : DK) (hl : ds.length = 2) (h : sp__law_far ds μ R) : t__law_far (endsOf R) (start3 ["_law_model_here", "_law_begin", "_law_marks", "_law_cords", "_law_caps", "_law_rows", "_law_event", "_law_found", "_law_turn", "_law_one", "_law_other", "_law_lag_here"] ds) μ := by
  obtain ⟨marks, ties, caps, b, rfl, ok, h⟩ := h
  have hsl : sizeLine = 16777216 := by decide
  have l1 := ok.e.le
  have l2 := ok.t.le
  have l3 := lims_len ok.l
  show t__law_far (endsOf R) [some (mdD marks ties caps), some (.str b), none, none, none, none, none, none, none, none, none, none] μ
  unfold t__law_far
  walk_at "l3"
  show t__law_far_1 (endsOf R) [some (mdD marks ties caps), some (.str b), some (.lst (sds marks)), some (.lst (ties.map tieD)), some (.dct (limK caps)), none, none, none, none, none, none, none] μ
  unfold t__law_far_1 t__law_far_2
  walk_at "l3"
  refine ⟨_, _, rfl, rfl, ?_⟩
  have ek : ((limK caps).map fun kv => keyD kv.1) = caps.map fun p => .str p.1 := by
    unfold limK; rw [List.map_map]; rfl
  show lcW _ _ _ _ _ _ ((limK caps).map fun kv => keyD kv.1) _ _
  rw [ek]
  refine lcg_map _ (fun p => tieD ("", p.1, p.2)) trivial caps [] (fun p hp => ⟨_, rfl, fun R' hR => ?_⟩) (by simp; omega) ?_
  · walk_at "l3"
    refine at_d (c := .k (limK caps)) (d := .int p.2) rfl (by show some _ = some _; rw [val_lim, look_of ok.l.nd hp]; rfl) ⟨by rw [hsl]; show 3 ≤ _; decide, hR⟩
  refine ⟨_, _, rfl, rfl, by simp; omega, ?_⟩
  refine lcg_map _ (fun e => tieD (e, "", 0)) trivial marks [] (fun p hp => ⟨_, rfl, fun R' hR => ?_⟩) (by simp; omega) ?_
  · walk_at "l3"
    exact ⟨by rw [hsl]; show 3 ≤ _; decide, hR⟩
  refine ⟨_, _, rfl, rfl, by simp; omega, ?_⟩
  have er : (ties.map tieD ++ ([] ++ caps.map fun p => tieD ("", p.1, p.2))) ++ ([] ++ marks.map fun e => tieD (e, "", 0)) = (lawRows marks ties caps).map tieD := by
    unfold lawRows; simp; rfl
  rw [er]
  have lr : (lawRows marks ties caps).length ≤ 76 := by unfold lawRows; simp; omega
  generalize hrows : lawRows marks ties caps = rows at lr ⊢
  unfold t__law_far_3 t__law_far_4
  walk_at "l3"
  refine ⟨_, rfl, by show 1 ≤ 15; decide, fun q hq => ?_⟩
  have e0 : mergeD [] [((.inr b : Key), D.int 0)] = [(.inr b, .int 0)] := rfl
  refine gLen_of (xs := sds marks) rfl ?_
  walk_at "l3"
  have hsm : (sds marks).length = marks.length := by simp [sds]
  rw [hsm]
  refine ⟨by omega, by omega, ?_⟩
  have e1 : ((marks.length : Nat) + 1 : Int).toNat = marks.length + 1 := by omega
  rw [e1]
  refine for_rg (fun k δ μ' => Le μ μ' ∧ (∃ kvs, μ' q = some (.dct kvs) ∧ RepF kvs (farF rows k (far0 b)) ∧ kvs.length ≤ 1 + 76 * k) ∧ ∃ y8 y9 y10 y11, δ = [some (mdD marks ties caps), some (.str b), some (.lst (sds marks)), some (.lst (ties.map tieD)), some (.dct (limK caps)), some (.lst (rows.map tieD)), none, some (.ref q), y8, y9, y10, y11])
    ⟨(Le.refl μ).mset hq, ⟨_, mset_same, fun e => ?_, Nat.le_refl _⟩, none, none, none, none, rfl⟩ ?_ ?_
  · show valD [(.inr b, .int 0)] (.inr e) = _
    unfold farF far0 valD
    by_cases h : e = b
    · subst h; simp
    · have h2 : ¬ b = e := fun z => h z.symm
      simp [h, h2]
  · rintro δ μ1 ⟨le, ⟨kvs, eq, rep, _⟩, y8, y9, y10, y11, rfl⟩
    unfold t__law_far_5
    walk_at "l3"
    refine fin_dct le eq hq (h kvs ?_)
    unfold farL
    rw [hrows]
    exact rep
  · rintro k δ μ1 hk ⟨le, ⟨kvs, eq, rep, len⟩, y8, y9, y10, y11, rfl⟩ N hN
    walk_at "l3"
    refine for_ix (rows.map tieD) (fun j δ μ' => Le μ μ' ∧ (∃ kvs, μ' q = some (.dct kvs) ∧ RepF kvs (turnF (rows.take j) (farF rows k (far0 b))) ∧ kvs.length ≤ 1 + 76 * k + j) ∧ ∃ y9 y10 y11, δ = [some (mdD marks ties caps), some (.str b), some (.lst (sds marks)), some (.lst (ties.map tieD)), some (.dct (limK caps)), some (.lst (rows.map tieD)), none, some (.ref q), some (.int (0 + (k : Nat))), y9, y10, y11])
      ⟨le, ⟨kvs, eq, rep, by omega⟩, _, _, _, rfl⟩ ?_ ?_
    · rintro δ μ2 ⟨le2, ⟨kvs, eq, rep, len⟩, y9, y10, y11, rfl⟩
      refine ⟨trivial, hN _ _ ⟨le2, ⟨kvs, eq, ?_, ?_⟩, _, _, _, _, rfl⟩⟩
      · rw [List.length_map, List.take_length] at rep
        exact rep
      · rw [List.length_map] at len; omega
    · rintro j d δ μ2 hd ⟨le2, ⟨kvs, eq, rep, len⟩, y9, y10, y11, rfl⟩
      obtain ⟨t, et, rfl⟩ := map_at hd
      have jl := lt_at et
      refine ⟨trivial, _, rfl, fun N2 hN2 => ?_⟩
      generalize hf : turnF (rows.take j) (farF rows k (far0 b)) = f at rep
      have stp : turnF (rows.take (j + 1)) (farF rows k (far0 b)) = rlF f t := by
        rw [take_snoc et]
        unfold turnF
        rw [List.foldl_append]
        show rlF (turnF (rows.take j) (farF rows k (far0 b))) t = _
        rw [hf]
      have nxt : ∀ μ', Le μ μ' → (∃ kvs, μ' q = some (.dct kvs) ∧ RepF kvs (rlF f t) ∧ kvs.length ≤ 1 + 76 * k + (j + 1)) → N2 [some (mdD marks ties caps), some (.str b), some (.lst (sds marks)), some (.lst (ties.map tieD)), some (.dct (limK caps)), some (.lst (rows.map tieD)), none, some (.ref q), some (.int (0 + (k : Nat))), some (.str t.1), some (.str t.2.1), some (.int t.2.2)] μ' := fun μ' a c => hN2 _ _ ⟨a, by rw [stp]; exact c, _, _, _, rfl⟩
      walk_at "l3"
      refine in_d (dic_k eq) (get_k rep t.1) ?_
      cases h1 : f t.1 with
      | none =>
        simp only [Option.map_none, Option.isSome_none, Bool.not_false, if_true]
        refine nxt _ le2 ⟨kvs, eq, fun e => ?_, by omega⟩
        rw [rep e]
        unfold rlF
        rw [h1]
      | some u =>
        simp only [Option.map_some, Option.isSome_some, Bool.not_true, if_true, Bool.false_eq_true, if_false]
        have thn : bet (f t.2.1) (u + t.2.2) = true → gAt (.ref q) (.str t.1) μ2 fun x μ1 => gAdd x (.int t.2.2) μ1 fun d μ1 => gSet (.ref q) (.str t.2.1) d μ1 fun μ3 => N2 [some (mdD marks ties caps), some (.str b), some (.lst (sds marks)), some (.lst (ties.map tieD)), some (.dct (limK caps)), some (.lst (rows.map tieD)), none, some (.ref q), some (.int (0 + (k : Nat))), some (.str t.1), some (.str t.2.1), some (.int t.2.2)] μ3 := fun hb => by
          refine at_d (d := .int u) (dic_k eq) (by rw [get_k rep t.1, h1]; rfl) ?_
          rw [gAdd_ii]
          refine set_k eq (by omega) (k := .inr t.2.1) rfl (nxt _ (le2.mset hq) ⟨_, mset_same, fun e => ?_, Nat.le_trans putD_len (by omega)⟩)
          rw [valD_put, rep e]
          unfold rlF
          rw [h1]
          simp only [hb, true_and]
          by_cases q : e = t.2.1
          · subst q; simp
          · have : ¬ (Sum.inr e : Key) = .inr t.2.1 := fun z => q (Sum.inr.inj z)
            simp only [q, this, if_false]
        have els : bet (f t.2.1) (u + t.2.2) = false → N2 [some (mdD marks ties caps), some (.str b), some (.lst (sds marks)), some (.lst (ties.map tieD)), some (.dct (limK caps)), some (.lst (rows.map tieD)), none, some (.ref q), some (.int (0 + (k : Nat))), some (.str t.1), some (.str t.2.1), some (.int t.2.2)] μ2 := fun hb => by
          refine nxt _ le2 ⟨kvs, eq, fun e => ?_, by omega⟩
          rw [rep e]
          unfold rlF
          rw [h1]
          simp only [hb, Bool.false_eq_true, false_and, if_false]
        refine in_d (dic_k eq) (get_k rep t.2.1) ?_
        cases h2 : f t.2.1 with
        | none =>
          simp only [Option.map_none, Option.isSome_none, Bool.not_false, if_true]
          exact thn (by rw [h2]; rfl)
        | some v =>
          simp only [Option.map_some, Option.isSome_some, Bool.not_true, if_true, Bool.false_eq_true, if_false]
          refine at_d (d := .int u) (dic_k eq) (by rw [get_k rep t.1, h1]; rfl) ?_
          walk_at "l3"
          refine at_d (d := .int v) (dic_k eq) (by rw [get_k rep t.2.1, h2]; rfl) ?_
          walk_at "l3"
          by_cases hw : u + t.2.2 < v
          · simp only [hw, decide_true, if_true]
            exact thn (by rw [h2]; exact decide_eq_true hw)
          · simp only [hw, decide_false, Bool.false_eq_true, if_false]
            exact els (by rw [h2]; exact decide_eq_false hw)

end C1

namespace C1
open PySem PySem.Spec L2 L3 C2
local macro_rules | `(tactic| walk_at "l3") => `(tactic| simp only [sSeq, sNext, sIf, sRet, sRetN, sSet, sDrop, sSub, sFor, sAsg, sPar2, sPar3, sCont, sFld3, sFld2, sAug, vVar, vC, vNil, vCons, vOp, vB, vChain, vAnd, vOr, vNot, vAndV, vOrV, vNotV, vIf, vUn, vCB, vLst, vTup, vLstT, vCall, vCal, vMak, vMetA, vFld, vSl, vPart, vNoP, vLc, vLcT, vDc, vBM, vBM0, vGet1, vGet2, vItems, vRev, vLRg, vStar, iRg1, iRg2, iRgD, iAny, iEnm, iItm, iVal, vDict0, vDict0T, vDict0N, vDisp, vDispT, vPairs,
  List.getElem?_cons_zero, List.getElem?_cons_succ, List.set_cons_zero, List.set_cons_succ, wipe3, endsOf_rt, endsOf_nx, gLt, gLe, gGt, gGe, L3.gSub, gMul, gMod, gDiv, gPow, g2I, g2I0, gN, gT, gGo, Option.bind_some, gAdd_ii, gAdd_ss, gNeg_i, gMax2_ii, gMin2_ii, gLen_s, gEqS_ii, gEqS_ss, gEqS_bb, gNeS_ii, gNeS_ss, gIsN_n, gNotN_n, gSl_s, isNonD, if_true, if_false, Bool.false_eq_true, Bool.not_true, Bool.not_false])
/-! ### the law's leads -/
def LdOk (marks : List Str) (ties : List Tie) (caps : Lims) (kvs : List (Key × D)) : Prop := ∀ b ∈ ("" : Str) :: marks, ∃ kb, valD kvs (.inr b) = some (.dct kb) ∧ RepF kb (farL marks ties caps b)
theorem name_ne {e : Str} (h : nameT e = true) : e ≠ ("" : Str) := by
  rintro rfl
  exact absurd h (by decide +kernel)
theorem lc_leads {Pm : Mu → Prop} {μ : Mu} {δ : St3} {R : List D → Mu → Prop} {marks : List Str} {ties : List Tie} {caps : Lims} (hP : Pm μ) (h0 : δ[0]? = some (some (mdD marks ties caps))) (hl : δ.length = 2) (ok : PlOk marks ties caps) : ∀ (todo done : List Str) (acc : List (Key × D)), acc.map (·.1) = done.map Sum.inr →
    (∀ p ∈ acc, ∃ b kb, p = (.inr b, .dct kb) ∧ RepF kb (farL marks ties caps b)) → (done ++ todo).length ≤ 100 →
    (∀ acc : List (Key × D), acc.map (·.1) = (done ++ todo).map Sum.inr → (∀ p ∈ acc, ∃ b kb, p = (.inr b, .dct kb) ∧ RepF kb (farL marks ties caps b)) → R (acc.map pairD) μ) →
    lcW Pm (gN 1) vYes (vTup (vCons (vVar 1) (vCons (vCall 2 sp__law_far (vCons (vVar 0) (vCons (vVar 1) vNil))) vNil))) δ R (sds todo) (acc.map pairD) μ
  | [], done, acc, e, h, _, k => ⟨hP, k acc (by rw [List.append_nil]; exact e) h⟩
  | b :: r, done, acc, e, h, hn, k => by
    have hsl : sizeLine = 16777216 := by decide
    have la : acc.length = done.length := by
      have := congrArg List.length e
      simpa using this
    refine ⟨hP, by rw [List.length_map, la]; simp at hn; omega, ?_⟩
    have e1 : (δ.set 1 (some (D.str b)))[1]? = some (some (.str b)) := by simp [hl]
    have e2 : (δ.set 1 (some (D.str b)))[0]? = some (some (mdD marks ties caps)) := by rw [List.getElem?_set_ne (by decide)]; exact h0
    simp only [gN, vYes, if_true, vTup, vCons, vCall, vVar, vNil, e1, e2]
    refine ⟨rfl, marks, ties, caps, b, rfl, ok, fun kb rep => ⟨by rw [hsl]; show 2 ≤ _; decide, ?_⟩⟩
    have := lc_leads hP h0 hl ok r (done ++ [b]) (acc ++ [(.inr b, .dct kb)]) (by simp [e]) (fun p hp => by
      rcases List.mem_append.mp hp with hp | hp
      · exact h p hp
      · rw [List.mem_singleton.mp hp]; exact ⟨b, kb, rfl, rep⟩) (by simpa using hn) (fun acc a1 a2 => k acc (by simpa using a1) a2) (R := R)
    rw [List.map_append] at this
    exact this
def sp__law_leads : Sp3 := fun ds μ R => ∃ marks ties caps, ds = [mdD marks ties caps] ∧ PlOk marks ties caps ∧ ∀ kvs, LdOk marks ties caps kvs → R (.dct kvs) μ
def t__law_leads : TS3 := (sRet (vCB (gDict false) (vCons (vLc (iAny (vOp gAdd (vLst (vCons (vC (.str "")) vNil)) (vOp gAt (vVar 0) (vC (.int 0))))) (gN 1) vYes (vTup (vCons (vVar 1) (vCons (vCall 2 sp__law_far (vCons (vVar 0) (vCons (vVar 1) vNil))) vNil))) [1]) vNil)))
theorem pure__law_leads (ds : List D) (μ : Mu) (R : DK) (hl : ds.length = 1) (h : sp__law_leads ds μ R) : t__law_leads (endsOf R) (start3 ["_law_model_here", "_law_begin"] ds) μ := by
  obtain ⟨marks, ties, caps, rfl, ok, h⟩ := h
  have hsl : sizeLine = 16777216 := by decide
  have l1 := ok.e.le
  show t__law_leads (endsOf R) [some (mdD marks ties caps), none] μ
  unfold t__law_leads
  walk_at "l3"
  refine ⟨by rw [hsl]; show 1 ≤ _; decide, at_l (xs := modelL marks _ _) (d := .lst (sds marks)) rfl ⟨_, _, rfl, rfl, by simp [sds]; omega, ?_⟩⟩
  have nd : (("" : Str) :: marks).Nodup := List.nodup_cons.mpr ⟨fun h => name_ne (ok.e.nm _ h) rfl, ok.e.nd⟩
  show lcW (fun _ => True) (gN 1) vYes _ [some (mdD marks ties caps), none] _ (sds ("" :: marks)) (([] : List (Key × D)).map pairD) μ
  refine lc_leads (δ := [some (mdD marks ties caps), none]) (marks := marks) (ties := ties) (caps := caps) trivial rfl rfl ok (("" : Str) :: marks) [] [] rfl (fun p h => nomatch h) (by simp; omega) fun acc a1 a2 => ?_
  refine ⟨_, acc, rfl, .inr ⟨acc, rfl, ?_⟩, ?_⟩
  · have := merge_new acc [] (by rw [List.nil_append, a1]; exact List.Pairwise.map _ (fun a b h q => h (Sum.inr.inj q)) nd)
    rw [this]; rfl
  · refine fin_now (h acc fun b hb => ?_)
    have hk : (Sum.inr b : Key) ∈ acc.map (·.1) := by rw [a1]; exact List.mem_map.mpr ⟨b, hb, rfl⟩
    have ex : ∃ d, valD acc (.inr b) = some d := by
      obtain ⟨p, hp, e⟩ := List.mem_map.mp hk
      have : (acc.any fun kv => decide (kv.1 = .inr b)) = true := List.any_eq_true.mpr ⟨p, hp, decide_eq_true e⟩
      rw [any_valD] at this
      exact Option.isSome_iff_exists.mp this
    obtain ⟨d, ed⟩ := ex
    have ed' := ed
    unfold valD at ed'
    obtain ⟨p, ep, rfl⟩ := Option.map_eq_some_iff.mp ed'
    obtain ⟨b', kb, rfl, rep⟩ := a2 p (List.mem_of_find?_eq_some ep)
    have := List.find?_some ep
    have e2 : b' = b := Sum.inr.inj (of_decide_eq_true this)
    subst e2
    exact ⟨kb, ed, rep⟩
/-! ### both ways give the same leads -/
theorem Wk.map {N M : Type} [DecidableEq N] [DecidableEq M] {rows : List (N × N × Int)} {rows' : List (M × M × Int)} (f : N → M) (h : ∀ r ∈ rows, (f r.1, f r.2.1, r.2.2) ∈ rows') {a b : N} {w : Int} {k : Nat} (q : Wk rows a b w k) : Wk rows' (f a) (f b) w k := by
  induction q with
  | nil a => exact .nil _
  | cons e _ ih => exact .cons (h _ e) ih
def phi : Nd → Str
  | none => ""
  | some e => e
def psi (e : Str) : Nd := if e = "" then none else some e
theorem psi_phi {marks : List Str} (ok : EvOk marks) {a : Nd} (h : a ∈ plNodes marks) : psi (phi a) = a := by
  cases a with
  | none => rfl
  | some e =>
    have he : e ∈ marks := by
      rcases List.mem_cons.mp h with h | h
      · cases h
      · obtain ⟨x, hx, q⟩ := List.mem_map.mp h
        cases q; exact hx
    unfold psi phi
    rw [if_neg (name_ne (ok.nm e he))]
theorem mem_limsOf {marks : List Str} {caps : Lims} (lk : LiOk marks caps) {p : Str × Int} : p ∈ limsOf marks caps ↔ p ∈ caps := by
  constructor
  · intro h
    obtain ⟨e, he, q⟩ := List.mem_filterMap.mp h
    obtain ⟨v, hv, rfl⟩ := Option.map_eq_some_iff.mp q
    exact look_mem hv
  · intro h
    refine List.mem_filterMap.mpr ⟨p.1, lk.a p h, ?_⟩
    rw [look_of lk.nd h]; rfl
theorem mem_lawRows {marks : List Str} {ties : List Tie} {caps : Lims} {r : Tie} : r ∈ lawRows marks ties caps ↔ r ∈ ties ∨ (∃ p ∈ caps, r = (("" : Str), p.1, p.2)) ∨ ∃ e ∈ marks, r = (e, ("" : Str), 0) := by
  unfold lawRows
  rw [List.mem_append, List.mem_append, or_assoc, List.mem_map, List.mem_map]
  refine or_congr Iff.rfl (or_congr ?_ ?_)
  · exact ⟨fun ⟨p, a, b⟩ => ⟨p, a, b.symm⟩, fun ⟨p, a, b⟩ => ⟨p, a, b.symm⟩⟩
  · exact ⟨fun ⟨p, a, b⟩ => ⟨p, a, b.symm⟩, fun ⟨p, a, b⟩ => ⟨p, a, b.symm⟩⟩
theorem walk_iff {marks : List Str} {ties : List Tie} {caps : Lims} (ok : PlOk marks ties caps) {a b : Nd} (ha : a ∈ plNodes marks) (hb : b ∈ plNodes marks) {w : Int} {k : Nat} : Wk ((planRows marks ties (limsOf marks caps)).map (·.1)) a b w k ↔ Wk (lawRows marks ties caps) (phi a) (phi b) w k := by
  constructor
  · exact Wk.map phi fun r hr => by
      rw [mem_lawRows]
      rcases mem_rows.mp hr with ⟨t, ht, rfl⟩ | ⟨p, hp, rfl⟩ | ⟨e, he, rfl⟩
      · exact .inl ht
      · exact .inr (.inl ⟨p, (mem_limsOf ok.l).mp hp, rfl⟩)
      · exact .inr (.inr ⟨e, he, rfl⟩)
  · intro h
    have key := Wk.map (rows' := (planRows marks ties (limsOf marks caps)).map (·.1)) psi (fun r hr => by
      have ps : ∀ e ∈ marks, psi e = some e := fun e he => by unfold psi; rw [if_neg (name_ne (ok.e.nm e he))]
      have p0 : psi "" = none := rfl
      rw [mem_rows]
      rcases mem_lawRows.mp hr with ht | ⟨p, hp, rfl⟩ | ⟨e, he, rfl⟩
      · left; exact ⟨r, ht, by rw [ps _ (ok.t.a r ht), ps _ (ok.t.b r ht)]⟩
      · right; left; exact ⟨p, (mem_limsOf ok.l).mpr hp, by simp only [p0, ps _ (ok.l.a p hp)]⟩
      · right; right; exact ⟨e, he, by simp only [p0, ps e he]⟩) h
    rw [psi_phi ok.e ha, psi_phi ok.e hb] at key
    exact key
theorem law_isD {marks : List Str} {ties : List Tie} {caps : Lims} (ok : PlOk marks ties caps) (b e : Str) : IsD (lawRows marks ties caps) b e (farL marks ties caps b e) := by
  have key : ∀ r ∈ lawRows marks ties caps, 0 ≤ r.2.2 ∧ r.1 ∈ ("" : Str) :: marks := fun r hr => by
    rcases mem_lawRows.mp hr with ht | ⟨p, hp, rfl⟩ | ⟨e, he, rfl⟩
    · exact ⟨ok.t.c r ht, List.mem_cons_of_mem _ (ok.t.a r ht)⟩
    · exact ⟨ok.l.c p hp, List.mem_cons_self⟩
    · exact ⟨Int.le_refl _, List.mem_cons_of_mem _ he⟩
  refine farF_isD (nodes := ("" : Str) :: marks) (fun r hr => (key r hr).1) (fun r hr => (key r hr).2) (Nat.le_refl _) (by simp [far0]) (fun x v h => ?_) e
  unfold far0 at h
  split at h
  · rename_i q; cases h; rw [q]; exact ⟨0, .nil b⟩
  · cases h
theorem lead_eq {marks : List Str} {ties : List Tie} {caps : Lims} (ok : PlOk marks ties caps) {a b : Nd} (ha : a ∈ plNodes marks) (hb : b ∈ plNodes marks) : (plT marks ties (limsOf marks caps)).L a b = farL marks ties caps (phi a) (phi b) := by
  have ok' : PlOk marks ties (limsOf marks caps) := ⟨ok.e, ok.t, limsOf_ok ok.e ok.l, ok.r⟩
  have h1 := plan_isD ok' ha hb
  have h2 := law_isD ok (phi a) (phi b)
  refine IsD.uniq (rows := lawRows marks ties caps) (a := phi a) (b := phi b) ⟨fun v e => ?_, fun w k q => ?_⟩ h2
  · obtain ⟨k, q⟩ := h1.sound v e
    exact ⟨k, (walk_iff ok ha hb).mp q⟩
  · exact h1.least w k ((walk_iff ok ha hb).mpr q)

end C1

namespace L3
open PySem PySem.Spec PyProof.Rows L2
section
variable {X : Cx} {Z : Zn X.kn}
/-! ### xs.remove(k), ints -/
theorem rpsI_of {K : Kn} {F : Addr → Prop} {H : Hp} : ∀ {ns : List Int} {vs : List V}, Rps K F H (ns.map D.int) vs → vs = ns.map V.int
  | [], _, h => by cases h; rfl
  | n :: r, _, h => by
    cases h with
    | cons a t => cases a; rw [rpsI_of t]; rfl
theorem rpsI_to {K : Kn} {F : Addr → Prop} {H : Hp} : ∀ ns : List Int, Rps K F H (ns.map D.int) (ns.map V.int)
  | [] => .nil
  | n :: r => .cons (.int n) (rpsI_to r)
def gRem : GM := fun x ds μ R => ∃ (a : Addr) (ns : List Int) (k : Int) (j : Nat), x = .ref a ∧ ds = [.int k] ∧ μ a = some (.lst (ns.map D.int)) ∧ ns[j]? = some k ∧ (∀ m : Nat, m < j → ns[m]? ≠ some k) ∧ R .non (mset μ a (.lst ((ns.eraseIdx j).map D.int)))
theorem m_remove : MtL X Z "list.remove" "list" gRem := ⟨_, mt_remove, fun F H μ x ds vx vs R Q s rx rs q k => by
  obtain ⟨a, ns, i, j, rfl, rfl, e, h1, h2, q⟩ := q
  obtain ⟨v, rfl, r⟩ := one_of rs
  cases r
  cases rx
  obtain ⟨_, us, e3, rr⟩ := s.obj _ _ e
  obtain rfl := rpsI_of rr
  have g := s.putS (o := .lst ((ns.eraseIdx j).map V.int)) (m := .lst ((ns.eraseIdx j).map D.int)) e fun g' e' => ⟨_, e', rpsI_to _⟩
  exact ⟨a, ns, i, j, rfl, rfl, e3, h1, h2, k _ _ _ _ _ g .non q⟩⟩
/-! ### what is never reached -/
def vNever : TE3 := fun _ _ _ => False
theorem e_never {e : Expr} : E3 X Z e vNever := ⟨fun pins s σ H Q I h => by
  obtain ⟨_, _, _, _, _, _, h, _⟩ := h
  exact h.elim⟩
end
end L3

namespace PySem.SeqAt
open AutoSeq1 (wpAny_loadPart')
open MeetsSeq MeetsSeq2 MeetsSeq3 SeqRoads2
section
variable {prog : Program} {w : World}
theorem ne_loopIn (l b : Addr) (wA wB : Array Value) (n nB : Nat) (dd ddB : Option Addr) (sl slB : Array (Option Value)) (hze : wA.size = wB.size) (e : Nat → Bool) (k : Nat) :
    ∀ i : Nat, wA.size - i = k → MeetsIn prog w (Builtin.«list.__eq__.loop» ⟨[.ref l, .ref b, rawInt i, rawInt 3], []⟩)
      (fun A R s => s.heap.get? l = some { cls := .type "list", dict := dd, data := .seq wA n, slots := sl } ∧ s.heap.get? b = some { cls := .type "list", dict := ddB, data := .seq wB nB, slots := slB } ∧
        (∀ j (h1 : j < wA.size) (h2 : j < wB.size), EqIn prog w A.in1 s wA[j] wB[j] (e j)) ∧
        R (.ok (.ret (.bool (!((List.range wA.size).drop i).all e)))) s) := by
  induction k with
  | zero =>
    intro i hk A R s h
    obtain ⟨hp, g, d, tk, os⟩ := s
    obtain ⟨gA, gB, he, h⟩ := h
    wp_walk using wpAny_loadPart' gA, wpAny_loadPart' gB
    have hi1 : wA[((i : Nat) : Int).toNat]? = none := by simp; omega
    have hi2 : wB[((i : Nat) : Int).toNat]? = none := by simp; omega
    have hd : (List.range wA.size).drop i = [] := by simp; omega
    rw [hd] at h
    rw [hi1, hi2]
    wp_walk using wpAny_loadPart' gA, wpAny_loadPart' gB
    show R (.ok (.ret (.bool (wA.size != wB.size)))) _
    rw [hze]
    simpa using h
  | succ k ih =>
    intro i hk A R s h
    obtain ⟨hp, g, d, tk, os⟩ := s
    obtain ⟨gA, gB, he, h⟩ := h
    wp_walk using wpAny_loadPart' gA, wpAny_loadPart' gB
    have a1 : i < wA.size := by omega
    have a2 : i < wB.size := by omega
    have b1 : wA[((i : Nat) : Int).toNat]? = some wA[i] := by simp [a1]
    have b2 : wB[((i : Nat) : Int).toNat]? = some wB[i] := by simp [a2]
    have hd : (List.range wA.size).drop i = i :: (List.range wA.size).drop (i + 1) := by simp [List.drop_eq_getElem_cons, a1]
    have hc : ((i : Int) + 1) = ((i + 1 : Nat) : Int) := by push_cast; rfl
    rw [hd, List.all_cons] at h
    rw [b1, b2]
    refine wpAny_bind (he i a1 a2 _ _ ?_)
    cases qb : e i with
    | true =>
      rw [qb] at h
      wp_walk
      rw [hc]
      exact ⟨plainId_quiet plain_eq_loop _, codeAny_builtin entry_eq_loop (by
        rw [Around.under_plainId plain_eq_loop _]
        exact ih (i + 1) (by omega) A R _ ⟨gA, gB, he, by simpa using h⟩)⟩
    | false =>
      rw [qb] at h
      wp_walk using wpAny_loadPart' gA, wpAny_loadPart' gB
      rw [b1, b2]
      wp_walk
      simpa using h
theorem list_neIn (l b : Addr) (wA wB : Array Value) (n nB : Nat) (dd ddB : Option Addr) (sl slB : Array (Option Value)) (hze : wA.size = wB.size) (e : Nat → Bool) :
    MeetsIn prog w (Builtin.«list.__ne__» ⟨[.ref l, .ref b], []⟩)
      (fun A R s => s.heap.get? l = some { cls := .type "list", dict := dd, data := .seq wA n, slots := sl } ∧ s.heap.get? b = some { cls := .type "list", dict := ddB, data := .seq wB nB, slots := slB } ∧
        (∀ j (h1 : j < wA.size) (h2 : j < wB.size), EqIn prog w A.in1 s wA[j] wB[j] (e j)) ∧
        R (.ok (.ret (.bool (!(List.range wA.size).all e)))) s) := by
  intro A R s h
  obtain ⟨hp, g, d, tk, os⟩ := s
  obtain ⟨gA, gB, he, h⟩ := h
  have f3 := AutoSeq1.sub_list_list
  have hne : ¬ (wA.size != wB.size) = true := by simp [hze]
  wp_walk using wpAny_loadPart' gA, wpAny_loadPart' gB
  exact ⟨plainId_quiet plain_eq_loop _, codeAny_builtin entry_eq_loop (by
    rw [Around.under_plainId plain_eq_loop _]
    exact ne_loopIn l b wA wB n nB dd ddB sl slB hze e _ 0 rfl A R _ ⟨gA, gB, he, by simpa using h⟩)⟩
theorem rcNeIn_lists {A : Around} {s : Shared} {E : Value → Shared → Prop} {l b : Addr} {wA wB : Array Value} {e : Nat → Bool} {Q : Value → Shared → Prop} (gA : s.heap.IsList l wA) (gB : s.heap.IsList b wB) (hze : wA.size = wB.size) (hu : A.units < cLine)
    (he : ∀ j (h1 : j < wA.size) (h2 : j < wB.size), EqIn prog w A.in1 s wA[j] wB[j] (e j)) (h : Q (.bool (!(List.range wA.size).all e)) s) : wpAny (model prog w) A (richCompare .NotEq (.ref l) (.ref b)) Q E s := by
  obtain ⟨⟨cls, dd, data, sl⟩, ho, hc, n, hd⟩ := id gA
  obtain ⟨⟨clsB, ddB, dataB, slB⟩, oB, cB, nB, dB⟩ := id gB
  simp only at hc hd cB dB
  subst hc hd cB dB
  have ta : s.TypeIs (.ref l) "list" := ⟨_, ho, rfl⟩
  have tb : s.TypeIs (.ref b) "list" := ⟨_, oB, rfl⟩
  exact wpAny_richCompare_same_room (op := .NotEq) ta tb F.slot_list_ne (call_meetsIn F.slot_list_ne ta F.entry_list_ne (F.args_list_ne_2 _ _) (list_neIn l b wA wB n nB dd ddB sl slB hze e)
    ⟨ho, oB, he, show Value.bool (!(List.range wA.size).all e) ≠ Value.notImplemented ∧ Q (.bool (!(List.range wA.size).all e)) s from ⟨(fun x => nomatch x), h⟩⟩) hu
end
end PySem.SeqAt

namespace L3
open PySem PySem.Spec PyProof.Rows L2
/-! ### == over trees -/
/-- x == y answers b, at most n deep -/
inductive Eqs (μ : Mu) : Nat → D → D → Bool → Prop
  | flat {n : Nat} {x y : D} : flatD x = true → flatD y = true → Eqs μ n x y (eqD x y)
  | lstR {n : Nat} {x y : D} {xs ys : List D} {e same : Nat → Bool} : lstOf μ x = some xs → lstOf μ y = some ys → xs.length = ys.length → (∀ j a b, xs[j]? = some a → ys[j]? = some b → same j = false → Eqs μ n a b (e j)) →
      (∀ j a b, xs[j]? = some a → ys[j]? = some b → same j = true → (∃ p, a = .ref p ∧ b = .ref p) ∧ e j = true) → Eqs μ (n + 1) x y ((List.range xs.length).all e)
  | len {n : Nat} {x y : D} {xs ys : List D} : lstOf μ x = some xs → lstOf μ y = some ys → xs.length ≠ ys.length → Eqs μ (n + 1) x y false
  | tup {n : Nat} {xs ys : List D} {e : Nat → Bool} : (∀ j a b, xs[j]? = some a → ys[j]? = some b → Eqs μ n a b (e j)) → Eqs μ (n + 1) (.tup xs) (.tup ys) ((List.range (min xs.length ys.length)).all e && xs.length == ys.length)
  | dct {n : Nat} {x y : D} {ks ls : List (Key × D)} {e : Key → Bool} : dctOf μ x = some ks → dctOf μ y = some ls → (∀ k a b, valD ks k = some a → valD ls k = some b → Eqs μ n a b (e k)) → Eqs μ (n + 1) x y (ks.length == ls.length && ks.all fun p => (valD ls p.1).isSome && e p.1)
theorem Eqs.lst {μ : Mu} {n : Nat} {x y : D} {xs ys : List D} {e : Nat → Bool} (h1 : lstOf μ x = some xs) (h2 : lstOf μ y = some ys) (h3 : xs.length = ys.length) (h4 : ∀ j a b, xs[j]? = some a → ys[j]? = some b → Eqs μ n a b (e j)) : Eqs μ (n + 1) x y ((List.range xs.length).all e) :=
  .lstR (same := fun _ => false) h1 h2 h3 (fun j a b ha hb _ => h4 j a b ha hb) (fun _ _ _ _ _ z => by cases z)
section
variable {K : Kn} {Z : Zn K} {F : Addr → Prop} {H : Hp} {μ : Mu}
theorem eqD_self {x : D} (h : flatD x = true) : eqD x x = true := by
  cases x <;> first | rfl | (cases h; done) | simp [eqD]
theorem flat_inj {x y : D} {v : V} (r : Rp K F H x v) (q : Rp K F H y v) (h : flatD x = true) (h' : flatD y = true) : x = y := by
  cases r <;> first | (cases h; done) | (cases q <;> first | rfl | (cases h'; done))
theorem rd_dK {p : Addr} {vs us : List (Key × V)} (h : Rd H p (.dK vs)) (h' : Rd H p (.dK us)) : vs = us := by
  rcases h with h | ⟨o, h⟩ <;> rcases h' with h' | ⟨o', h'⟩ <;> rw [h] at h' <;> cases h' <;> rfl
theorem Rpk.val' {ds : List (Key × D)} {vs : List (Key × V)} {k : Key} {d : D} (r : Rpk K F H ds vs) (h : valD ds k = some d) : ∃ v, valV vs k = some v ∧ Rp K F H d v := (Rpk.val (k := k) r).1 d h
theorem Rpk.some {ds : List (Key × D)} {vs : List (Key × V)} (r : Rpk K F H ds vs) (k : Key) : (valD ds k).isSome = (valV vs k).isSome := by
  obtain ⟨h1, h2⟩ := Rpk.val (k := k) r
  cases e : valD ds k with
  | none => rw [h2 e]; rfl
  | some d => obtain ⟨v, e2, _⟩ := h1 d e; rw [e2]; rfl
theorem valD_mem {ds : List (Key × D)} {p : Key × D} (h : p ∈ ds) : ∃ d, valD ds p.1 = some d := by
  unfold valD
  cases e : ds.find? fun kv => decide (kv.1 = p.1) with
  | none => rw [List.find?_eq_none] at e; exact absurd (by simp) (e p h)
  | some q => exact ⟨q.2, rfl⟩
theorem Eqs.same (s : Sim Z F H μ) {n : Nat} {x y : D} {b : Bool} (h : Eqs μ n x y b) : ∀ {v : V}, Rp K F H x v → Rp K F H y v → b = true := by
  induction h with
  | flat hx hy => intro v r q; rw [flat_inj r q hx hy]; exact eqD_self hy
  | @lstR n x y xs ys e same ex ey hl _ hs ih =>
    intro v r q
    obtain ⟨p, vs, rfl, e1, r1⟩ := lst_of s r ex
    obtain ⟨p2, us, e0, e2, r2⟩ := lst_of s q ey
    cases e0
    rw [e1] at e2
    cases e2
    refine List.all_eq_true.mpr fun j hj => ?_
    rw [List.mem_range] at hj
    obtain ⟨w, e3, r3⟩ := r1.get (List.getElem?_eq_getElem hj)
    obtain ⟨w2, e4, r4⟩ := r2.get (List.getElem?_eq_getElem (hl ▸ hj))
    rw [e3] at e4
    cases e4
    cases z : same j with
    | true => exact (hs j _ _ (List.getElem?_eq_getElem hj) (List.getElem?_eq_getElem (hl ▸ hj)) z).2
    | false => exact ih j _ _ (List.getElem?_eq_getElem hj) (List.getElem?_eq_getElem (hl ▸ hj)) z r3 r4
  | len ex ey hl =>
    intro v r q
    obtain ⟨p, vs, rfl, e1, r1⟩ := lst_of s r ex
    obtain ⟨p2, us, e0, e2, r2⟩ := lst_of s q ey
    cases e0
    rw [e1] at e2
    cases e2
    exact absurd (r1.length.trans r2.length.symm) hl
  | @tup n xs ys e _ ih =>
    intro v r q
    cases r with
    | tup f e1 r1 =>
      cases q with
      | tup f2 e2 r2 =>
        rw [e1] at e2
        cases e2
        have hl : xs.length = ys.length := r1.length.trans r2.length.symm
        rw [Bool.and_eq_true]
        refine ⟨List.all_eq_true.mpr fun j hj => ?_, by simp [hl]⟩
        rw [List.mem_range] at hj
        have j1 : j < xs.length := by omega
        have j2 : j < ys.length := by omega
        obtain ⟨w, e3, r3⟩ := r1.get (List.getElem?_eq_getElem j1)
        obtain ⟨w2, e4, r4⟩ := r2.get (List.getElem?_eq_getElem j2)
        rw [e3] at e4
        cases e4
        exact ih j _ _ (List.getElem?_eq_getElem j1) (List.getElem?_eq_getElem j2) r3 r4
  | @dct n x y ks ls e ex ey _ ih =>
    intro v r q
    obtain ⟨p, vs, rfl, e1, r1⟩ := dct_of s r ex
    obtain ⟨p2, us, e0, e2, r2⟩ := dct_of s q ey
    cases e0
    have := rd_dK e1 e2
    subst this
    rw [Bool.and_eq_true]
    refine ⟨by simp [r1.length, r2.length], List.all_eq_true.mpr fun kd hk => ?_⟩
    obtain ⟨d, hd⟩ := valD_mem hk
    obtain ⟨w, e3, r3⟩ := r1.val' hd
    have hs : (valD ls kd.1).isSome = true := by rw [r2.some, e3]; rfl
    obtain ⟨d2, hd2⟩ := Option.isSome_iff_exists.mp hs
    obtain ⟨w2, e4, r4⟩ := r2.val' hd2
    rw [e3] at e4
    cases e4
    rw [hs, Bool.true_and]
    exact ih kd.1 d d2 hd hd2 r3 r4
end
section
variable {X : Cx} {Z : Zn X.kn} {F : Addr → Prop} {H : Hp} {μ : Mu} {pins : List (Addr × Obj)} {s : Shared} {σ : L2.St}
theorem flat_tree {x y : D} {vx vy : V} {v u : Value} {n : Nat} (r : Rp X.kn F H x vx) (q : Rp X.kn F H y vy) (h : flatD x = true) (h' : flatD y = true) (rv : RelV vx v) (ru : RelV vy u) (A : Around) : SeqAt.EqAt A s v u (eqD x y) := by
  have flt : ∀ {z : D} {vz : V} {t : Value}, Rp X.kn F H z vz → flatD z = true → RelV vz t → (z = .non ∧ t = .none) ∨ (∃ b, z = .bl b ∧ t = .bool b) ∨ (∃ i k, z = .int i ∧ t = .int i k) ∨ ∃ i k, z = .str i ∧ t = .str i k := by
    intro z vz t rz hz rt
    cases rz <;> first | (cases hz; done) | skip
    · exact .inl ⟨rfl, rt⟩
    · exact .inr (.inl ⟨_, rfl, rt⟩)
    · obtain ⟨k, e⟩ := rt; exact .inr (.inr (.inl ⟨_, k, rfl, e⟩))
    · obtain ⟨k, e⟩ := rt; exact .inr (.inr (.inr ⟨_, k, rfl, e⟩))
  rcases flt r h rv with ⟨rfl, rfl⟩ | ⟨b, rfl, rfl⟩ | ⟨i, k, rfl, rfl⟩ | ⟨i, k, rfl, rfl⟩ <;> rcases flt q h' ru with ⟨rfl, rfl⟩ | ⟨b', rfl, rfl⟩ | ⟨i', k', rfl, rfl⟩ | ⟨i', k', rfl, rfl⟩
  · exact SeqAt.EqAt.same _
  · exact SeqAt.EqAt.none_bool _
  · exact SeqAt.EqAt.none_int _ _
  · exact SeqAt.EqAt.none_str _ _
  · exact SeqAt.EqAt.bool_none _
  · exact SeqAt.EqAt.bool_bool _ _
  · exact SeqAt.EqAt.bool_int _ _ _
  · exact SeqAt.EqAt.bool_str _ _ _
  · exact SeqAt.EqAt.int_none _ _
  · exact SeqAt.EqAt.int_bool _ _ _
  · exact SeqAt.EqAt.int_int _ _ _ _
  · exact SeqAt.EqAt.int_str _ _ _ _
  · exact SeqAt.EqAt.str_none _ _
  · exact SeqAt.EqAt.str_bool _ _ _
  · exact SeqAt.EqAt.str_int _ _ _ _
  · exact SeqAt.EqAt.str_str _ _ _ _
theorem Inv.dic (I : Inv X pins σ H s) {p : Addr} {vs : List (Key × V)} (h : Rd H p (.dK vs)) : (p == sysModules) = false ∧ ∃ us, KV vs us ∧ s.heap.DictOf (mixKind X.prog X.w) p us := by
  rcases h with h | ⟨o, h⟩
  · obtain ⟨_, y, us, r, d⟩ := (show ObjOk X.prog X.w H s.heap p (.dK vs) from I.hok p _ h)
    exact ⟨y, us, r, d⟩
  · obtain ⟨_, _, y, us, r, d⟩ := (show ObjOk X.prog X.w H s.heap p (.frz o (.dK vs)) from I.hok p _ h)
    exact ⟨y, us, r, d⟩
theorem valueAt_mem {α : Type} [DecidableEq α] {us : List (α × Value)} (n : (us.map (·.1)).Nodup) {k : α} {v : Value} (h : (k, v) ∈ us) : valueAt us k = some v := by
  induction us with
  | nil => cases h
  | cons p r ih =>
    rw [List.map_cons, List.nodup_cons] at n
    rcases List.mem_cons.mp h with e | h
    · subst e; simp [valueAt]
    · have ne : p.1 ≠ k := fun e => n.1 (e ▸ List.mem_map_of_mem (f := (·.1)) h)
      have := ih n.2 h
      simpa [valueAt, List.find?_cons, ne] using this
/-- the answer of two dicts, told of the trees -/
theorem dic_ans {ks ls : List (Key × D)} {e : Key → Bool} {va vb : List (Key × V)} {ua ub : List (Key × Value)} (r1 : Rpk X.kn F H ks va) (r2 : Rpk X.kn F H ls vb) (q1 : KV va ua) (q2 : KV vb ub) :
    (ua.length == ub.length && ua.all fun p => (valueAt ub p.1).isSome && e p.1) = (ks.length == ls.length && ks.all fun p => (valD ls p.1).isSome && e p.1) := by
  have h1 : ua.length = ks.length := by rw [← q1.length, ← r1.length]
  have h2 : ub.length = ls.length := by rw [← q2.length, ← r2.length]
  have hk : ua.map (·.1) = ks.map (·.1) := by rw [← q1.keys, ← r1.keys]
  have h3 : ∀ k, (valueAt ub k).isSome = (valD ls k).isSome := fun k => by rw [← (q2.val k).isSome_eq, r2.some]
  rw [h1, h2]
  congr 1
  have a1 : (ua.all fun p => (valueAt ub p.1).isSome && e p.1) = (ua.map (·.1)).all fun k => (valD ls k).isSome && e k := by rw [List.all_map]; congr 1; funext p; simp [h3]
  have a2 : (ks.all fun p => (valD ls p.1).isSome && e p.1) = (ks.map (·.1)).all fun k => (valD ls k).isSome && e k := by rw [List.all_map]; rfl
  rw [a1, a2, hk]
theorem dic_kid {ks ls : List (Key × D)} {va vb : List (Key × V)} {ua ub : List (Key × Value)} (r1 : Rpk X.kn F H ks va) (r2 : Rpk X.kn F H ls vb) (q1 : KV va ua) (q2 : KV vb ub) (nd : (ua.map (·.1)).Nodup) {k : Key} {v y : Value} (hm : (k, v) ∈ ua) (hy : valueAt ub k = some y) :
    ∃ a b va' vb', valD ks k = some a ∧ valD ls k = some b ∧ Rp X.kn F H a va' ∧ Rp X.kn F H b vb' ∧ RelV va' v ∧ RelV vb' y := by
  have e1 := valueAt_mem nd hm
  have o1 := q1.val k
  have o2 := q2.val k
  rw [e1] at o1
  rw [hy] at o2
  have get : ∀ {ds : List (Key × D)} {vs : List (Key × V)} {z : Value}, Rpk X.kn F H ds vs → RelO (valV vs k) (some z) → ∃ a w, valD ds k = some a ∧ Rp X.kn F H a w ∧ RelV w z := fun {ds vs z} r o => by
    have hs : (valD ds k).isSome = true := by rw [r.some, o.isSome_eq]; rfl
    obtain ⟨a, ha⟩ := Option.isSome_iff_exists.mp hs
    obtain ⟨w, e, rw'⟩ := r.val' ha
    rw [e] at o
    exact ⟨a, w, ha, rw', o⟩
  obtain ⟨a, wa, ea, ra, ta⟩ := get r1 o1
  obtain ⟨b, wb, eb, rb, tb⟩ := get r2 o2
  exact ⟨a, b, wa, wb, ea, eb, ra, rb, ta, tb⟩
theorem Eqs.tree (sm : Sim Z F H μ) (I : Inv X pins σ H s) {n : Nat} {x y : D} {b : Bool} (h : Eqs μ n x y b) : ∀ {vx vy : V} {v u : Value}, Rp X.kn F H x vx → Rp X.kn F H y vy → RelV vx v → RelV vy u → PySem.W.EqTree X.prog X.w s n v u b := by
  have ref : ∀ {a : Addr} {v : Value}, RelV (.ref a) v → v = .ref a := fun h => h
  induction h with
  | flat hx hy => intro vx vy v u r q rv ru; exact .leaf fun A _ => flat_tree (n := 0) r q hx hy rv ru A
  | @lstR n x y xs ys e same ex ey hl hk hs ih =>
    intro vx vy v u r q rv ru
    have sm2 := fun {v : V} => Eqs.same (v := v) sm (Eqs.lstR ex ey hl hk hs)
    obtain ⟨p, vs, rfl, e1, r1⟩ := lst_of sm r ex
    obtain ⟨p2, us, rfl, e2, r2⟩ := lst_of sm q ey
    obtain rfl := ref rv
    obtain rfl := ref ru
    by_cases hne : p = p2
    · subst hne; rw [sm2 r q]; exact .same
    · obtain ⟨ws, t1, p1, _⟩ := I.list (SqL.of e1)
      obtain ⟨zs, t2, pp2, _⟩ := I.list (SqL.of e2)
      have l1 : ws.length = xs.length := by rw [← t1.length, r1.length]
      have l2 : zs.length = ys.length := by rw [← t2.length, r2.length]
      have := PySem.W.EqTree.lists (prog := X.prog) (w := X.w) (n := n) (e := e) hne p1.isList pp2.isList (by simp [l1, l2, hl]) (fun j h1 h2 => by
        have j1 : j < xs.length := by simpa [l1] using h1
        have j2 : j < ys.length := by simpa [l2] using h2
        obtain ⟨w1, c1, d1⟩ := r1.get (List.getElem?_eq_getElem j1)
        obtain ⟨w2, c2, d2⟩ := r2.get (List.getElem?_eq_getElem j2)
        obtain ⟨z1, f1, g1⟩ := t1.get c1
        obtain ⟨z2, f2, g2⟩ := t2.get c2
        have k1 : ws.toArray[j] = z1 := by
          have : ws[j]? = some z1 := f1
          rw [List.getElem?_eq_getElem (by simpa using h1)] at this
          simpa using this
        have k2 : zs.toArray[j] = z2 := by
          have : zs[j]? = some z2 := f2
          rw [List.getElem?_eq_getElem (by simpa using h2)] at this
          simpa using this
        rw [k1, k2]
        cases z : same j with
        | true =>
          obtain ⟨⟨c, ea, eb⟩, ee⟩ := hs j _ _ (List.getElem?_eq_getElem j1) (List.getElem?_eq_getElem j2) z
          rw [ea] at d1
          rw [eb] at d2
          cases d1
          cases d2
          obtain rfl := ref g1
          obtain rfl := ref g2
          rw [ee]
          exact .same
        | false => exact ih j _ _ (List.getElem?_eq_getElem j1) (List.getElem?_eq_getElem j2) z d1 d2 g1 g2)
      rw [List.size_toArray, l1] at this
      exact this
  | @len n x y xs ys ex ey hl =>
    intro vx vy v u r q rv ru
    have sm2 := fun {v : V} => Eqs.same (v := v) sm (Eqs.len (n := n) ex ey hl)
    obtain ⟨p, vs, rfl, e1, r1⟩ := lst_of sm r ex
    obtain ⟨p2, us, rfl, e2, r2⟩ := lst_of sm q ey
    obtain rfl := ref rv
    obtain rfl := ref ru
    by_cases hne : p = p2
    · subst hne; cases sm2 r q
    · obtain ⟨ws, t1, p1, _⟩ := I.list (SqL.of e1)
      obtain ⟨zs, t2, pp2, _⟩ := I.list (SqL.of e2)
      refine .listsLen hne p1.isList pp2.isList ?_
      have l1 : ws.length = xs.length := by rw [← t1.length, r1.length]
      have l2 : zs.length = ys.length := by rw [← t2.length, r2.length]
      simp [l1, l2, hl]
  | @tup n xs ys e hk ih =>
    intro vx vy v u r q rv ru
    have sm2 := fun {v : V} => Eqs.same (v := v) sm (Eqs.tup hk)
    cases r with
    | @tup _ vs p fr e1 r1 =>
      cases q with
      | @tup _ us p2 fr2 e2 r2 =>
        obtain rfl := ref rv
        obtain rfl := ref ru
        by_cases hne : p = p2
        · subst hne; rw [sm2 (.tup fr e1 r1) (.tup fr2 e2 r2)]; exact .same
        · obtain ⟨ws, t1, p1, _⟩ := I.tuple (SqT.of e1)
          obtain ⟨zs, t2, pp2, _⟩ := I.tuple (SqT.of e2)
          have l1 : ws.length = xs.length := by rw [← t1.length, r1.length]
          have l2 : zs.length = ys.length := by rw [← t2.length, r2.length]
          have := PySem.W.EqTree.tuples (prog := X.prog) (w := X.w) (n := n) (e := e) (vs := ws.toArray) (vs' := zs.toArray) hne p1 pp2 (fun j h1 h2 => by
            have j1 : j < xs.length := by simpa [l1] using h1
            have j2 : j < ys.length := by simpa [l2] using h2
            obtain ⟨w1, c1, d1⟩ := r1.get (List.getElem?_eq_getElem j1)
            obtain ⟨w2, c2, d2⟩ := r2.get (List.getElem?_eq_getElem j2)
            obtain ⟨z1, f1, g1⟩ := t1.get c1
            obtain ⟨z2, f2, g2⟩ := t2.get c2
            have k1 : ws.toArray[j] = z1 := by
              have : ws[j]? = some z1 := f1
              rw [List.getElem?_eq_getElem (by simpa using h1)] at this
              simpa using this
            have k2 : zs.toArray[j] = z2 := by
              have : zs[j]? = some z2 := f2
              rw [List.getElem?_eq_getElem (by simpa using h2)] at this
              simpa using this
            rw [k1, k2]
            exact ih j _ _ (List.getElem?_eq_getElem j1) (List.getElem?_eq_getElem j2) d1 d2 g1 g2)
          rw [List.size_toArray, List.size_toArray, l1, l2] at this
          exact this
  | @dct n x y ks ls e ex ey hk ih =>
    intro vx vy v u r q rv ru
    have sm2 := fun {v : V} => Eqs.same (v := v) sm (Eqs.dct ex ey hk)
    obtain ⟨p, vs, rfl, e1, r1⟩ := dct_of sm r ex
    obtain ⟨p2, us, rfl, e2, r2⟩ := dct_of sm q ey
    obtain rfl := ref rv
    obtain rfl := ref ru
    by_cases hne : p = p2
    · subst hne; rw [sm2 r q]; exact .same
    · obtain ⟨m1, ua, q1, D1⟩ := Inv.dic I e1
      obtain ⟨m2, ub, q2, D2⟩ := Inv.dic I e2
      have nd : (ua.map (·.1)).Nodup := by obtain ⟨_, _, _, _, _, _, _, _, nd⟩ := D1; exact nd
      have := PySem.W.EqTree.dicts (prog := X.prog) (w := X.w) (n := n) (e := e) hne m1 m2 D1 D2 (fun k v y hm hv => by
        obtain ⟨a, b, va', vb', ea, eb, ra, rb, ta, tb⟩ := dic_kid r1 r2 q1 q2 nd hm hv
        exact ih k a b ea eb ra rb ta tb)
      rw [dic_ans r1 r2 q1 q2] at this
      exact this
end
end L3

namespace PySem
open Sem (wp)
open PySem.W (KdxIt kdx_alive)
section
variable {prog : Program} {w : World} {A : Around} {E : Value → Shared → Prop} {s : Shared} {z TI TO T i1 i2 : Addr} {fq fr : List Addr} {nq nr i : Nat} {Pq Pr : Nat → Value → Prop} {Sq Sr : Nat → Heap → Prop} {ff : Bool} {oT : Obj}
/-- next of a zip whose last tuple is still held -/
theorem zipH_item {Q : Value → Shared → Prop} (S : ZipSep2 z TI TO i1 i2 fq fr) (D1 : Draws prog w A i1 fq nq Pq Sq) (D2 : Draws prog w A i2 fr nr Pr Sr)
    (hz : IsZipHeld s.heap z TI TO T ff) (hT : s.heap.get? T = some oT) (hTI : IsTupOf2 s.heap TI (.ref i1) (.ref i2)) (st1 : Sq i s.heap) (st2 : Sr i s.heap) (lq : i < nq) (lr : i < nr)
    (hQ : ∀ xq xr h' tk, Pq i xq → Pr i xr → IsZipHeld h' z TI TO T true → Sq (i + 1) h' → Sr (i + 1) h' → IsTupOf2 h' s.heap.objs.size xq xr → h'.objs.size = s.heap.objs.size + 1 →
      (∀ c o, c ≠ z → c ≠ i1 → c ≠ i2 → s.heap.get? c = some o → h'.get? c = some o) → Q (.ref s.heap.objs.size) { s with heap := h', toks := tk }) :
    wpAny (model prog w) A (Builtin.«zip.__next__» ⟨[.ref z], []⟩) (fun fin s' => ∃ v, fin = .done (.ret v) ∧ Q v s') E s := by
  obtain ⟨hp, g, dd, tk, os⟩ := s
  show wpAny _ _ (field (.ref z) 2 >>= _) _ _ ⟨hp, g, dd, tk, os⟩
  refine wpAny_bind (wpAny_field hz rfl (x := .bool false) rfl ?_)
  show wpAny _ _ (field (.ref z) 3 >>= _) _ _ ⟨hp, g, dd, tk, os⟩
  refine wpAny_bind (wpAny_field hz rfl (x := .ref TI) rfl (wpAny_bind (wpAny_seqItems hTI rfl ?_)))
  show wpAny _ _ (Builtin.SmallTypes.ownedTupleIsFree (.ref z) >>= _) _ _ ⟨hp, g, dd, tk, os⟩
  refine wpAny_bind (wpAny_tupleHeld_zip hz hT fun ha hza hsa => ?_)
  replace hsa : Heap.SameBut z hp ha := hsa
  simp only [Bool.false_eq_true, if_false]
  refine wpAny_bind ?_
  rw [← Array.forIn_toList]
  simp only [List.forIn_cons, List.forIn_nil]
  refine wpAny_bind (wpAny_bind (wpAny_holding ?_))
  show wpAny _ _ (Builtin.SmallTypes.nextOf (.ref i1) >>= _) _ _ ⟨ha, g, dd, tk, os⟩
  refine wpAny_bind (D1.item i _ _ _ lq (D1.over st1 hsa S.zf1) fun xq hb tb pq sb hsb => wpAny_pure ?_)
  replace hsb : Heap.SameBut i1 ha hb := hsb
  refine wpAny_pure ?_
  refine wpAny_bind (wpAny_bind (wpAny_holding ?_))
  show wpAny _ _ (Builtin.SmallTypes.nextOf (.ref i2) >>= _) _ _ ⟨hb, g, dd, tb, os⟩
  refine wpAny_bind (D2.item i _ _ _ lr (D2.over (D2.over st2 hsa S.zf2) hsb S.sep1_2) fun xr hc tc pr sc hsc => wpAny_pure ?_)
  replace hsc : Heap.SameBut i2 hb hc := hsc
  refine wpAny_pure (wpAny_pure ?_)
  show wpAny _ _ (newTuple [xq, xr] >>= _) _ _ ⟨hc, g, dd, tc, os⟩
  refine wpAny_bind (wpAny_newTuple ?_)
  have hN : hc.objs.size = hp.objs.size := by rw [hsc.1, hsb.1, hsa.1]
  have hzc : IsZipHeld hc z TI TO T true := hsc.extBut _ _ S.zi2 (hsb.extBut _ _ S.zi1 hza)
  have keep : ∀ c o, c ≠ z → c ≠ i1 → c ≠ i2 → hp.get? c = some o → hc.get? c = some o := fun c o c1 c2 c3 e => hsc.extBut _ _ c3 (hsb.extBut _ _ c2 (hsa.extBut _ _ c1 e))
  have sq : Sq (i + 1) hc := D1.over sb hsc S.sep2_1
  refine wpAny_pure ⟨_, rfl, ?_⟩
  show Q (.ref hc.objs.size) ⟨hc.push { cls := .type "tuple", data := .seq #[xq, xr] }, g, dd, tc, os⟩
  have hpr : IsTupOf2 (hc.push { cls := .type "tuple", data := .seq #[xq, xr] }) hc.objs.size xq xr := Heap.get?_push_size _ rfl
  have hz4 : (hc.push { cls := .type "tuple", data := .seq #[xq, xr] }).objs.size = hc.objs.size + 1 := Heap.size_push ..
  rw [hN] at hpr hz4 ⊢
  exact hQ xq xr _ tc pq pr (Heap.get?_push_of_some _ hzc) (D1.frame _ _ _ sq fun b _ o e => Heap.get?_push_of_some _ e) (D2.frame _ _ _ sc fun b _ o e => Heap.get?_push_of_some _ e) hpr hz4 fun c o c1 c2 c3 e => Heap.get?_push_of_some _ (keep c o c1 c2 c3 e)
theorem zipH_end {Q : Fin → Shared → Prop} (S : ZipSep2 z TI TO i1 i2 fq fr) (D1 : Draws prog w A i1 fq nq Pq Sq) (D2 : Draws prog w A i2 fr nr Pr Sr)
    (hz : IsZipHeld s.heap z TI TO T ff) (hT : s.heap.get? T = some oT) (hTI : IsTupOf2 s.heap TI (.ref i1) (.ref i2)) (st1 : Sq i s.heap) (st2 : Sr i s.heap) (lq : i ≤ nq) (lr : i ≤ nr) (hend : i = nq ∨ i = nr)
    (hE : ∀ h' tk e, (∀ c o, c ≠ z → c ≠ i1 → c ≠ i2 → s.heap.get? c = some o → h'.get? c = some o) → (∃ o, h'.get? e = some o ∧ o.cls = .type "StopIteration") → E (.ref e) { s with heap := h', toks := tk }) :
    wpAny (model prog w) A (Builtin.«zip.__next__» ⟨[.ref z], []⟩) Q E s := by
  obtain ⟨hp, g, dd, tk, os⟩ := s
  show wpAny _ _ (field (.ref z) 2 >>= _) _ _ ⟨hp, g, dd, tk, os⟩
  refine wpAny_bind (wpAny_field hz rfl (x := .bool false) rfl ?_)
  show wpAny _ _ (field (.ref z) 3 >>= _) _ _ ⟨hp, g, dd, tk, os⟩
  refine wpAny_bind (wpAny_field hz rfl (x := .ref TI) rfl (wpAny_bind (wpAny_seqItems hTI rfl ?_)))
  show wpAny _ _ (Builtin.SmallTypes.ownedTupleIsFree (.ref z) >>= _) _ _ ⟨hp, g, dd, tk, os⟩
  refine wpAny_bind (wpAny_tupleHeld_zip hz hT fun ha hza hsa => ?_)
  replace hsa : Heap.SameBut z hp ha := hsa
  simp only [Bool.false_eq_true, if_false]
  refine wpAny_bind ?_
  rw [← Array.forIn_toList]
  simp only [List.forIn_cons, List.forIn_nil]
  refine wpAny_bind (wpAny_bind (wpAny_holding ?_))
  show wpAny _ _ (Builtin.SmallTypes.nextOf (.ref i1) >>= _) _ _ ⟨ha, g, dd, tk, os⟩
  by_cases l1 : i < nq
  · refine wpAny_bind (D1.item i _ _ _ l1 (D1.over st1 hsa S.zf1) fun xq hb tb pq sb hsb => wpAny_pure ?_)
    replace hsb : Heap.SameBut i1 ha hb := hsb
    have e2 : i = nr := by omega
    refine wpAny_pure ?_
    refine wpAny_bind (wpAny_bind (wpAny_holding ?_))
    show wpAny _ _ (Builtin.SmallTypes.nextOf (.ref i2) >>= _) _ _ ⟨hb, g, dd, tb, os⟩
    refine wpAny_bind (D2.done ⟨hb, g, dd, tb, os⟩ _ _ (by rw [← e2]; exact D2.over (D2.over st2 hsa S.zf2) hsb S.sep1_2) fun q e hq he => ?_)
    exact hE q tb e (fun c o c1 c2 c3 x => hq _ _ c3 (hsb.extBut _ _ c2 (hsa.extBut _ _ c1 x))) he
  · have e1 : i = nq := by omega
    refine wpAny_bind (D1.done ⟨ha, g, dd, tk, os⟩ _ _ (by rw [← e1]; exact D1.over st1 hsa S.zf1) fun q e hq he => ?_)
    exact hE q tk e (fun c o c1 c2 c3 x => hq _ _ c2 (hsa.extBut _ _ c1 x)) he
theorem next_zipH_item {Q : Option Value → Shared → Prop} (S : ZipSep2 z TI TO i1 i2 fq fr) (D1 : Draws prog w A.in1 i1 fq nq Pq Sq) (D2 : Draws prog w A.in1 i2 fr nr Pr Sr)
    (hz : IsZipHeld s.heap z TI TO T ff) (hT : s.heap.get? T = some oT) (hTI : IsTupOf2 s.heap TI (.ref i1) (.ref i2)) (st1 : Sq i s.heap) (st2 : Sr i s.heap) (lq : i < nq) (lr : i < nr)
    (hQ : ∀ xq xr h' tk, Pq i xq → Pr i xr → IsZipHeld h' z TI TO T true → Sq (i + 1) h' → Sr (i + 1) h' → IsTupOf2 h' s.heap.objs.size xq xr → h'.objs.size = s.heap.objs.size + 1 →
      (∀ c o, c ≠ z → c ≠ i1 → c ≠ i2 → s.heap.get? c = some o → h'.get? c = some o) → Q (some (.ref s.heap.objs.size)) { s with heap := h', toks := tk }) : wpAny (model prog w) A (pyNext (.ref z)) Q E s := by
  have ty : s.TypeIs (.ref z) "zip" := ⟨_, hz, rfl⟩
  unfold pyNext
  exact wpAny_bind (wpAny_attempt (wpAny_callSpecial?_slot (name := Str.ofString "__next__") ty F.slot_zip_next (wpAny_call_entry F.slot_zip_next ty F.entry_zip_next
    (zipH_item S D1 D2 hz hT hTI st1 st2 lq lr fun xq xr h' tk pq pr b1 b2 b3 b4 b5 b6 => wpAny_pure (hQ xq xr h' tk pq pr b1 b2 b3 b4 b5 b6)) (F.args_zip_next_1 _))))
theorem next_zipH_end {Q : Option Value → Shared → Prop} (S : ZipSep2 z TI TO i1 i2 fq fr) (D1 : Draws prog w A.in1 i1 fq nq Pq Sq) (D2 : Draws prog w A.in1 i2 fr nr Pr Sr)
    (hz : IsZipHeld s.heap z TI TO T ff) (hT : s.heap.get? T = some oT) (hTI : IsTupOf2 s.heap TI (.ref i1) (.ref i2)) (st1 : Sq i s.heap) (st2 : Sr i s.heap) (lq : i ≤ nq) (lr : i ≤ nr) (hend : i = nq ∨ i = nr)
    (hQ : ∀ h' tk, (∀ c o, c ≠ z → c ≠ i1 → c ≠ i2 → s.heap.get? c = some o → h'.get? c = some o) → Q none { s with heap := h', toks := tk }) : wpAny (model prog w) A (pyNext (.ref z)) Q E s := by
  have ty : s.TypeIs (.ref z) "zip" := ⟨_, hz, rfl⟩
  unfold pyNext
  refine wpAny_bind (wpAny_attempt (wpAny_callSpecial?_slot (name := Str.ofString "__next__") ty F.slot_zip_next (wpAny_call_entry F.slot_zip_next ty F.entry_zip_next
    (zipH_end S D1 D2 hz hT hTI st1 st2 lq lr hend fun h' tk e hk he => ?_) (F.args_zip_next_1 _))))
  obtain ⟨o, ho, hc⟩ := he
  exact wpAny_bind (wpAny_isInstance (T := "StopIteration") (b := true) ⟨o, ho, hc⟩ isSubtype_stop (wpAny_pure (hQ _ _ hk)))
end
/-- zip of two things of any kind as what dict() is given -/
theorem PairArg.zipD {prog : Program} {w : World} {z TI TO i1 i2 : Addr} {fq fr : List Addr} {nq nr : Nat} {Pq Pr : Nat → Value → Prop} {Sq Sr : Nat → Heap → Prop} (S : ZipSep2 z TI TO i1 i2 fq fr)
    (DD1 : ∀ A : Around, A.handled = none → Draws prog w A i1 fq nq Pq Sq) (DD2 : ∀ A : Around, A.handled = none → Draws prog w A i2 fr nr Pr Sr) (th1 : ∀ h, Sq 0 h → ∀ b ∈ fq, ∃ o, h.get? b = some o) (th2 : ∀ h, Sr 0 h → ∀ b ∈ fr, ∃ o, h.get? b = some o) (A0 : ∃ A : Around, A.handled = none) :
    PairArg prog w "zip" z (z :: TI :: TO :: (fq ++ fr)) [z, TO, i1, i2] (min nq nr) (fun i k v => Pq i k ∧ Pr i v)
      (fun h => IsZip h z TI TO .none ∧ IsTupOf2 h TI (.ref i1) (.ref i2) ∧ (∃ a b, IsTupOf2 h TO a b) ∧ Sq 0 h ∧ Sr 0 h) where
  type := fun s ok => ⟨_, ok.1, rfl⟩
  notDict := by decide
  keep := fun h h' ok hk => by
    obtain ⟨A, hA⟩ := A0
    obtain ⟨hz, hTI, ⟨a, b, hTO⟩, h1, h2⟩ := ok
    exact ⟨hk _ _ hz, hk _ _ hTI, ⟨a, b, hk _ _ hTO⟩, (DD1 A hA).frame _ _ _ h1 fun b _ o e => hk _ o e, (DD2 A hA).frame _ _ _ h2 fun b _ o e => hk _ o e⟩
  there := fun h ok b hb => by
    obtain ⟨hz, hTI, ⟨a, c, hTO⟩, h1, h2⟩ := ok
    rcases List.mem_cons.mp hb with rfl | hb
    · exact ⟨_, hz⟩
    rcases List.mem_cons.mp hb with rfl | hb
    · exact ⟨_, hTI⟩
    rcases List.mem_cons.mp hb with rfl | hb
    · exact ⟨_, hTO⟩
    rcases List.mem_append.mp hb with hb | hb
    · exact th1 h h1 b hb
    · exact th2 h h2 b hb
  sub := fun b hb => by
    have hb' : b = z ∨ b = TO ∨ b = i1 ∨ b = i2 := by simpa using hb
    rcases hb' with rfl | rfl | rfl | rfl
    · simp
    · simp
    · simp [S.mem1]
    · simp [S.mem2]
  noKeys := fun A s Q E hA ok h => getAttrOr_miss_zip ok.1 rfl rfl rfl zip_no_keys (by decide +kernel) hA h
  iter := fun A s d Q E hA ok hd hdf h => by
    obtain ⟨hz, hTI, ⟨a, b, hTO⟩, h1, h2⟩ := ok
    have D1 := DD1 A.in1 hA
    have D2 := DD2 A.in1 hA
    simp only [List.mem_cons, List.mem_append, not_or] at hdf
    obtain ⟨dz, dTI, dTO, dq, dr⟩ := hdf
    have di1 : d ≠ i1 := fun e => dq (e ▸ S.mem1)
    have di2 : d ≠ i2 := fun e => dr (e ▸ S.mem2)
    refine wpAny_pyIter_zip hz (h z [z, TO, i1, i2] (fun i h => IsTupOf2 h TI (.ref i1) (.ref i2) ∧ Sq i h ∧ Sr i h ∧
      ((IsZip h z TI TO .none ∧ ∃ a b, IsTupOf2 h TO a b) ∨ ∃ T f oT, IsZipHeld h z TI TO T f ∧ h.get? T = some oT ∧ T ≠ z ∧ T ≠ i1 ∧ T ≠ i2 ∧ T ≠ d)) s.heap s.toks ?_
      ⟨hTI, h1, h2, .inl ⟨hz, a, b, hTO⟩⟩ (fun _ _ e => e) fun b hb => .inl hb)
    refine ⟨fun hm => ?_, fun i ha hb st hk => ?_, fun i s₁ Q₁ E₁ hi st hds hQ => ?_, fun s₁ Q₁ E₁ st hQ => ?_⟩
    · have hm' : d = z ∨ d = TO ∨ d = i1 ∨ d = i2 := by simpa using hm
      rcases hm' with e | e | e | e
      · exact dz e
      · exact dTO e
      · exact di1 e
      · exact di2 e
    · obtain ⟨hTI, h1, h2, hz⟩ := st
      refine ⟨hk _ _ (Ne.symm dTI) hTI, D1.frame _ _ _ h1 fun b hb o e => hk _ o (fun q => dq (q ▸ hb)) e, D2.frame _ _ _ h2 fun b hb o e => hk _ o (fun q => dr (q ▸ hb)) e, ?_⟩
      rcases hz with ⟨hz, a, b, hTO⟩ | ⟨T, f, oT, hz, hT, r1, r2, r3, r4⟩
      · exact .inl ⟨hk _ _ (Ne.symm dz) hz, a, b, hk _ _ (Ne.symm dTO) hTO⟩
      · exact .inr ⟨T, f, oT, hk _ _ (Ne.symm dz) hz, hk _ _ r4 hT, r1, r2, r3, r4⟩
    · obtain ⟨hTI, h1, h2, hz⟩ := st
      have lq : i < nq := Nat.lt_of_lt_of_le hi (Nat.min_le_left ..)
      have lr : i < nr := Nat.lt_of_lt_of_le hi (Nat.min_le_right ..)
      have lt : ∀ {c o}, s₁.heap.get? c = some o → s₁.heap.objs.size ≠ c := fun e => Nat.ne_of_gt (Heap.lt_size e)
      have m1 : s₁.heap.objs.size ≠ i1 := let ⟨_, e⟩ := D1.live _ _ h1; lt e
      have m2 : s₁.heap.objs.size ≠ i2 := let ⟨_, e⟩ := D2.live _ _ h2; lt e
      rcases hz with ⟨hz, a, b, hTO⟩ | ⟨T, f, oT, hz, hT, r1, r2, r3, r4⟩
      · refine wpAny_pyNext_zipD2_item S D1 D2 hz hTI hTO h1 h2 lq lr fun xq xr h' tk pq pr b1 b2 b3 b4 b5 b6 hk => ?_
        exact hQ s₁.heap.objs.size _ _ h' tk ⟨pq, pr⟩ (.inl ⟨_, b5, rfl, _, rfl⟩) ⟨hk _ _ S.TIz S.TITO S.TIi1 S.TIi2 hTI, b3, b4, .inr ⟨s₁.heap.objs.size, false, _, b1, b5, lt hz, m1, m2, Nat.ne_of_gt hds⟩⟩
          fun c o hc e => hk c o (fun x => hc (by simp [x])) (fun x => hc (by simp [x])) (fun x => hc (by simp [x])) (fun x => hc (by simp [x])) e
      · refine next_zipH_item S D1 D2 hz hT hTI h1 h2 lq lr fun xq xr h' tk pq pr b1 b3 b4 b5 b6 hk => ?_
        exact hQ s₁.heap.objs.size _ _ h' tk ⟨pq, pr⟩ (.inl ⟨_, b5, rfl, _, rfl⟩) ⟨hk _ _ S.TIz S.TIi1 S.TIi2 hTI, b3, b4, .inr ⟨T, true, oT, b1, hk _ _ r1 r2 r3 hT, r1, r2, r3, r4⟩⟩
          fun c o hc e => hk c o (fun x => hc (by simp [x])) (fun x => hc (by simp [x])) (fun x => hc (by simp [x])) e
    · obtain ⟨hTI, h1, h2, hz⟩ := st
      have hend : min nq nr = nq ∨ min nq nr = nr := by omega
      rcases hz with ⟨hz, a, b, hTO⟩ | ⟨T, f, oT, hz, hT, r1, r2, r3, r4⟩
      · exact wpAny_pyNext_zipD2_end S D1 D2 hz hTI hTO h1 h2 (Nat.min_le_left ..) (Nat.min_le_right ..) hend fun h' tk hk => hQ h' tk fun c o hc e => hk c o (fun x => hc (by simp [x])) (fun x => hc (by simp [x])) (fun x => hc (by simp [x])) (fun x => hc (by simp [x])) e
      · exact next_zipH_end S D1 D2 hz hT hTI h1 h2 (Nat.min_le_left ..) (Nat.min_le_right ..) hend fun h' tk hk => hQ h' tk fun c o hc e => hk c o (fun x => hc (by simp [x])) (fun x => hc (by simp [x])) (fun x => hc (by simp [x])) e
end PySem

namespace L2
open PySem PySem.Spec PyProof.Rows
def tDZip (K : PySem.W.Frag) (ta : TA) : TE := fun σ H Q => ta σ H fun vs H1 => ∃ (a b : Addr) (ks : List Key) (ys : List V), vs = [.ref a, .ref b] ∧ SqL K H1 a (ks.map kV) ∧ (SqL K H1 b ys ∨ SqT K H1 b ys) ∧
  ∀ p, H1 p = none → Q (.ref p) (upd H1 p (.dK (mergeK [] (ks.zip ys))))
section
variable {X : Cx} {pins : List (Addr × Obj)} {s : Shared} {σ : L2.St} {H : Hp}
theorem zip_kv {ks : List Key} {ys : List V} {us ws : List Value} (r1 : Vals (ks.map kV) us) (r2 : Vals ys ws) : KV (ks.zip ys) (ks.zip ws) := by
  induction ks generalizing ys us ws with
  | nil => exact .nil
  | cons k ks ih =>
    cases r2 with
    | nil => exact .nil
    | cons h t =>
      cases r1 with
      | cons h' t' => exact .cons ⟨rfl, h⟩ (ih t' t)
theorem dzip_run {a b : Addr} {ks : List Key} {ys : List V} {us ws : List Value} {o2 : Obj} {H2 : Heap → Prop} {St2 : Nat → Heap → Prop} {E : Value → Shared → Prop} {Q : Value → Shared → Prop} (I : Inv X pins σ H s) (hc : X.calm = true) (hl : s.heap.IsList a us.toArray) (r1 : Vals (ks.map kV) us) (r2 : Vals ys ws) (hz : us.length ≤ sizeLine) (ha : a < s.heap.objs.size) (hb : b < s.heap.objs.size)
    (B2 : Begins (.ref b) o2 H2) (h2 : H2 s.heap) (S2 : ∀ h', h'.get? (s.heap.objs.size + 1) = some o2 → H2 h' → St2 0 h') (D2 : ∀ A : Around, A.handled = none → Draws X.prog X.w A (s.heap.objs.size + 1) [s.heap.objs.size + 1, b] ws.length (fun i v => ws[i]? = some v) St2)
    (th2 : ∀ h, St2 0 h → ∀ c ∈ [s.heap.objs.size + 1, b], ∃ o, h.get? c = some o) (B2k : ∀ h', (∀ c o, s.heap.get? c = some o → h'.get? c = some o) → H2 h')
    (q : ∀ p s', Inv X pins σ (upd H p (.dK (mergeK [] (ks.zip ys)))) s' → H p = none → Q (.ref p) s') :
    wpAny (model X.prog X.w) X.A (call (.type "zip") [.ref a, .ref b]) (fun v s1 => wpAny (model X.prog X.w) X.A (call (.type "dict") [v]) Q E s1) E s := by
  have hh := I.ok.hd hc
  refine zip_begins2 (begins_list a us.toArray) B2 hl h2 fun h' hzp hTI hTO g1 g2 hsz hk => ?_
  have hl' : h'.IsList a us.toArray := hl.at fun o e => hk a o e
  have hne : a ≠ s.heap.objs.size := Nat.ne_of_lt ha
  have P := PairArg.zipD (prog := X.prog) (w := X.w) (fq := [s.heap.objs.size, a]) (fr := [s.heap.objs.size + 1, b]) (Sq := fun i h => h.IsListIter s.heap.objs.size a i ∧ h.IsList a us.toArray)
    (zip_sep2 (N := s.heap.objs.size) (fp1 := [a]) (fp2 := [b]) (by simpa using ha) (by simpa using hb)) (fun A hA => Draws.list hA _ a hne us.toArray) D2
    (fun h st c hc => by
      have hc' : c = s.heap.objs.size ∨ c = a := by simpa using hc
      rcases hc' with rfl | rfl
      · obtain ⟨⟨o, e, _⟩, _⟩ := st; exact ⟨o, e⟩
      · obtain ⟨_, ⟨o, e, _⟩⟩ := st; exact ⟨o, e⟩) th2 ⟨X.A, hh⟩
  have hlen : (ks.zip ws).length = min us.toArray.size ws.length := by
    rw [List.length_zip, List.size_toArray, ← r1.length, List.length_map]
  refine PySem.call_dict_pairs (knd := mixKind X.prog X.w) (kvs := ks.zip ws) P hh ⟨hzp, hTI, ⟨_, _, hTO⟩, ⟨⟨_, g1, rfl, rfl⟩, hl'⟩, S2 h' g2 (B2k h' hk)⟩ ⟨hlen, ?_⟩ (by rw [List.size_toArray]; omega) fun h'' tk hd hk2 => ?_
  · intro i key v hr
    obtain ⟨e1, e2⟩ := hr
    have e1' : us[i]? = some key := by simpa using e1
    obtain ⟨hi, _⟩ := List.getElem?_eq_some_iff.mp e1'
    have hi' : i < ks.length := by have := r1.length; rw [List.length_map] at this; omega
    obtain ⟨u, eu, ru⟩ := r1.get (i := i) (x := kV ks[i]) (by simp [hi'])
    rw [e1'] at eu
    cases eu
    refine ⟨ks[i], ?_, kV_is ru⟩
    rw [List.getElem?_zip_eq_some]
    exact ⟨List.getElem?_eq_getElem hi', e2⟩
  · have big := I.big
    have N1 : h'.objs.size = s.heap.objs.size + 5 := hsz
    have hp : s.heap.objs.size ≤ h'.objs.size := by omega
    have hm : (h'.objs.size == sysModules) = false := beq_eq_false_iff_ne.mpr (Nat.ne_of_gt (Nat.lt_of_lt_of_le big hp))
    have kv := zip_kv r1 r2
    have I2 := I.laid (t' := tk) (h' := h'') (a := h'.objs.size) (o := .dK (mergeK [] (ks.zip ys))) (fun c o e => hk2 c o (fun hm => by
        have lt := Heap.lt_size e
        have hm' : c = s.heap.objs.size + 4 ∨ c = s.heap.objs.size + 3 ∨ c = s.heap.objs.size ∨ c = s.heap.objs.size + 1 := by simpa using hm
        rcases hm' with rfl | rfl | rfl | rfl
        · exact absurd lt (Nat.not_lt.mpr (Nat.le_add_right _ _))
        · exact absurd lt (Nat.not_lt.mpr (Nat.le_add_right _ _))
        · exact absurd lt (Nat.lt_irrefl _)
        · exact absurd lt (Nat.not_lt.mpr (Nat.le_add_right _ _))) (hk c o e)) hp
      (show ObjOk X.prog X.w _ _ _ (.dK (mergeK [] (ks.zip ys))) from ⟨by
        refine Nat.le_trans (length_mergeK _ []) ?_
        rw [List.length_nil, Nat.zero_add, List.length_zip]
        have := r1.length
        rw [List.length_map] at this
        omega, hm, merged [] (ks.zip ws), KV.merge kv .nil, hd⟩)
    exact q _ _ I2 (I.hok.fresh hp)
theorem pe_dzip {e e2 : Expr} {ta : TA} {p p2 pos pos2 : Pos} (hc : X.calm = true) (hg : Gl X "dict") (hm : X.mg "dict" = none) (hg2 : Gl X "zip") (hm2 : X.mg "zip" = none) (ha : PA X [e, e2] ta)
    (hs : starEach [e, e2] X.env = (false, eval e X.env) :: starEach [e2] X.env := by rfl) (hpl : (backTo pos2 (starEach [e2] X.env)).any (·.1) = false := by rfl)
    (na : starEach [.Call (.Name "zip" p2) [e, e2] [] pos2] X.env = (false, eval (.Call (.Name "zip" p2) [e, e2] [] pos2) X.env) :: starEach [] X.env := by rfl) :
    PE X (.Call (.Name "dict" p) [.Call (.Name "zip" p2) [e, e2] [] pos2] [] pos) (tDZip X.K ta) := by
  refine ⟨fun pins s σ H Q I h => ?_⟩
  refine Call_ (ld_blt I hg hm boot_dict (PyProof.Rows.callWith_type1 (PyProof.Rows.args_cons ?_ na) na rfl))
  refine Call_ (ld_blt I hg2 hm2 PyProof.Rows.boot_zip (PyProof.Rows.callWith_type1 (thn (ha.run pos2 pins s σ H _ I h) fun us s1 ⟨vs, H1, I1, r1, q1⟩ => ?_) hs hpl))
  obtain ⟨a, b, ks, ys, ex, hqa, hqb, q1⟩ := q1
  subst ex
  obtain ⟨x1, x2, rfl, rx1, rx2⟩ := r1.two
  obtain rfl : x1 = Value.ref a := rx1
  obtain rfl : x2 = Value.ref b := rx2
  obtain ⟨ua, ra, pa, za⟩ := I1.list hqa
  have hz : ua.length ≤ sizeLine := by rw [← ra.length]; exact za
  have fin : ∀ p s', Inv X pins σ (upd H1 p (.dK (mergeK [] (ks.zip ys)))) s' → H1 p = none → EP X pins σ Q (.ref p) s' := fun p s' I' hp => ⟨.ref p, _, I', rfl, q1 p hp⟩
  have wrap : ∀ {s2 : Shared} {v : Value}, wpAny (model X.prog X.w) X.A (call (.type "dict") [v]) (EP X pins σ Q) X.xe s2 →
      wpAny (model X.prog X.w) X.A (spliced (backTo pos (starEach [] X.env))) (fun vs s2 => wpAny (model X.prog X.w) X.A (call (.type "dict") (v :: vs)) (EP X pins σ Q) X.xe s2) X.xe s2 := fun h => PyProof.Rows.args_nil h
  rcases hqb with hqb | hqb
  · obtain ⟨ub, rb, pb, _⟩ := I1.list hqb
    have nb : b ≠ s1.heap.objs.size + 1 := Nat.ne_of_lt (Nat.lt_succ_of_lt pb.lt)
    refine thn (dzip_run I1 hc pa.isList ra rb hz pa.lt pb.lt (begins_list b ub.toArray) pb.isList (St2 := fun i h => h.IsListIter (s1.heap.objs.size + 1) b i ∧ h.IsList b ub.toArray) (fun h' e hl => ⟨⟨_, e, rfl, rfl⟩, hl⟩)
      (fun A hA => ?_) (fun h st c hc => ?_) (fun h' k => pb.isList.at fun o e => k b o e) fin) ?_
    · have := Draws.list (prog := X.prog) (w := X.w) hA (s1.heap.objs.size + 1) b nb ub.toArray
      simpa using this
    · have hc' : c = s1.heap.objs.size + 1 ∨ c = b := by simpa using hc
      rcases hc' with rfl | rfl
      · obtain ⟨⟨o, e, _⟩, _⟩ := st; exact ⟨o, e⟩
      · obtain ⟨_, ⟨o, e, _⟩⟩ := st; exact ⟨o, e⟩
    · exact fun v s2 h => wrap h
  · obtain ⟨ub, rb, pb, _⟩ := I1.tuple hqb
    have lb : b < s1.heap.objs.size := by obtain ⟨o, e, _⟩ := pb; exact Heap.lt_size e
    have nb : b ≠ s1.heap.objs.size + 1 := Nat.ne_of_lt (Nat.lt_succ_of_lt lb)
    have pt : s1.heap.IsTuple b ub.toArray := pb
    refine thn (dzip_run I1 hc pa.isList ra rb hz pa.lt lb (begins_tuple b ub.toArray) pt (St2 := fun i h => h.IsTupleIter (s1.heap.objs.size + 1) b i ∧ h.IsTuple b ub.toArray) (fun h' e hl => ⟨⟨_, e, rfl, rfl⟩, hl⟩)
      (fun A hA => ?_) (fun h st c hc => ?_) (fun h' k => pt.at fun o e => k b o e) fin) ?_
    · have := Draws.tuple (prog := X.prog) (w := X.w) hA (s1.heap.objs.size + 1) b nb ub.toArray
      simpa using this
    · have hc' : c = s1.heap.objs.size + 1 ∨ c = b := by simpa using hc
      rcases hc' with rfl | rfl
      · obtain ⟨⟨o, e, _⟩, _⟩ := st; exact ⟨o, e⟩
      · obtain ⟨_, ⟨o, e, _⟩⟩ := st; exact ⟨o, e⟩
    · exact fun v s2 h => wrap h
end
end L2

namespace PySem.W
section
open PySem PySem.Spec
variable {prog : Program} {w : World} {κ : Type} [DecidableEq κ] {knd : KeyKind prog w κ} {A : Around} {E : Value → Shared → Prop} {s : Shared}
theorem keq_neIn {a b : Addr} {ka kb : List (κ × Value)} {r : Bool} {Q : Value → Shared → Prop} (ma : (a == sysModules) = false) (mb : (b == sysModules) = false) (da : s.heap.DictOf knd a ka) (db : s.heap.DictOf knd b kb) (hu : A.units < cLine)
    (hits : ka.length = kb.length → KeqHitsIn prog w A.in1 s kb ka r) (h : Q (.bool (!(ka.length == kb.length && r))) s) : wpAny (model prog w) A (compareOp .NotEq (.ref a) (.ref b)) Q E s := by
  refine wpAny_richCompare_same_room (op := .NotEq) da.typeIs db.typeIs PySem.F.slot_dict_ne (wpAny_call_entry PySem.F.slot_dict_ne da.typeIs PySem.F.entry_dict_ne (show wpAny _ _ (Builtin.Dict.dictSlotArgs "__ne__" ⟨[.ref a, .ref b], []⟩ >>= _) _ _ s from wpAny_bind ?_) (PySem.F.args_dict_ne_2 _ _)) hu
  unfold Builtin.Dict.dictSlotArgs
  refine wpAny_bind (wpAny_notOrdered_dict da.typeIs (show wpAny _ _ (pure (Value.ref a, Value.ref b)) _ _ s from wpAny_pure ?_))
  refine wpAny_bind (wpAny_isInstance (T := "dict") db.typeIs PySem.F.sub_dict_dict ?_)
  simp only [Bool.not_true, Bool.false_eq_true, if_false]
  refine wpAny_bind (wpAny_pure (wpAny_bind (wpAny_pure (wpAny_bind (keq_samePairsIn ma mb da db hits (wpAny_pure ⟨_, rfl, ?_, ?_⟩))))))
  · exact fun x => nomatch x
  · simpa using h
end
end PySem.W
namespace L3
open PySem PySem.Spec PyProof.Rows L2
section
variable {X : Cx} {Z : Zn X.kn}
/-! ### ==, != over trees -/
def rEqX (X : Cx) (op : CmpOp) : R2 := fun x y H Q => ∃ b, (∀ pins s σ v u, Inv X pins σ H s → RelV x v → RelV y u → ∀ (E Q' : Value → Shared → Prop), Q' (.bool b) s → wpAny (model X.prog X.w) X.A (compareOp op v u) Q' E s) ∧ Q (.bl b) H
theorem op_X {op : CmpOp} : OpR X (compareOp op) (rEqX X op) := fun pins s σ H x y v u Q I rx ry ⟨b, h, q⟩ => h pins s σ v u I rx ry _ _ ⟨.bl b, H, I, rfl, q⟩
/-- not a flat thing, not a tuple -/
def bigD : D → Bool
  | .tup _ => false
  | x => !flatD x
def gEqX : G2 := fun x y μ R => (∃ b, eqS x y = some b ∧ R (.bl b) μ) ∨ ∃ n b, n ≤ 60 ∧ flatD x = false ∧ Eqs μ n x y b ∧ R (.bl b) μ
def gNeX : G2 := fun x y μ R => (∃ b, eqS x y = some b ∧ R (.bl (!b)) μ) ∨ ∃ n b, n ≤ 60 ∧ bigD x = true ∧ Eqs μ n x y b ∧ R (.bl (!b)) μ
theorem arr_get {us : List Value} {j : Nat} {z : Value} (h : us[j]? = some z) (h1 : j < us.toArray.size) : us.toArray[j] = z := by
  rw [List.getElem?_eq_getElem (by simpa using h1)] at h
  simpa using h
theorem flat_not_lst {μ : Mu} {x : D} {xs : List D} (h : lstOf μ x = some xs) : flatD x = false := by cases x <;> first | rfl | cases h
theorem kid_tree {F : Addr → Prop} {H : Hp} {μ : Mu} {n : Nat} {x y : D} {b same : Bool} {vx vy : V} {v u : Value} {pins : List (Addr × Obj)} {s : Shared} {σ : L2.St} (sm : Sim Z F H μ) (I : Inv X pins σ H s) (h : same = false → Eqs μ n x y b) (hs : same = true → (∃ p, x = .ref p ∧ y = .ref p) ∧ b = true)
    (rx : Rp X.kn F H x vx) (ry : Rp X.kn F H y vy) (rv : RelV vx v) (ru : RelV vy u) : PySem.W.EqTree X.prog X.w s n v u b := by
  cases same with
  | false => exact (h rfl).tree sm I rx ry rv ru
  | true =>
    obtain ⟨⟨p, rfl, rfl⟩, rfl⟩ := hs rfl
    cases rx
    cases ry
    obtain rfl : v = Value.ref p := rv
    obtain rfl : u = Value.ref p := ru
    exact .same
theorem eq_run {k : Nat} (hr : RoomG k X.A) {F : Addr → Prop} {H : Hp} {μ : Mu} {n : Nat} {x y : D} {b : Bool} {vx vy : V} {v u : Value} {pins : List (Addr × Obj)} {s : Shared} {σ : L2.St} (sm : Sim Z F H μ) (I : Inv X pins σ H s) (hn : n ≤ 60) (hx : flatD x = false) (h : Eqs μ n x y b)
    (rx : Rp X.kn F H x vx) (ry : Rp X.kn F H y vy) (rv : RelV vx v) (ru : RelV vy u) (E Q : Value → Shared → Prop) (q : Q (.bool b) s) : wpAny (model X.prog X.w) X.A (compareOp .Eq v u) Q E s := by
  have hu : X.A.units + 64 < cLine := by have := hr.rm.un; omega
  have ref : ∀ {a : Addr} {v : Value}, RelV (.ref a) v → v = .ref a := fun h => h
  cases h with
  | flat h1 h2 => rw [hx] at h1; cases h1
  | @lstR m _ _ xs ys e same ex ey hl hk hs =>
    obtain ⟨p, vs, rfl, e1, r1⟩ := lst_of sm rx ex
    obtain ⟨p2, us, rfl, e2, r2⟩ := lst_of sm ry ey
    obtain rfl := ref rv
    obtain rfl := ref ru
    obtain ⟨ws, t1, p1, _⟩ := I.list (SqL.of e1)
    obtain ⟨zs, t2, pp2, _⟩ := I.list (SqL.of e2)
    have l1 : ws.length = xs.length := by rw [← t1.length, r1.length]
    have l2 : zs.length = ys.length := by rw [← t2.length, r2.length]
    refine PySem.W.eq_listsT (n := m) (e := e) p1.isList pp2.isList (by simp [l1, l2, hl]) (fun j h1 h2 => ?_) (by omega) (by rw [List.size_toArray, l1]; exact q)
    have j1 : j < xs.length := by simpa [l1] using h1
    have j2 : j < ys.length := by simpa [l2] using h2
    obtain ⟨w1, c1, d1⟩ := r1.get (List.getElem?_eq_getElem j1)
    obtain ⟨w2, c2, d2⟩ := r2.get (List.getElem?_eq_getElem j2)
    obtain ⟨z1, f1, g1⟩ := t1.get c1
    obtain ⟨z2, f2, g2⟩ := t2.get c2
    rw [arr_get f1 h1, arr_get f2 h2]
    exact kid_tree sm I (hk j _ _ (List.getElem?_eq_getElem j1) (List.getElem?_eq_getElem j2)) (hs j _ _ (List.getElem?_eq_getElem j1) (List.getElem?_eq_getElem j2)) d1 d2 g1 g2
  | @len m _ _ xs ys ex ey hl =>
    obtain ⟨p, vs, rfl, e1, r1⟩ := lst_of sm rx ex
    obtain ⟨p2, us, rfl, e2, r2⟩ := lst_of sm ry ey
    obtain rfl := ref rv
    obtain rfl := ref ru
    obtain ⟨ws, t1, p1, _⟩ := I.list (SqL.of e1)
    obtain ⟨zs, t2, pp2, _⟩ := I.list (SqL.of e2)
    have l1 : ws.length = xs.length := by rw [← t1.length, r1.length]
    have l2 : zs.length = ys.length := by rw [← t2.length, r2.length]
    exact SeqAt.RcAt.lists_lengths p1.isList pp2.isList (by simp [l1, l2, hl]) (by omega) X.prog X.w E Q q
  | @tup m xs ys e hk =>
    cases rx with
    | @tup _ vs p fr e1 r1 =>
      cases ry with
      | @tup _ us p2 fr2 e2 r2 =>
        obtain rfl := ref rv
        obtain rfl := ref ru
        obtain ⟨ws, t1, p1, _⟩ := I.tuple (SqT.of e1)
        obtain ⟨zs, t2, pp2, _⟩ := I.tuple (SqT.of e2)
        have l1 : ws.length = xs.length := by rw [← t1.length, r1.length]
        have l2 : zs.length = ys.length := by rw [← t2.length, r2.length]
        refine PySem.W.eq_tuplesT (n := m) (e := e) (vs := ws.toArray) (vs' := zs.toArray) p1 pp2 (fun j h1 h2 => ?_) (by omega) (by rw [List.size_toArray, List.size_toArray, l1, l2]; exact q)
        have j1 : j < xs.length := by simpa [l1] using h1
        have j2 : j < ys.length := by simpa [l2] using h2
        obtain ⟨w1, c1, d1⟩ := r1.get (List.getElem?_eq_getElem j1)
        obtain ⟨w2, c2, d2⟩ := r2.get (List.getElem?_eq_getElem j2)
        obtain ⟨z1, f1, g1⟩ := t1.get c1
        obtain ⟨z2, f2, g2⟩ := t2.get c2
        rw [arr_get f1 h1, arr_get f2 h2]
        exact (hk j _ _ (List.getElem?_eq_getElem j1) (List.getElem?_eq_getElem j2)).tree sm I d1 d2 g1 g2
  | @dct m _ _ ks ls e ex ey hk =>
    obtain ⟨p, vs, rfl, e1, r1⟩ := dct_of sm rx ex
    obtain ⟨p2, us, rfl, e2, r2⟩ := dct_of sm ry ey
    obtain rfl := ref rv
    obtain rfl := ref ru
    obtain ⟨m1, ua, q1, D1⟩ := L3.Inv.dic I e1
    obtain ⟨m2, ub, q2, D2⟩ := L3.Inv.dic I e2
    have nd : (ua.map (·.1)).Nodup := by obtain ⟨_, _, _, _, _, _, _, _, nd⟩ := D1; exact nd
    refine PySem.W.eq_dictsT (n := m) (e := e) m1 m2 D1 D2 (fun k v y hm hv => ?_) (by omega) (by rw [dic_ans r1 r2 q1 q2]; exact q)
    obtain ⟨a, b, va', vb', ea, eb, ra, rb, ta, tb⟩ := dic_kid r1 r2 q1 q2 nd hm hv
    exact (hk k a b ea eb).tree sm I ra rb ta tb
theorem ne_run {k : Nat} (hr : RoomG k X.A) {F : Addr → Prop} {H : Hp} {μ : Mu} {n : Nat} {x y : D} {b : Bool} {vx vy : V} {v u : Value} {pins : List (Addr × Obj)} {s : Shared} {σ : L2.St} (sm : Sim Z F H μ) (I : Inv X pins σ H s) (hn : n ≤ 60) (hx : bigD x = true) (h : Eqs μ n x y b)
    (rx : Rp X.kn F H x vx) (ry : Rp X.kn F H y vy) (rv : RelV vx v) (ru : RelV vy u) (E Q : Value → Shared → Prop) (q : Q (.bool (!b)) s) : wpAny (model X.prog X.w) X.A (compareOp .NotEq v u) Q E s := by
  have hu : X.A.units + 64 < cLine := by have := hr.rm.un; omega
  have ref : ∀ {a : Addr} {v : Value}, RelV (.ref a) v → v = .ref a := fun h => h
  cases h with
  | flat h1 h2 => cases x <;> first | (cases hx; done) | cases h1
  | @lstR m _ _ xs ys e same ex ey hl hk hs =>
    obtain ⟨p, vs, rfl, e1, r1⟩ := lst_of sm rx ex
    obtain ⟨p2, us, rfl, e2, r2⟩ := lst_of sm ry ey
    obtain rfl := ref rv
    obtain rfl := ref ru
    obtain ⟨ws, t1, p1, _⟩ := I.list (SqL.of e1)
    obtain ⟨zs, t2, pp2, _⟩ := I.list (SqL.of e2)
    have l1 : ws.length = xs.length := by rw [← t1.length, r1.length]
    have l2 : zs.length = ys.length := by rw [← t2.length, r2.length]
    refine SeqAt.rcNeIn_lists (e := e) p1.isList pp2.isList (by simp [l1, l2, hl]) (by omega) (fun j h1 h2 => ?_) (by rw [List.size_toArray, l1]; exact q)
    have j1 : j < xs.length := by simpa [l1] using h1
    have j2 : j < ys.length := by simpa [l2] using h2
    obtain ⟨w1, c1, d1⟩ := r1.get (List.getElem?_eq_getElem j1)
    obtain ⟨w2, c2, d2⟩ := r2.get (List.getElem?_eq_getElem j2)
    obtain ⟨z1, f1, g1⟩ := t1.get c1
    obtain ⟨z2, f2, g2⟩ := t2.get c2
    rw [arr_get f1 h1, arr_get f2 h2]
    exact (kid_tree sm I (hk j _ _ (List.getElem?_eq_getElem j1) (List.getElem?_eq_getElem j2)) (hs j _ _ (List.getElem?_eq_getElem j1) (List.getElem?_eq_getElem j2)) d1 d2 g1 g2).at X.A.in1 (by show X.A.units + 1 + _ < cLine; omega)
  | @len m _ _ xs ys ex ey hl =>
    obtain ⟨p, vs, rfl, e1, r1⟩ := lst_of sm rx ex
    obtain ⟨p2, us, rfl, e2, r2⟩ := lst_of sm ry ey
    obtain rfl := ref rv
    obtain rfl := ref ru
    obtain ⟨ws, t1, p1, _⟩ := I.list (SqL.of e1)
    obtain ⟨zs, t2, pp2, _⟩ := I.list (SqL.of e2)
    have l1 : ws.length = xs.length := by rw [← t1.length, r1.length]
    have l2 : zs.length = ys.length := by rw [← t2.length, r2.length]
    exact SeqAt.RcNeAt.lists_lengths p1.isList pp2.isList (by simp [l1, l2, hl]) (by omega) X.prog X.w E Q q
  | @tup m xs ys e hk => cases hx
  | @dct m _ _ ks ls e ex ey hk =>
    obtain ⟨p, vs, rfl, e1, r1⟩ := dct_of sm rx ex
    obtain ⟨p2, us, rfl, e2, r2⟩ := dct_of sm ry ey
    obtain rfl := ref rv
    obtain rfl := ref ru
    obtain ⟨m1, ua, q1, D1⟩ := L3.Inv.dic I e1
    obtain ⟨m2, ub, q2, D2⟩ := L3.Inv.dic I e2
    have nd : (ua.map (·.1)).Nodup := by obtain ⟨_, _, _, _, _, _, _, _, nd⟩ := D1; exact nd
    refine PySem.W.keq_neIn m1 m2 D1 D2 (by omega) (fun _ => PySem.W.KeqHitsIn.of (e := e) _ fun k v y hm hv => ?_) (by rw [dic_ans r1 r2 q1 q2]; exact q)
    obtain ⟨a, b, va', vb', ea, eb, ra, rb, ta, tb⟩ := dic_kid r1 r2 q1 q2 nd hm hv
    exact ((hk k a b ea eb).tree sm I ra rb ta tb).at X.A.in1 (by show X.A.units + 1 + _ < cLine; omega)
theorem o_eqX {k : Nat} (hr : RoomG k X.A) : OpL X Z (compareOp .Eq) gEqX := by
  have h0 : OpL X Z (compareOp .Eq) (fun x y μ R => ∃ n b, n ≤ 60 ∧ flatD x = false ∧ Eqs μ n x y b ∧ R (.bl b) μ) := ⟨_, op_X, fun F H μ x y vx vy R Q s rx ry q kk => by
    obtain ⟨n, b, hn, hx, h, q⟩ := q
    exact ⟨b, fun pins sh σ v u I rv ru E Q' q' => eq_run hr s I hn hx h rx ry rv ru E Q' q', kk F _ H _ μ (Step.refl s) (.bl b) q⟩⟩
  refine (o_eqS.or h0).imp fun x y μ R h => h.imp (fun ⟨b, e, q⟩ => ?_) id
  unfold gEqS; rw [e]; exact q
theorem o_neX {k : Nat} (hr : RoomG k X.A) : OpL X Z (compareOp .NotEq) gNeX := by
  have h0 : OpL X Z (compareOp .NotEq) (fun x y μ R => ∃ n b, n ≤ 60 ∧ bigD x = true ∧ Eqs μ n x y b ∧ R (.bl (!b)) μ) := ⟨_, op_X, fun F H μ x y vx vy R Q s rx ry q kk => by
    obtain ⟨n, b, hn, hx, h, q⟩ := q
    exact ⟨!b, fun pins sh σ v u I rv ru E Q' q' => ne_run hr s I hn hx h rx ry rv ru E Q' q', kk F _ H _ μ (Step.refl s) (.bl (!b)) q⟩⟩
  refine (o_neS.or h0).imp fun x y μ R h => h.imp (fun ⟨b, e, q⟩ => ?_) id
  unfold gNeS; rw [e]; exact q
/-! ### sorted, min, max of a list, d.clear() -/
theorem rpsS_of {K : Kn} {F : Addr → Prop} {H : Hp} : ∀ {ns : List Str} {vs : List V}, Rps K F H (ns.map D.str) vs → vs = ns.map V.str
  | [], _, .nil => rfl
  | _ :: _, _, .cons h t => by cases h; rw [rpsS_of t]; rfl
def gSorted : GA := fun ds μ R => ∃ (x : D) (xs : List Str), ds = [x] ∧ (rdL μ x = some (xs.map D.str) ∨ ∃ kvs, dctOf μ x = some kvs ∧ kvs.map (·.1) = xs.map Sum.inr) ∧ xs.length < 64 ∧
  ∀ ys : List Str, ys.Perm xs → sortedS ys = true → R (.lst (ys.map D.str)) μ
theorem c_sorted (hc : X.calm = true) : CallL X Z (.builtin "sorted") gSorted := ⟨_, CallR.or cr_sortedS (call_sortedD hc), fun F H μ ds vs R Q s rs q k => by
  obtain ⟨x, xs, rfl, e, h64, q⟩ := q
  obtain ⟨v, rfl, r⟩ := one_of rs
  have fin : ∀ (ys : List Str) (p : Addr), ys.Perm xs → sortedS ys = true → H p = none → Q (.ref p) (upd H p (.lst (ys.map V.str))) := fun ys p hp hs hn => by
    have g := s.frzS (o := .lst (ys.map V.str)) hn
    exact k _ _ _ _ μ g (.lst (.inr rfl) upd_same (rps_strs ys)) (q ys hp hs)
  rcases e with e | ⟨kvs, e, ek⟩
  · obtain ⟨p, us, rfl, sq, rr⟩ := rdl_of s r e
    rw [rpsS_of rr] at sq
    exact .inl ⟨p, xs, rfl, sq, h64, fin⟩
  · obtain ⟨p, ks, rfl, rd, rk⟩ := dct_of s r e
    exact .inr ⟨p, ks, xs, rfl, rd, by rw [← rk.keys]; exact ek, h64, fin⟩⟩
def gMin1 : GA := fun ds μ R => ∃ (x : D) (ns : List Int), ds = [x] ∧ rdL μ x = some (ns.map D.int) ∧ 0 < ns.length ∧ ∀ m, m ∈ ns → (∀ y, y ∈ ns → m ≤ y) → R (.int m) μ
def gMax1 : GA := fun ds μ R => ∃ (x : D) (ns : List Int), ds = [x] ∧ rdL μ x = some (ns.map D.int) ∧ 0 < ns.length ∧ ∀ m, m ∈ ns → (∀ y, y ∈ ns → y ≤ m) → R (.int m) μ
theorem c_min1 (hc : X.calm = true) : CallL X Z (.builtin "min") gMin1 := ⟨_, cr_min hc, fun F H μ ds vs R Q s rs q k => by
  obtain ⟨x, ns, rfl, e, hn, q⟩ := q
  obtain ⟨v, rfl, r⟩ := one_of rs
  obtain ⟨p, us, rfl, sq, rr⟩ := rdl_of s r e
  rw [rpsI_of rr] at sq
  exact ⟨p, ns, rfl, sq, hn, fun m h1 h2 => k F _ H _ μ (Step.refl s) (.int m) (q m h1 h2)⟩⟩
theorem c_max1 (hc : X.calm = true) : CallL X Z (.builtin "max") gMax1 := ⟨_, cr_max hc, fun F H μ ds vs R Q s rs q k => by
  obtain ⟨x, ns, rfl, e, hn, q⟩ := q
  obtain ⟨v, rfl, r⟩ := one_of rs
  obtain ⟨p, us, rfl, sq, rr⟩ := rdl_of s r e
  rw [rpsI_of rr] at sq
  exact ⟨p, ns, rfl, sq, hn, fun m h1 h2 => k F _ H _ μ (Step.refl s) (.int m) (q m h1 h2)⟩⟩
def gDClear : GM := fun x ds μ R => ∃ a kvs, x = .ref a ∧ ds = [] ∧ μ a = some (.dct kvs) ∧ R .non (mset μ a (.dct []))
theorem m_dclear : MtL X Z "dict.clear" "dict" gDClear := ⟨_, mtd_clear, fun F H μ x ds vx vs R Q s rx rs q k => by
  obtain ⟨a, kvs, rfl, rfl, e, q⟩ := q
  cases rx
  cases rs
  obtain ⟨_, ks, e1, _⟩ := s.obj a _ e
  have g := s.putS (o := .dK []) (m := .dct []) e fun _ e' => ⟨[], e', .nil⟩
  exact ⟨a, ks, rfl, rfl, e1, k _ _ _ _ _ g .non q⟩⟩
/-! ### dict(zip(a, b)) -/
def vDZip (trk : Bool) (ta : TA3) : TE3 := fun δ μ R => ta δ μ fun ds μ1 => ∃ (x y : D) (ks : List Key) (ys : List D), ds = [x, y] ∧ rdL μ1 x = some (ks.map keyD) ∧ seqOf μ1 y = some ys ∧
  (if trk then ∀ q, μ1 q = none → R (.ref q) (mset μ1 q (.dct (mergeD [] (ks.zip ys)))) else R (.dct (mergeD [] (ks.zip ys))) μ1)
theorem rpsK_of {K : Kn} {F : Addr → Prop} {H : Hp} : ∀ {ks : List Key} {vs : List V}, Rps K F H (ks.map keyD) vs → vs = ks.map kV
  | [], _, .nil => rfl
  | .inl _ :: _, _, .cons h t => by cases h; rw [rpsK_of t]; rfl
  | .inr _ :: _, _, .cons h t => by cases h; rw [rpsK_of t]; rfl
theorem rpk_zip {K : Kn} {F : Addr → Prop} {H : Hp} : ∀ {ks : List Key} {ys : List D} {vs : List V}, Rps K F H ys vs → Rpk K F H (ks.zip ys) (ks.zip vs)
  | [], _, _, _ => .nil
  | _ :: _, _, _, .nil => .nil
  | _ :: _, _, _, .cons h t => .cons h (rpk_zip t)
theorem e_dzip {trk : Bool} {a b : Expr} {ta : TA3} {p p2 pos pos2 : Pos} (hc : X.calm = true) (hm : X.mg "dict" = none) (hm2 : X.mg "zip" = none) (ha : A3 X Z [a, b] ta) (hg : Gl X "dict" := by rfl) (hg2 : Gl X "zip" := by rfl)
    (hs : starEach [a, b] X.env = (false, eval a X.env) :: starEach [b] X.env := by rfl) (hpl : (backTo pos2 (starEach [b] X.env)).any (·.1) = false := by rfl)
    (na : starEach [.Call (.Name "zip" p2) [a, b] [] pos2] X.env = (false, eval (.Call (.Name "zip" p2) [a, b] [] pos2) X.env) :: starEach [] X.env := by rfl) :
    E3 X Z (.Call (.Name "dict" p) [.Call (.Name "zip" p2) [a, b] [] pos2] [] pos) (vDZip trk ta) := (pe_dzip hc hg hm hg2 hm2 ha hs hpl na).imp fun σ H Q h => by
  obtain ⟨F, δ, μ, R, s, sl, h, k⟩ := h
  refine ⟨F, δ, μ, _, s, sl, h, fun F1 vs H1 ds μ1 g r1 q1 => ?_⟩
  obtain ⟨x, y, ks, ys, rfl, ex, ey, q1⟩ := q1
  cases r1 with
  | cons rx r1 => cases r1 with
    | cons ry r1 =>
      cases r1
      obtain ⟨pa, us, rfl, sq, rr⟩ := rdl_of g.sim rx ex
      rw [rpsK_of rr] at sq
      obtain ⟨pb, ws, rfl, sb, rb⟩ := seq_of g.sim ry ey
      have rk : Rpk X.kn F1 H1 (mergeD [] (ks.zip ys)) (mergeK [] (ks.zip ws)) := Rpk.merge (rpk_zip rb) .nil
      refine ⟨pa, pb, ks, ws, rfl, sq, sb, fun q hq => ?_⟩
      cases trk with
      | true =>
        have g2 := g.sim.trkS (o := .dK (mergeK [] (ks.zip ws))) (m := .dct (mergeD [] (ks.zip ys))) hq fun g' e => ⟨_, e, rk.grow g'⟩
        exact k _ _ _ _ _ (g.trans g2) (.ref q) (q1 q (g.sim.free hq))
      | false =>
        have g2 := g.sim.frzS (o := .dK (mergeK [] (ks.zip ws))) hq
        exact k _ _ _ _ μ1 (g.trans g2) (.dct (.inr rfl) (.inl upd_same) (rk.st g2)) q1
end
end L3
namespace L3
open PySem PySem.Spec PyProof.Rows L2
/-! ### a comprehension within a comprehension -/
theorem lookup_map {α : Type} (g : Str → α → α) (x : Str) : ∀ l : List (Str × α), (l.map fun p => (p.1, g p.1 p.2)).lookup x = (l.lookup x).map (g x)
  | [] => rfl
  | (n, k) :: r => by
    rw [List.map_cons, List.lookup_cons, List.lookup_cons]
    by_cases e : x = n
    · subst e; simp
    · have : (x == n) = false := by simpa using e
      simp only [this]
      exact lookup_map g x r
theorem blkOk_rel {N : List Str} {sc scope : Scope} {own : List (Str × Nat)} {env : Env} (h : BlkOk N sc scope own) : BlkOk N (relabel sc env) scope own := by
  refine ⟨h.kind, h.uniq, h.ix, fun y hy e => ?_, h.own⟩
  have key : (relabel sc env).names.lookup y.1 = (sc.names.lookup y.1).map fun k => if (k == .free && env.scope.kind == .function && env.kindOf y.1 == some .cell) then .cell else k := by
    have := lookup_map (fun n k => if (k == NameKind.free && env.scope.kind == .function && env.kindOf n == some .cell) then NameKind.cell else k) y.1 sc.names
    rw [← this]
    unfold relabel
    congr 1
    refine List.map_congr_left fun p _ => ?_
    obtain ⟨n, k⟩ := p
    simp only
    split <;> rfl
  rw [key]
  rcases h.free y hy e with q | q
  · left; rw [q]; rfl
  · rw [q]
    simp only [Option.map_some]
    split
    · exact .inl rfl
    · exact .inr rfl
end L3

namespace C1
open PySem PySem.Spec L2 L3 C2
local macro_rules | `(tactic| walk_at "l3") => `(tactic| simp only [sSeq, sNext, sIf, sRet, sRetN, sSet, sDrop, sSub, sFor, sAsg, sPar2, sPar3, sCont, sFld3, sFld2, sAug, vVar, vC, vNil, vCons, vOp, vB, vChain, vAnd, vOr, vNot, vAndV, vOrV, vNotV, vIf, vUn, vCB, vLst, vTup, vLstT, vCall, vCal, vMak, vMetA, vFld, vSl, vPart, vNoP, vLc, vLcT, vDc, vBM, vBM0, vGet1, vGet2, vItems, vRev, vLRg, vStar, vDZip, iRg1, iRg2, iRgD, iAny, iEnm, iItm, iVal, vDict0, vDict0T, vDict0N, vDisp, vDispT, vPairs,
  List.getElem?_cons_zero, List.getElem?_cons_succ, List.set_cons_zero, List.set_cons_succ, wipe3, endsOf_rt, endsOf_nx, gLt, gLe, gGt, gGe, L3.gSub, gMul, gMod, gDiv, gPow, g2I, g2I0, gN, gT, gGo, Option.bind_some, gAdd_ii, gAdd_ss, gNeg_i, gMax2_ii, gMin2_ii, gLen_s, gEqS_ii, gEqS_ss, gEqS_bb, gNeS_ii, gNeS_ss, gIsN_n, gNotN_n, gSl_s, isNonD, if_true, if_false, Bool.false_eq_true, Bool.not_true, Bool.not_false])
/-! ### counts -/
def cnK (evs : List Str) (f : Str → D) : List (Key × D) := evs.map fun o => ((.inr o : Key), f o)
def ctK (evs : List Str) (f : Str → Int) : List (Key × D) := cnK evs fun o => .int (f o)
theorem val_cnK {f : Str → D} {e : Str} : ∀ {evs : List Str}, e ∈ evs → valD (cnK evs f) (.inr e) = some (f e)
  | a :: r, h => by
    unfold valD cnK
    rw [List.map_cons, List.find?_cons]
    by_cases q : a = e
    · subst q; simp
    · rcases List.mem_cons.mp h with rfl | h
      · exact absurd rfl q
      · have := val_cnK (f := f) h
        have q' : ¬ ((Sum.inr a : Key) = Sum.inr e) := fun z => q (Sum.inr.inj z)
        simp only [q', decide_false]
        exact this
theorem put_cnK {f : Str → D} {e : Str} {d : D} {evs : List Str} (h : e ∉ evs) : putD (cnK evs f) (.inr e) d = cnK evs f ++ [(.inr e, d)] := by
  unfold putD
  rw [if_neg]
  intro q
  rw [List.any_eq_true] at q
  obtain ⟨p, hp, q⟩ := q
  obtain ⟨a, ha, rfl⟩ := List.mem_map.mp hp
  have ea : a = e := Sum.inr.inj (of_decide_eq_true q)
  exact h (ea ▸ ha)
theorem cnK_keys (evs : List Str) (f : Str → D) : (cnK evs f).map (·.1) = evs.map Sum.inr := by simp [cnK]
theorem cnK_snoc (evs : List Str) (f : Str → D) (e : Str) : cnK (evs ++ [e]) f = cnK evs f ++ [(.inr e, f e)] := by simp [cnK]
theorem dc_cnt {Pm : Mu → Prop} {μ : Mu} {δ : St3} {R : Dic → Mu → Prop} {g : TG3} {tk tv : TE3} (hP : Pm μ) (f : Str → D) : ∀ (todo done : List Str), (done ++ todo).Nodup → (done ++ todo).length ≤ 100 →
    (∀ o ∈ todo, ∃ δ', g (.str o) δ = some δ' ∧ (∀ R' : DK, R' (.str o) μ → tk δ' μ R') ∧ ∀ R' : DK, R' (f o) μ → tv δ' μ R') → R (.k (cnK (done ++ todo) f)) μ →
    dcW Pm g vYes tk tv δ R (sds todo) (.k (cnK done f)) μ
  | [], done, _, _, _, k => ⟨hP, by simpa using k⟩
  | e :: r, done, nd, hn, hs, k => by
    have hsl : sizeLine = 16777216 := by decide
    have ne : e ∉ done := by
      rw [List.nodup_append] at nd
      exact fun h => nd.2.2 e h e List.mem_cons_self rfl
    have rec_ := dc_cnt hP f r (done ++ [e]) (by simpa using nd) (by simpa using hn) (fun o ho => hs o (List.mem_cons_of_mem _ ho)) (by simpa using k)
    obtain ⟨δ', eg, h1, h2⟩ := hs e List.mem_cons_self
    refine ⟨hP, ?_, ?_⟩
    · show (cnK done f).length < _
      simp only [cnK, List.length_map]
      simp only [List.length_append] at hn
      omega
    rw [eg]
    simp only [vYes, if_true]
    refine h1 _ (h2 _ ⟨.k (putD (cnK done f) (.inr e) (f e)), rfl, ?_⟩)
    rw [put_cnK ne, ← cnK_snoc]
    exact rec_
/-! ### moments, in plain words -/
structure Mom (marks : List Str) (ties : List Tie) (caps : Lims) (c : Str → Int) : Prop where
  p : ∀ e ∈ marks, 0 ≤ c e
  t : ∀ t ∈ ties, c t.2.1 ≤ c t.1 + t.2.2
  l : ∀ q ∈ caps, c q.1 ≤ q.2
def atN (c : Str → Int) : Nd → Int
  | none => 0
  | some e => c e
def lawC (c : Str → Int) (e : Str) : Int := if e = "" then 0 else c e
/-- a count is at most another one's and what lies between -/
theorem mom_walk {marks : List Str} {ties : List Tie} {caps : Lims} {c : Str → Int} (ok : PlOk marks ties caps) (m : Mom marks ties caps c) {a b : Str} {w : Int} {k : Nat} (h : Wk (lawRows marks ties caps) a b w k) : lawC c b ≤ lawC c a + w := by
  induction h with
  | nil a => omega
  | cons e _ ih =>
    rename_i a b c' w v k _
    have nn : ∀ x ∈ marks, lawC c x = c x := fun x hx => if_neg (name_ne (ok.e.nm x hx))
    rcases mem_lawRows.mp e with h | ⟨p, hp, e⟩ | ⟨x, hx, e⟩
    · have := m.t _ h
      simp only at this
      rw [nn a (ok.t.a _ h)]
      rw [nn b (ok.t.b _ h)] at ih
      omega
    · have := m.l p hp
      cases e
      rw [nn _ (ok.l.a _ hp)] at ih
      have e0 : lawC c "" = 0 := if_pos rfl
      rw [e0]
      omega
    · cases e
      have := m.p _ hx
      rw [nn _ hx]
      have e0 : lawC c "" = 0 := if_pos rfl
      rw [e0] at ih
      omega
/-- the least counts with an event so often -/
def leastC (marks : List Str) (ties : List Tie) (caps : Lims) (e : Str) (k : Int) (o : Str) : Int := max 0 (k - (farL marks ties caps o e).getD k)
theorem least_self {marks : List Str} {ties : List Tie} {caps : Lims} (ok : PlOk marks ties caps) {e : Str} {k : Int} (he : e ∈ marks) (hk : 0 ≤ k) : leastC marks ties caps e k e = k := by
  have d := law_isD ok e e
  obtain ⟨v, hv, l⟩ := d.least 0 0 (.nil e)
  obtain ⟨j, wk⟩ := d.sound v hv
  have hp : ∀ r ∈ lawRows marks ties caps, 0 ≤ r.2.2 := fun r hr => by
    rcases mem_lawRows.mp hr with h | ⟨p, hp, rfl⟩ | ⟨x, hx, rfl⟩
    · exact ok.t.c _ h
    · exact ok.l.c _ hp
    · exact Int.le_refl _
  have := wk.pos hp
  unfold leastC
  rw [hv]
  show max 0 (k - v) = k
  omega
theorem least_mom {marks : List Str} {ties : List Tie} {caps : Lims} (ok : PlOk marks ties caps) {e : Str} {k : Int} (he : e ∈ marks) (hm : ∀ m, farL marks ties caps "" e = some m → k ≤ m) : Mom marks ties caps (leastC marks ties caps e k) := by
  refine ⟨fun x hx => ?_, fun t ht => ?_, fun q hq => ?_⟩
  · unfold leastC; omega
  · have lag := ok.t.c t ht
    have db := law_isD ok t.2.1 e
    have da := law_isD ok t.1 e
    unfold leastC
    cases hb : farL marks ties caps t.2.1 e with
    | none =>
      simp only [Option.getD_none]
      omega
    | some v =>
      obtain ⟨j, wk⟩ := db.sound v hb
      obtain ⟨u, hu, l⟩ := da.least _ _ (.cons (mem_lawRows.mpr (.inl ht)) wk)
      rw [hu]
      have l' : u ≤ t.2.2 + v := l
      simp only [Option.getD_some]
      omega
  · have lim := ok.l.c q hq
    have db := law_isD ok q.1 e
    have d0 := law_isD ok "" e
    unfold leastC
    cases hb : farL marks ties caps q.1 e with
    | none =>
      simp only [Option.getD_none]
      omega
    | some v =>
      obtain ⟨j, wk⟩ := db.sound v hb
      obtain ⟨u, hu, l⟩ := d0.least _ _ (.cons (mem_lawRows.mpr (.inr (.inl ⟨q, hq, rfl⟩))) wk)
      have := hm u hu
      simp only [Option.getD_some]
      omega
theorem least_le {marks : List Str} {ties : List Tie} {caps : Lims} {c : Str → Int} (ok : PlOk marks ties caps) (m : Mom marks ties caps c) {e o : Str} {k : Int} (he : e ∈ marks) (ho : o ∈ marks) (hk : k ≤ c e) : leastC marks ties caps e k o ≤ c o := by
  have nn : ∀ x ∈ marks, lawC c x = c x := fun x hx => if_neg (name_ne (ok.e.nm x hx))
  have p := m.p o ho
  unfold leastC
  cases hb : farL marks ties caps o e with
  | none => simp only [Option.getD_none]; omega
  | some v =>
    obtain ⟨j, wk⟩ := (law_isD ok o e).sound v hb
    have := mom_walk ok m wk
    rw [nn e he, nn o ho] at this
    simp only [Option.getD_some]
    omega
theorem most_le {marks : List Str} {ties : List Tie} {caps : Lims} {c : Str → Int} (ok : PlOk marks ties caps) (m : Mom marks ties caps c) {e : Str} {v : Int} (he : e ∈ marks) (h : farL marks ties caps "" e = some v) : c e ≤ v := by
  obtain ⟨j, wk⟩ := (law_isD ok "" e).sound v h
  have := mom_walk ok m wk
  rw [show lawC c e = c e from if_neg (name_ne (ok.e.nm e he)), show lawC c "" = 0 from if_pos rfl] at this
  omega
theorem least_bd {marks : List Str} {ties : List Tie} {caps : Lims} (ok : PlOk marks ties caps) {e o : Str} {k : Int} (hk : 0 ≤ k) : 0 ≤ leastC marks ties caps e k o ∧ leastC marks ties caps e k o ≤ k := by
  have hp : ∀ r ∈ lawRows marks ties caps, 0 ≤ r.2.2 := fun r hr => by
    rcases mem_lawRows.mp hr with h | ⟨p, hp, rfl⟩ | ⟨x, hx, rfl⟩
    · exact ok.t.c _ h
    · exact ok.l.c _ hp
    · exact Int.le_refl _
  unfold leastC
  cases hb : farL marks ties caps o e with
  | none => simp only [Option.getD_none]; omega
  | some v =>
    obtain ⟨j, wk⟩ := (law_isD ok o e).sound v hb
    have := wk.pos hp
    simp only [Option.getD_some]
    omega
/-! ### Table.least, Table.shown -/
/-- a new dict, tracked or frozen as the caller likes -/
def dOut (tr : Bool) (kvs : List (Key × D)) (μ : Mu) (R : DK) : Prop := if tr then ∀ q, μ q = none → R (.ref q) (mset μ q (.dct kvs)) else R (.dct kvs) μ
def tLeast (evs : List Str) (ties : List Tie) (lims : Lims) (e : Str) (k : Int) (o : Str) : Int := max 0 (k - ((plT evs ties lims).L (some o) (some e)).getD k)
def overM (m : Option Int) (k : Int) : Bool := match m with
  | some v => decide (v < k)
  | none => false
def sp_Table_least : Sp3 := fun ds μ R => ∃ (tr : Bool) (evs : List Str) (ties : List Tie) (lims : Lims) (kl ks : List (LK × D)) (e : Str) (k : Int), ds = [tabD evs kl ks, .str e, .int k] ∧ EvOk evs ∧ TabOk evs ties lims kl ks ∧ e ∈ evs ∧ 0 ≤ k ∧
  if overM ((plT evs ties lims).L none (some e)) k then R .non μ else dOut tr (ctK evs (tLeast evs ties lims e k)) μ R
def t_Table_least_3 : TS3 := (sRet (vDc false true (iAny (vFld "Table" "row_of_events" (vVar 0))) (gN 4) vYes (vVar 4) (vCB gMax2 (vCons (vC (.int 0)) (vCons (vOp gSub (vVar 2) (vGet2 (vFld "Table" "leads" (vVar 0)) (vTup (vCons (vVar 4) (vCons (vVar 1) vNil))) (vVar 2))) vNil))) [4]))
def t_Table_least_2 : TS3 := sSeq (sIf (vAnd (vB (vOp gNotN (vVar 3) (vC .non))) (vB (vOp gGt (vVar 2) (vVar 3)))) (sRet (vC .non)) sNext) t_Table_least_3
def t_Table_least_1 : TS3 := sSeq (sIf (vNot (vB (vCall 1 sp_is_count (vCons (vVar 2) vNil)))) sNever sNext) t_Table_least_2
def t_Table_least : TS3 := sSeq (sSet 3 (vMetA "Table" "most" 1 sp_Table_most (vVar 0) (vCons (vVar 1) vNil))) t_Table_least_1
theorem fin_dOut {tr : Bool} {kvs : List (Key × D)} {μ : Mu} {R : DK} (h : dOut tr kvs μ R) : ∀ q, μ q = none → fin R (.ref q) (mset μ q (.dct kvs)) := fun q hq => by
  cases tr with
  | true => exact fin_now (h q hq)
  | false => exact fin_dct (Le.mset_new hq) mset_same hq h
theorem pure_Table_least (ds : List D) (μ : Mu) (R : DK) (hl : ds.length = 3) (h : sp_Table_least ds μ R) : t_Table_least (endsOf R) (start3 ["self", "event", "count", "most", "other"] ds) μ := by
  obtain ⟨tr, evs, ties, lims, kl, ks, e, k, rfl, ok, tk, he, hk, h⟩ := h
  have hsl : sizeLine = 16777216 := by decide
  show t_Table_least (endsOf R) [some (tabD evs kl ks), some (.str e), some (.int k), none, none] μ
  unfold t_Table_least t_Table_least_1
  walk_at "l3"
  refine ⟨tabF evs kl ks, rfl, rfl, rfl, evs, ties, lims, kl, ks, e, rfl, ok, tk, he, ?_⟩
  refine ⟨rfl, .int k, "int", rfl, rfl, ?_⟩
  have hc : cntD (.int k) = true := decide_eq_true hk
  simp only [hc, Bool.not_true, Bool.false_eq_true, if_false]
  unfold t_Table_least_2
  have rest : overM ((plT evs ties lims).L none (some e)) k = false → t_Table_least_3 (endsOf R) [some (tabD evs kl ks), some (.str e), some (.int k), some (optD ((plT evs ties lims).L none (some e))), none] μ := fun ho => by
    rw [ho] at h
    simp only [Bool.false_eq_true, if_false] at h
    unfold t_Table_least_3
    walk_at "l3"
    refine ⟨tabF evs kl ks, .lst (sds evs), rfl, rfl, any_lst (xs := sds evs) rfl fun Pm hP => ?_⟩
    refine dc_cnt (hP μ rfl) (fun o => .int (tLeast evs ties lims e k o)) evs [] (by simpa using ok.nd) (by have := ok.le; simp; omega) (fun o ho' => ?_) ?_
    · refine ⟨_, rfl, fun R' h' => h', fun R' h' => ?_⟩
      walk_at "l3"
      refine ⟨tabF evs kl ks, .dcn kl, rfl, rfl, rfl, by rw [hsl]; show 2 ≤ _; decide, .n kl, _, rfl, get_n tk.l (some o) (some e), ?_⟩
      unfold tLeast at h'
      cases hv : (plT evs ties lims).L (some o) (some e) with
      | none => rw [hv] at h'; exact h'
      | some v => rw [hv] at h'; exact h'
    · rw [List.nil_append]
      exact fin_dOut h
  walk_at "l3"
  cases hv : (plT evs ties lims).L none (some e) with
  | none =>
    rw [hv] at rest
    exact rest rfl
  | some m =>
    rw [hv] at rest h
    show (if decide (m < k) = true then fin R .non μ else t_Table_least_3 _ _ _)
    by_cases hlt : m < k
    · have h' : R .non μ := by simpa [overM, hlt] using h
      simp only [hlt, decide_true, if_true]
      exact fin_now h'
    · simp only [hlt, decide_false, Bool.false_eq_true, if_false]
      exact rest (decide_eq_false hlt)
def sp_Table_shown : Sp3 := fun ds μ R => ∃ (tr : Bool) (evs : List Str) (ties : List Tie) (lims : Lims) (kl ks : List (LK × D)) (a b : Str), ds = [tabD evs kl ks, .str a, .str b] ∧ EvOk evs ∧ TabOk evs ties lims kl ks ∧ a ∈ evs ∧ b ∈ evs ∧
  match (plT evs ties lims).L (some a) (some b) with
  | none => R .non μ
  | some k => 0 ≤ k ∧ if overM ((plT evs ties lims).L none (some b)) k then R .non μ else dOut tr (ctK evs (tLeast evs ties lims b k)) μ R
def t_Table_shown_1 : TS3 := (sRet (vIf (vB (vOp gIsN (vVar 3) (vC .non))) (vC .non) (vMetA "Table" "least" 2 sp_Table_least (vVar 0) (vCons (vVar 2) (vCons (vVar 3) vNil)))))
def t_Table_shown : TS3 := sSeq (sSet 3 (vMetA "Table" "lead" 2 sp_Table_lead (vVar 0) (vCons (vVar 1) (vCons (vVar 2) vNil)))) t_Table_shown_1
theorem pure_Table_shown (ds : List D) (μ : Mu) (R : DK) (hl : ds.length = 3) (h : sp_Table_shown ds μ R) : t_Table_shown (endsOf R) (start3 ["self", "earlier", "later", "lead"] ds) μ := by
  obtain ⟨tr, evs, ties, lims, kl, ks, a, b, rfl, ok, tk, ha, hb, h⟩ := h
  show t_Table_shown (endsOf R) [some (tabD evs kl ks), some (.str a), some (.str b), none] μ
  unfold t_Table_shown t_Table_shown_1
  walk_at "l3"
  refine ⟨tabF evs kl ks, rfl, rfl, rfl, evs, ties, lims, kl, ks, a, b, rfl, ok, tk, ha, hb, ?_⟩
  cases hv : (plT evs ties lims).L (some a) (some b) with
  | none =>
    rw [hv] at h
    exact fin_now h
  | some k =>
    rw [hv] at h
    obtain ⟨hk, h⟩ := h
    refine ⟨tabF evs kl ks, rfl, rfl, rfl, tr, evs, ties, lims, kl, ks, b, k, rfl, ok, tk, hb, hk, ?_⟩
    split
    · rename_i ho
      rw [if_pos ho] at h
      exact fin_now h
    · rename_i ho
      rw [if_neg ho] at h
      unfold dOut at h ⊢
      cases tr with
      | true => exact fun q hq => fin_now (h q hq)
      | false => exact fin_now h

end C1

namespace PySem
/-! ### own exceptions over ValueError, KeyError, LookupError: what the built-in part says -/
/-- of the maker: B's __new__ -/
structure XNew (B newId : String) : Prop where
  ends : newId.endsWith ".__new__" = true
  owner : newId.dropRight 8 = B
  entry : entryFor table newId = some Builtin.«BaseException.__new__»
  split : splitId newId = some (B, "__new__")
  kind : builtinKind newId = some .builtinFn
  row : Manifest.signature? newId = some ⟨.any, B, B, .cls, [⟨"args", .varPos, false⟩, ⟨"kwargs", .varKw, false⟩]⟩
  canon : Manifest.canonical newId = Manifest.canonical "BaseException.__new__"
  quiet : newId.startsWith "lifetime." = false
  star : (B != "*") = true
/-- of B's __init__ -/
structure XIni (B initId : String) : Prop where
  plain : plainId initId = true
  entry : entryFor table initId = some Builtin.«BaseException.__init__»
  split : splitId initId = some (B, "__init__")
  kind : builtinKind initId = some .slot
  row : Manifest.signature? initId = some ⟨.positional, "*", B, .self, [⟨"args", .varPos, false⟩]⟩
  star : (B != "*") = true
theorem XNew.of {B newId initId : String} {bm : List Value} (F : ExcBaseFacts B newId initId bm) : XNew B newId := ⟨F.ends, F.owner, F.entry, F.newSplit, F.newKind, F.newRow, F.canon, F.quiet, F.noStar⟩
theorem XIni.of {B newId initId : String} {bm : List Value} (F : ExcBaseFacts B newId initId bm) : XIni B initId := ⟨F.init.plain, F.initEntry, F.initSplit, F.initKind, F.initRow, F.noStar⟩
theorem xini_KeyError : XIni "KeyError" "KeyError.__init__" := ⟨by decide +kernel, entryFor_alias (id' := "BaseException.__init__") (by rw [fastTable_eq_tree]; kernel_rfl) (by first | rfl | decide +kernel) (by decide +kernel) (by rw [fastTable_eq_tree]; kernel_rfl), by kernel_rfl, by kernel_rfl, by kernel_rfl, by decide +kernel⟩

namespace XO
open Builtin Builtin.ObjectAttr PySem.HandSPX
section
variable {prog : Program} {w : World} {A : Around} {E : Value → Shared → Prop} {R : Result → Shared → Prop} {h : Heap} {g : Array GenState} {d : Drawn} {t : Nat} {os : OsState}
variable {nm q : Str} {C N : Addr} {bs bm : List Value} {hdct : Bool} {sn : List Str} {sub : List Value} {ab : Bool} {col : Option Bool} {dd : Option Addr} {k0 k1 k2 k3 k5 : Option Value} {B newId initId : String} {rest : List Value}
theorem chk_new (F : XNew B newId) (hB : bm.contains (.type B) = true) {Q : Unit → Shared → Prop} (hC : h.get? C = some (excClassObj nm q C N bs bm hdct sn sub ab col dd k0 k1 k2 k3 k5 newId)) (hq : Q () ⟨h, g, d, t, os⟩) :
    wpAny (model prog w) A (checkBuiltinCall newId ⟨.ref C :: rest, []⟩) Q E ⟨h, g, d, t, os⟩ := by
  have has : (Value.ref C :: bm).contains (.type B) = true := by rw [List.contains_cons, hB, Bool.or_true]
  have st := F.star
  simp only [checkBuiltinCall, F.kind, F.split, F.row]
  repeat (first | refine wpAny_loadPart_at hC ?_ | (refine wpAny_isSubtype_exc hC ?_; rw [has]) | refine wpAny_staticBase_exc hC ?_ | refine wpAny_madeBy_exc hC ?_ | simp only [bne_self_eq_false, Bool.false_eq_true, if_false] | wp_step)
  exact hq
theorem chk_ini (F : XIni B initId) (hB : bm.contains (.type B) = true) {e : Addr} {oe : Obj} {Q : Unit → Shared → Prop} (hC : h.get? C = some (excClassObj nm q C N bs bm hdct sn sub ab col dd k0 k1 k2 k3 k5 newId)) (he : h.get? e = some oe) (hcl : oe.cls = .ref C)
    (hq : Q () ⟨h, g, d, t, os⟩) : wpAny (model prog w) A (checkBuiltinCall initId ⟨.ref e :: rest, []⟩) Q E ⟨h, g, d, t, os⟩ := by
  have has : (Value.ref C :: bm).contains (.type B) = true := by rw [List.contains_cons, hB, Bool.or_true]
  have st := F.star
  simp only [checkBuiltinCall, F.kind, F.split, F.row]
  repeat (first | (with_reducible refine wpAny_loadPart_at he ?_; rw [hcl]) | with_reducible refine wpAny_loadPart_at hC ?_ | (with_reducible refine wpAny_isSubtype_exc hC ?_; rw [has]) | wp_step)
  refine wpAny_onRaise ?_
  rw [show ∀ (x y : String) (n : Nat), Bind.check ⟨.positional, "*", B, .self, [⟨"args", .varPos, false⟩]⟩ x y n (List.map (fun z => z.fst) ({ pos := Value.ref e :: rest } : Args).kw) = pure () from fun x y n => check_star_args _ _ _ _ _ _]
  exact wpAny_pure hq
theorem go_new (F : XNew B newId) (hB : bm.contains (.type B) = true) (hA : bm.contains (.type "AttributeError") = false) (hN : bm.contains (.type "NameError") = false) (hC : h.get? C = some (excClassObj nm q C N bs bm hdct sn sub ab col dd k0 k1 k2 k3 k5 newId))
    (hq : R (.ok (.ret (.ref (h.objs.size + 1)))) ⟨(h.push (W.kdv_tup rest)).push (excO C h.objs.size), g, d, t, os⟩) (hz : rest.length ≤ sizeLine) :
    codeAny (model prog w) A (.builtin newId ⟨.ref C :: rest, []⟩) R ⟨h, g, d, t, os⟩ := by
  have en := F.ends
  have c1 : (Value.ref C :: bm).contains (.type B) = true := by rw [List.contains_cons, hB, Bool.or_true]
  have c2 : (Value.ref C :: bm).contains (.type "AttributeError") = false := by rw [List.contains_cons, hA]; rfl
  have c3 : (Value.ref C :: bm).contains (.type "NameError") = false := by rw [List.contains_cons, hN]; rfl
  refine codeAny_builtinAt F.entry ?_
  unfold Builtin.«BaseException.__new__»
  refine wpAt_bind (show wpAt _ _ _ (stack >>= _) _ _ _ from wpAt_bind (wpAt_stack fun p below => wpAt_of_wpAny ?_))
  wp_walk
  refine wpAt_of_wpAny ?_
  rw [F.owner]
  repeat (first | with_reducible refine wpAny_madeHere_exc F.canon hC ?_ | with_reducible refine wpAny_loadPart_at hC ?_ | (with_reducible refine wpAny_isSubtype_exc hC ?_; first | rw [c1] | rw [c2] | rw [c3]) | wp_step)
  show R _ _
  rw [Heap.size_push]
  exact hq
theorem go_call (F : XNew B newId) (hB : bm.contains (.type B) = true) (hA : bm.contains (.type "AttributeError") = false) (hN : bm.contains (.type "NameError") = false) {fI : Addr} {Q : Fin → Shared → Prop} (hC : h.get? C = some (excClassObj nm q C N bs bm hdct sn sub ab col dd k0 k1 k2 k3 k5 newId))
    (hi : W.Looks (model prog w) h (typeLookup (.ref C) "__init__") (some (.ref fI))) (hb : ∀ self, W.Looks (model prog w) h (bindSpecial (.ref fI) self) (.ref fI, [self])) (hz : rest.length ≤ sizeLine)
    (hq : codeAny (model prog w) A (.call (.ref fI) ⟨.ref (h.objs.size + 1) :: rest, []⟩) (fun r s' => match r with | .ok (.ret v) => v = .none ∧ Q (.done (.ret (.ref (h.objs.size + 1)))) s' | .ok _ => False | .error e => E e s')
      ⟨(h.push (W.kdv_tup rest)).push (excO C h.objs.size), g, d, t, os⟩) : wpAny (model prog w) A (Builtin.«type.__call__» ⟨.ref C :: rest, []⟩) Q E ⟨h, g, d, t, os⟩ := by
  repeat (first | with_reducible refine wpAny_loadPart_at hC ?_ | with_reducible refine wpAny_madeBy_exc hC ?_ | wp_step)
  refine codeAny_call_builtin_code (Code.quiet_builtin _ F.quiet) (chk_new F hB hC (go_new F hB hA hN hC ?_ hz))
  show wpAny _ _ _ _ _ _
  have kp : ∀ b o, h.get? b = some o → ((h.push (W.kdv_tup rest)).push (excO C h.objs.size)).get? b = some o := fun b o e => Heap.get?_push_of_some _ (Heap.get?_push_of_some _ e)
  have c2 := kp _ _ hC
  have at1 : ((h.push (W.kdv_tup rest)).push (excO C h.objs.size)).get? (h.objs.size + 1) = some (excO C h.objs.size) := by heap_get
  have self : (Value.ref C :: bm).contains (.ref C) = true := by simp
  have i1 := hi.keeps kp
  have b1 := (hb (.ref (h.objs.size + 1))).keeps kp
  unfold isInstance
  repeat (first | with_reducible refine wpAny_loadPart_at at1 ?_ | (with_reducible refine wpAny_isSubtype_exc c2 ?_; rw [self]) | wp_step)
  refine (show wpAny _ _ (typeLookup (.ref C) _) _ _ _ from i1.at (wpAny_holding (wpAny_bind (b1.at (wpAny_bind (wpAny_call (codeAny_mono hq fun r s' z => ?_)))))))
  rcases r with e | (v | _ | _ | _) <;> first | exact z | exact z.elim | skip
  obtain ⟨rfl, z⟩ := z
  first
    | exact wpAny_pure (wpAny_pure z)
    | (wp_walk; exact z)
theorem go_made (F : XNew B newId) (hB : bm.contains (.type B) = true) (hA : bm.contains (.type "AttributeError") = false) (hN : bm.contains (.type "NameError") = false) {fI : Addr} (hC : h.get? C = some (excClassObj nm q C N bs bm hdct sn sub ab col dd k0 k1 k2 k3 k5 newId))
    (hi : W.Looks (model prog w) h (typeLookup (.ref C) "__init__") (some (.ref fI))) (hb : ∀ self, W.Looks (model prog w) h (bindSpecial (.ref fI) self) (.ref fI, [self])) (hz : rest.length ≤ sizeLine)
    (hq : codeAny (model prog w) (A.under (.builtin "type.__call__" ⟨.ref C :: rest, []⟩)) (.call (.ref fI) ⟨.ref (h.objs.size + 1) :: rest, []⟩) (W.InitBack (h.objs.size + 1) R) ⟨(h.push (W.kdv_tup rest)).push (excO C h.objs.size), g, d, t, os⟩) :
    codeAny (model prog w) A (.call (.ref C) ⟨rest, []⟩) R ⟨h, g, d, t, os⟩ := by
  have f1 := tc_lookup
  have f2 := tc_bind (.ref C)
  have ty : (⟨h, g, d, t, os⟩ : Shared).TypeIs (.ref C) "type" := ⟨_, hC, rfl⟩
  refine codeAny_of_tree (show wpAny _ _ (callAny (.ref C) _) _ _ _ from ?_)
  repeat (any_goals (first | assumption | with_reducible refine wpAny_loadPart_at hC ?_ | wp_step))
  refine ⟨rfl, codeAny_call_builtin_at (Code.quiet_builtin _ (by decide +kernel)) entry_typeCall (wpAny_check_type_call_sub hC (go_call F hB hA hN hC hi hb hz (codeAny_mono hq fun r s' z => ?_)))⟩
  rcases r with e | (v | _ | _ | _) <;> exact z
theorem go_ini (F : XIni B initId) (hB : bm.contains (.type B) = true) {e t0 : Addr} (hC : h.get? C = some (excClassObj nm q C N bs bm hdct sn sub ab col dd k0 k1 k2 k3 k5 newId)) (he : h.get? e = some (excO C t0)) (hz : rest.length ≤ sizeLine)
    (hq : ∀ h' t1, (∀ b o, b ≠ e → h.get? b = some o → h'.get? b = some o) → h'.get? e = some (excO C t1) → R (.ok (.ret .none)) ⟨h', g, d, t, os⟩) : codeAny (model prog w) A (.call (.builtin initId) ⟨.ref e :: rest, []⟩) R ⟨h, g, d, t, os⟩ := by
  refine codeAny_call_builtin F.plain F.entry (chk_ini F hB hC he rfl ?_)
  wp_walk
  exact hq _ h.objs.size (fun b o hb ho => by rw [Heap.get?_update_other _ _ (Ne.symm hb)]; exact Heap.get?_push_of_some _ ho) (by rw [Heap.get?_update_self _ (Heap.get?_push_of_some _ he) rfl]; rfl)
end
end XO
end PySem

namespace PySem.XO
open Builtin Builtin.ObjectAttr PySem.HandSPX
section
variable {prog : Program} {w : World} {A : Around} {E : Value → Shared → Prop} {R : Result → Shared → Prop} {hp : Heap} {g : Array GenState} {d : Drawn} {t : Nat} {os : OsState}
/-- self.name = v on an exception without a dict as yet -/
theorem first_field {K : W.Frag} {name : Str} {tk : Tok} {v : Value} {x C : Addr} {fv : Array Value} {cd : ClassData} (X : K.In hp) (hx : hp.get? x = some { cls := .ref C, data := .fields fv }) (hcd : W.clsIn K C = some cd) (ne : cd.mro.isEmpty = false)
    (hob : cd.mro.contains (.type "object") = true) (pass : refuseLoop (.ref x) "__setattr__" cd.mro = pure ()) (hh : cd.hasDict = true) (ha : W.findIn K (.ref C) name = some none)
    (hq : ∀ h' tk' dx, (∀ b o, b ≠ x → hp.get? b = some o → h'.get? b = some o) → hp.objs.size ≤ dx → dx ≠ x → h'.get? x = some { cls := .ref C, dict := some dx, data := .fields fv } → h'.Ns1 dx (fun y => if y = name then some v else none) → R (.ok (.ret .none)) ⟨h', g, d, tk', os⟩) :
    codeAny (model prog w) A (.call (.builtin "object.__setattr__") ⟨[.ref x, .str name tk, v], []⟩) R ⟨hp, g, d, t, os⟩ := by
  have J : W.InstAt hp x { cls := .ref C, data := .fields fv } C none := ⟨hx, rfl, rfl, trivial⟩
  have SO := F.store_object
  have nx : x ≠ hp.objs.size := Nat.ne_of_lt (Heap.lt_size hx)
  have sb : W.Looks (model prog w) hp (isInstance (.ref x) (.type "object")) true := J.type.andThen (W.looks_mroIn X (by unfold W.mroIn; rw [hcd, Option.bind_some, if_neg (by rw [ne]; decide), hob]))
  refine codeAny_call_builtin SO.slot.plain SO.entry (@W.check_slot (model prog w) _ _ ⟨hp, g, d, t, os⟩ "object.__setattr__" "object" "__setattr__" (.ref x) [.str name tk, v] [] _ SO.kind SO.split sb (SO.args (.ref x) (.str name tk) v) ?_)
  have mr : W.Looks (model prog w) hp (mroOf (.ref C)) cd.mro := (W.looks_clsIn X hcd).andThen .now
  have no : W.Looks (model prog w) hp (storeTaker? none) none := .now
  have cl : W.Looks (model prog w) hp (classData C) cd := W.looks_clsIn X hcd
  rw [W.osa_eq, refuse_eq]
  refine wpAny_bind (wpAny_bind (J.type.at (wpAny_bind (mr.at ?_))))
  rw [pass]
  refine wpAny_pure (wpAny_bind (J.type.at (wpAny_bind ((W.looks_findIn X ha).at (wpAny_bind (no.at (show wpAny _ _ (storeInOwnDict (.ref x) (.ref C) (.str name tk) name v false) _ _ _ from ?_)))))))
  obtain ⟨nm, bs, mro, ns, qn, hd, sn, sb, ab, col, del⟩ := cd
  dsimp only at hh
  subst hh
  unfold storeInOwnDict ownDictForStores
  repeat (first | with_reducible refine store_in_new ?_ ?_ | with_reducible refine wpAny_loadPart_at hx ?_ | with_reducible refine cl.at ?_ | wp_step)
  · exact ⟨_, #[], _, (Heap.get?_update_ne _ _ _ _ nx.symm).trans (Heap.get?_push_at rfl rfl), rfl, fun e he => absurd he (by simp), fun _ => rfl⟩
  · intro h' tk' hn' hs
    have hx2 : (hp.push { cls := .type "dict", data := .dict #[] }).get? x = some { cls := .ref C, data := .fields fv } := Heap.get?_push_of_some _ hx
    exact hq h' tk' hp.objs.size (fun b o hb ho => (hs.2 b (Nat.ne_of_lt (Heap.lt_size ho))).trans ((Heap.get?_update_ne _ _ _ _ hb).trans (Heap.get?_push_of_some _ ho))) (Nat.le_refl _) nx.symm ((hs.2 x nx).trans (Heap.get?_update_self _ hx2 rfl)) hn'
end
end PySem.XO
namespace L2
open PySem PySem.Spec PyProof.Rows PySem.XO
/-- what the written part says of an own exception's class; bm: its mro behind itself -/
structure OexG (K : PySem.W.Frag) (C : Addr) (bm : List Value) : Prop where
  cls : ∃ nm q N bs sn sub ab col dd k0 k1 k2 k3 k5 B newId, K.lookup C = some (excClassObj nm q C N bs bm true sn sub ab col dd k0 k1 k2 k3 k5 newId) ∧ XNew B newId ∧ bm.contains (.type B) = true
  noA : bm.contains (.type "AttributeError") = false
  noN : bm.contains (.type "NameError") = false
  ob : bm.contains (.type "object") = true
  pass : ∀ self, refuseLoop self "__setattr__" bm = pure ()
  sa : PySem.W.findIn K (.ref C) "__setattr__" = some (some (.builtin "object.__setattr__"))
  exC : PySem.W.subIn K (.ref C) (.type "BaseException") = some true
  tyC : PySem.W.typeIn K (.ref C) = some (.type "type")
  kC : PySem.W.keepIn K (.ref C) = true
section
variable {X : Cx} {pins : List (Addr × Obj)} {σ : St} {H : Hp} {s : Shared} {a C dx : Addr} {f : Str} {y : V} {u : Value} {bm : List Value} {E : Value → Shared → Prop} {A : Around}
theorem xst_new {Q : Unit → Shared → Prop} (T : OexG X.K C bm) (I : Inv X pins σ H s) (e : H a = some (exo a C none)) (hno : PySem.W.findIn X.K (.ref C) f = some none) (ry : RelV y u)
    (h : ∀ dx s', H dx = none → dx ≠ a → Inv X pins σ (upd (upd H dx (exd dx [(f, y)])) a (exo a C (some dx))) s' → Q () s') : wpAny (model X.prog X.w) A (setAttr (.ref a) f u) Q E s := by
  obtain ⟨nm, q, N, bs, sn, sub, ab, col, dd, k0, k1, k2, k3, k5, B, newId, hC, _, _⟩ := T.cls
  have hcl : PySem.W.clsIn X.K C = some { name := nm, bases := bs, mro := .ref C :: bm, ns := N, qualname := q, hasDict := true, slotNames := sn, subclasses := sub, abstract := ab, collection := col, hasDel := false } := by unfold PySem.W.clsIn; rw [hC] <;> rfl
  obtain ⟨t1, ho⟩ := exo_at I.hok e
  obtain ⟨hp, g, dr, t, os⟩ := s
  refine PySem.W.set_plain I.kIn (ox := { cls := .ref C, dict := none, data := .fields #[.ref t1, .none, .none, .none, .bool false, .none] }) (od := none) ⟨ho, rfl, rfl, trivial⟩ T.sa ?_
  refine first_field I.kIn ho hcl rfl (by rw [List.contains_cons, T.ob, Bool.or_true]) (by rw [refuseLoop_ref]; exact T.pass _) rfl hno (fun h' tk' dx k dn dne hx hn => ?_)
  have hnd : H dx = none := I.hok.fresh dn
  have nd : ∀ {b : Addr} {o : Obj}, hp.get? b = some o → b ≠ dx := fun {b o} q => Nat.ne_of_lt (Nat.lt_of_lt_of_le (Heap.lt_size q) dn)
  have na : ∀ {b : Addr}, H b = none → b ≠ a := fun {b} n z => by
    rw [z, e] at n
    cases n
  have Un1 : Un X.fs [] H (upd (upd H dx (exd dx [(f, y)])) a (exo a C (some dx))) hp h' :=
    ⟨fun b o q n _ _ => k b o (na n) q, fun b o q n _ _ => ⟨o.slots, k b o (na n) q⟩, fun b o q n _ => by rw [upd_ne (na n), upd_ne (nd q)]; exact n, fun b o q _ => by
      by_cases hb : b = a
      · exact ⟨_, by rw [hb]; exact hx⟩
      · exact ⟨o, k b o hb q⟩, fun b xs q => by rw [upd_ne (at_ne e q exo_tup), upd_ne (ne_of_none q hnd)]; exact q, fun b o v q => by rw [upd_ne (at_ne e q exo_frz), upd_ne (ne_of_none q hnd)]; exact q,
      fun b ps q => ⟨#[], by rw [upd_ne (at_ne e q exo_tbl), upd_ne (ne_of_none q hnd), q]; simp⟩⟩
  refine h dx _ hnd dne (I.un (t' := tk') Un1 fun b o q => ?_)
  by_cases hb : b = a
  · subst hb
    rw [upd_same] at q
    cases q
    exact exo_ok hx
  · rw [upd_ne hb] at q
    by_cases hd : b = dx
    · subst hd
      rw [upd_same] at q
      cases q
      exact exd_ok hn (relO_put (fs := []) ry fun g => True.intro)
    · rw [upd_ne hd] at q
      refine (I.hok b o q).stay (fun c v hc z => k c v ?_ z) (fun c hc => by rw [upd_ne (at_ne e hc exo_own), upd_ne (ne_of_none hc hnd)]; exact hc) (fun c xs hc => by rw [upd_ne (at_ne e hc exo_tup), upd_ne (ne_of_none hc hnd)]; exact hc)
      rcases hc with hc | hc
      · rw [hc]; exact hb
      · exact at_ne e hc exo_own
theorem xini_ok {us : List Value} {Q : Value → Shared → Prop} {Bi initId : String} (T : OexG X.K C bm) (FI : XIni Bi initId) (hBi : bm.contains (.type Bi) = true) (I : Inv X pins σ H s) (e : H a = some (exo a C none)) (hl : us.length ≤ sizeLine) (h : ∀ s', Inv X pins σ H s' → Q .none s') :
    wpAny (model X.prog X.w) A (call (.builtin initId) (.ref a :: us)) Q E s := by
  obtain ⟨nm, q, N, bs, sn, sub, ab, col, dd, k0, k1, k2, k3, k5, B, newId, hC, _, _⟩ := T.cls
  obtain ⟨t1, ho⟩ := exo_at I.hok e
  obtain ⟨hp, g, dr, t, os⟩ := s
  refine wpAny_call (go_ini FI hBi (I.kIn _ _ hC) ho hl fun h' t2 k hx => ?_)
  have J := I.write (t' := t) (x := a) (e := a) (o := exo a C none) (by rw [e]; exact True.intro) (.inl rfl) k ⟨_, hx⟩ (exo_ok hx)
  have eu : upd H a (exo a C none) = H := by
    funext b
    by_cases hb : b = a
    · rw [hb, upd_same, e]
    · rw [upd_ne hb]
  rw [eu] at J
  exact h _ J
end
/-! ### rules -/
/-- Base.__init__(self, ..) -/
def tXini (K : PySem.W.Frag) (Bi : String) (ta : TA) : TE := fun σ H Q => ta σ H fun vs H1 => ∃ (a C : Addr) (bm : List Value) (ws : List V), vs = .ref a :: ws ∧ ws.length ≤ 1000 ∧ OexG K C bm ∧ bm.contains (.type Bi) = true ∧ H1 a = some (exo a C none) ∧ Q .non H1
/-- what is known of the base: its __init__ is the built-in one -/
structure XBase (K : PySem.W.Frag) (mg : Str → Option Value) (x : Str) (Bi initId : String) : Prop where
  ex : ∃ CB, mg x = some (.ref CB) ∧ PySem.W.specialIn K (.ref CB) "__getattribute__" = some (some (.builtin "type.__getattribute__")) ∧ PySem.W.readsIn K CB (.type "type") = true ∧ PySem.W.findCls K (.ref CB) (.type "type") "__init__" = some (.val (.builtin initId))
  hand : PySem.W.handedIn (.builtin initId) = true
  ini : XIni Bi initId
section
variable {X : Cx} {o e : Expr} {es : List Expr} {to te : TE} {ta : TA} {f x : Str} {p p' p1 p2 pos : Pos} {Bi initId : String} {bm : List Value}
theorem pe_xini {pl : Sem Bool} (T : XBase X.K X.mg x Bi initId) (hg : Gl X x) (ha : PA X (e :: es) ta) (hdb : (x == ("__debug__" : Str)) = false := by decide)
    (hc : eval (.Call (.Attribute (.Name x p1) "__init__" p2) (e :: es) [] pos) X.env = (do
      let ov ← eval (.Name x p1) X.env
      standAt p2.atName
      let (f, first) ← holding [ov] (getMethod ov "__init__" pl)
      callWith pos f first (backTo pos (starEach (e :: es) X.env)) (backToKw pos (keywordEach [] X.env))) := by rfl)
    (he : starEach (e :: es) X.env = (false, eval e X.env) :: starEach es X.env := by rfl) (hpl : (backTo pos (starEach es X.env)).any (·.1) = false := by rfl) :
    PE X (.Call (.Attribute (.Name x p1) "__init__" p2) (e :: es) [] pos) (tXini X.K Bi ta) := by
  obtain ⟨CB, hm, h1, h2, h3⟩ := T.ex
  refine ⟨fun pins s σ H Q I h => ?_⟩
  refine PySem.W.methodCall_KW (ld_glob I hg hm ?_ hdb) hc
  refine PySem.W.method_cls I.kIn h1 (PySem.W.cls_value I.kIn h2 h3 T.hand ?_)
  show wpAny _ _ (callWith pos (Value.builtin initId) [] (backTo pos (starEach (e :: es) X.env)) []) _ _ _
  refine PyProof.Rows.callWith_method1 (thn (ha.run pos pins _ σ H _ (I.tok _) h) fun us s1 ⟨vs, H1, I1, r1, a, C, bm, ws, ev, hl, T1, hB, ea, q⟩ => ?_) he hpl
  subst ev
  cases r1 with
  | @cons _ u0 _ ur ra rw' =>
    obtain rfl : u0 = Value.ref a := ra
    exact xini_ok T1 T.ini hB I1 ea (by rw [← Paired.length rw', sizeLine_eq]; omega) fun s' J => ⟨.non, H1, J, rfl, q⟩
/-- self.f = e, the first field -/
def tXst (K : PySem.W.Frag) (f : Str) (to te : TE) : TS := fun D σ H => te σ H fun y H1 => to σ H1 fun x H2 => ∃ (a C : Addr) (bm : List Value), x = .ref a ∧ OexG K C bm ∧ PySem.W.findIn K (.ref C) f = some none ∧ H2 a = some (exo a C none) ∧
  ∀ dx, H2 dx = none → dx ≠ a → D.nx σ (upd (upd H2 dx (exd dx [(f, y)])) a (exo a C (some dx)))
theorem ps_xst (ho : PE X o to) (he : PE X e te) (hs : swapsWith e (some (.Attribute o f p')) pos.line X.env = pure false := by rfl) : PS X (.Assign [.Attribute o f p'] e pos) (tXst X.K f to te) := by
  refine ⟨fun pins s σ H D I h => ?_⟩
  refine plainObj_wpAny_Assign_Attribute (thn (he.run pins s σ H _ I h) fun v s1 ⟨y, H1, I1, r1, q1⟩ => thn (ho.run pins s1 σ H1 _ I1 q1) fun u s2 ⟨x, H2, I2, r2, a, C, bm, ex, T, hno, ea, q⟩ => ?_) hs
  subst ex
  obtain rfl : u = Value.ref a := r2
  exact xst_new T I2 ea hno r1 fun dx s' n ne J => ⟨σ, _, J, q dx n ne⟩
/-- what such an __init__ promises -/
def spXI (C : Addr) (f : Str) : Sp := fun vs H Q _ => ∃ (a : Addr) (v : V), vs = [.ref a, v] ∧ H a = some (exo a C none) ∧ ∀ dx, H dx = none → dx ≠ a → Q .non (upd (upd H dx (exd dx [(f, v)])) a (exo a C (some dx)))
/-- the class x, its one field f; k: the room that its __init__ wants -/
structure XMk (P : Program) (w : World) (K : PySem.W.Frag) (mg : Str → Option Value) (base : Heap) (k : Nat) (x f : Str) : Prop where
  ex : ∃ (C fI : Addr) (bm : List Value) (fd : FuncData) (ps : List Str), PySem.W.nsIn K mainGlobals x = some (some (.ref C)) ∧ mg x = some (.ref C) ∧ OexG K C bm ∧ PySem.W.findIn K (.ref C) "__init__" = some (some (.ref fI)) ∧ PySem.W.typeIn K (.ref fI) = some (.type "function") ∧
    (∀ (s : Shared) (u v : Value), K.In s.heap → BindsTo s fd ⟨[u, v], []⟩ (ps.zip [u, v])) ∧ L3.FnG P w K mg base CX0 k fI fd ps (spXI C f)
def tMkX (K : PySem.W.Frag) (x f : Str) (te : TE) : St → Hp → XK → Prop := fun σ H Q => te σ H fun v H1 => ∀ C d, PySem.W.nsIn K mainGlobals x = some (some (.ref C)) → H1 d = none → Q (.ref C) (some d) (upd H1 d (.xd [(f, v)]))
theorem pmk_X {k : Nat} (M : XMk X.prog X.w X.K X.mg X.base k x f) (hr : L3.RoomG (k + 1) X.A) (hg : Gl X x) (ha : PE X e te) (hdb : (x == ("__debug__" : Str)) = false := by decide) (he : starEach [e] X.env = [(false, eval e X.env)] := by rfl) (hpl : (backTo pos (starEach [] X.env)).any (·.1) = false := by rfl) :
    PMk X (.Call (.Name x p) [e] [] pos) (tMkX X.K x f te) := by
  intro pins s σ H Q I h
  obtain ⟨C, fI, bm, fd, ps, hns, hm, T, iC, tI, hb, F1⟩ := M.ex
  obtain ⟨nm, q, N, bs, sn, sub, ab, col, dd, k0, k1, k2, k3, k5, B, newId, hC, FN, hB⟩ := T.cls
  refine wpAny_Call_Name_kw (ld_glob I hg hm ?_ hdb)
  let Qa : List V → Hp → Prop := fun vs H1 => match vs with
    | [v] => ∀ C d, PySem.W.nsIn X.K mainGlobals x = some (some (.ref C)) → H1 d = none → Q (.ref C) (some d) (upd H1 d (.xd [(f, v)]))
    | _ => False
  have h0 : tCons te tNil σ H Qa := h
  refine PySem.W.callWith_K (h₀ := X.base) I.ok.mod.kin T.kC (thn ((pa_cons ha pa_nil he).run pos pins s σ H Qa I h0) fun us s1 ⟨vs, H1, I1, r1, q1⟩ => ⟨I1.kIn, ?_⟩) he hpl
  obtain ⟨v, rfl⟩ : ∃ v, vs = [v] := by
    match vs, q1 with
    | [v], _ => exact ⟨v, rfl⟩
  replace q1 : ∀ C d, PySem.W.nsIn X.K mainGlobals x = some (some (.ref C)) → H1 d = none → Q (.ref C) (some d) (upd H1 d (.xd [(f, v)])) := q1
  obtain ⟨u, rfl, ru⟩ := r1.one
  show wpAny _ _ (call (.ref C) [u]) _ _ _
  obtain ⟨hp, g, dr, tk, os⟩ := s1
  have hsz : hp.objs.size ≤ hp.objs.size + 1 := Nat.le_succ _
  have hn : H1 (hp.objs.size + 1) = none := I1.hok.fresh hsz
  have kk : ∀ b o, hp.get? b = some o → ((hp.push (PySem.W.kdv_tup [u])).push (PySem.HandSPX.excO C hp.objs.size)).get? b = some o := fun b o e => Heap.get?_push_of_some _ (Heap.get?_push_of_some _ e)
  have hget : ((hp.push (PySem.W.kdv_tup [u])).push (PySem.HandSPX.excO C hp.objs.size)).get? (hp.objs.size + 1) = some (PySem.HandSPX.excO C hp.objs.size) := by heap_get
  have I2 : Inv X pins σ (upd H1 (hp.objs.size + 1) (exo (hp.objs.size + 1) C none)) ⟨(hp.push (PySem.W.kdv_tup [u])).push (PySem.HandSPX.excO C hp.objs.size), g, dr, tk, os⟩ :=
    I1.laid (t' := tk) (a := hp.objs.size + 1) (o := exo (hp.objs.size + 1) C none) (h' := (hp.push (PySem.W.kdv_tup [u])).push (PySem.HandSPX.excO C hp.objs.size)) kk hsz (exo_ok hget)
  have r2 : Vals [V.ref (hp.objs.size + 1), v] [Value.ref (hp.objs.size + 1), u] := .cons rfl (.cons ru .nil)
  have gd : (X.A.under (.builtin "type.__call__" ⟨[.ref C, u], []⟩)).guards = some [] := by
    have : (X.A.under (.builtin "type.__call__" ⟨[.ref C, u], []⟩)).guards = X.A.guards := by
      first | rfl | simp [Around.under, Code.guards, Code.isGuard, guardIds, pushGuards]
    rw [this]; exact hr.gd
  have hsp : spXI C f [.ref (hp.objs.size + 1), v] (upd H1 (hp.objs.size + 1) (exo (hp.objs.size + 1) C none)) (fun z H2 => z = .non ∧ ∃ (d : Addr) (fs : List (Str × V)), H2 (hp.objs.size + 1) = some (exo (hp.objs.size + 1) C (some d)) ∧ H2 d = some (exd d fs) ∧ H1 d = none ∧ Q (.ref C) (some d) (upd (del H2 (hp.objs.size + 1)) d (.xd fs))) (fun _ _ _ => False) := by
    refine ⟨_, v, rfl, upd_same, fun dx h1 h2 => ⟨rfl, dx, [(f, v)], upd_same, by rw [upd_ne h2, upd_same], ?_, ?_⟩⟩
    · rw [upd_ne h2] at h1; exact h1
    · have h3 : H1 dx = none := by rw [upd_ne h2] at h1; exact h1
      have eH : upd (del (upd (upd (upd H1 (hp.objs.size + 1) (exo (hp.objs.size + 1) C none)) dx (exd dx [(f, v)])) (hp.objs.size + 1) (exo (hp.objs.size + 1) C (some dx))) (hp.objs.size + 1)) dx (.xd [(f, v)]) = upd H1 dx (.xd [(f, v)]) := by
        funext b
        by_cases b1 : b = dx
        · subst b1; rw [upd_same, upd_same]
        · rw [upd_ne b1, upd_ne b1]
          by_cases b2 : b = hp.objs.size + 1
          · subst b2; rw [del_same]; exact hn.symm
          · rw [del_ne b2, upd_ne b2, upd_ne b1, upd_ne b2]
      rw [eH]
      exact q1 C dx hns h3
  refine wpAny_call (go_made FN hB T.noA T.noN (I1.kIn _ _ hC) (PySem.W.looks_findIn I1.kIn iC) (fun self => PySem.W.bind_fn I1.kIn self tI) (by rw [sizeLine_eq]; show 1 ≤ _; decide)
    (codeAny_mono (F1.go _ X.stack _ _ ⟨[Value.ref (hp.objs.size + 1), u], []⟩ [Value.ref (hp.objs.size + 1), u] _ _ (fun _ _ _ => False) ⟨hr.rm.make C [u] [], gd⟩ (I2.env0.make C [u] []) (hb _ _ _ I2.kIn) r2 hsp) fun r s' hq' => ?_))
  match r, hq' with
  | .error er, hq' => exact hq'.elim
  | .ok (.ret z), hq' =>
    obtain ⟨y, H2, os2, bare2, un2, hok2, rv, ev, d, fs, ea, ed, hd1, q2⟩ := hq'
    subst ev
    obtain ⟨h2, g2, d2, t2, os'⟩ := s'
    exact ⟨rv, mk_end (raises_own T.exC T.tyC) I1 hsz kk un2 hok2 os2 bare2 ea ed hd1 q2⟩
end
end L2

namespace L3
open PySem PySem.Spec PyProof.Rows L2
/-! ### what is wished of an exception: its class's name, its fields (and the slots) -/
abbrev XK3 := Str → List (Str × D) → Mu → Prop
abbrev XR := Str → List (Str × D) → St3 → Mu → Prop
abbrev Spx := List D → Mu → DK → XK3 → Prop
/-- the wish of a context and what it comes to -/
structure Xz (X : Cx) (Z : Zn X.kn) where
  W : WX
  tk : Takes X W
  rx : XR
  ok : ∀ F H μ σ δ C dd n fs gs, Sim Z F H μ → Sl X.kn F H σ δ → clsA X.kn n C → H dd = some (.xd gs) → Rpf X.kn F H fs gs → rx n fs δ μ → W (.ref C) (some dd) σ H
section
variable {X : Cx} {Z : Zn X.kn} {e o : Expr} {es : List Expr} {te to : TE3} {tr tk : TA3} {x f : Str} {p pos pos2 : Pos} {k j n np : Nat}
/-- raise C(e) -/
def sRaise (rx : XR) (n f : Str) (te : TE3) : TS3 := fun _ δ μ => te δ μ fun d μ1 => rx n [(f, d)] δ μ1
theorem s_raise (V : Xz X Z) (M : XMk X.prog X.w X.K X.mg X.base k x f) (hr : RoomG j X.A) (hc : X.calm = true) (he : E3 X Z e te) (hk : k + 1 ≤ j := by decide) (hg : Gl X x := by rfl) (hdb : (x == ("__debug__" : Str)) = false := by decide)
    (hs : starEach [e] X.env = [(false, eval e X.env)] := by rfl) (hpl : (backTo pos (starEach [] X.env)).any (·.1) = false := by rfl) : S3 X Z (.Raise (some (.Call (.Name x p) [e] [] pos)) none pos2) (sRaise V.rx x f te) :=
  (ps_raise hc V.tk (pmk_X M (hr.mono hk) hg he hdb hs hpl)).imp fun D σ H h => by
    obtain ⟨F, δ, μ, D3, s, sl, h, kk⟩ := h
    refine ⟨F, δ, μ, _, s, sl, h, fun F1 v H1 d μ1 g r1 q1 => ?_⟩
    intro C dd hns hd
    have g2 := g.sim.newS (o := .xd [(f, v)]) hd
    exact V.ok F1 _ μ1 σ δ C dd x [(f, d)] [(f, v)] g2.sim ((sl.st g).st g2) hns upd_same (.cons (r1.st g2) .nil) q1
/-! ### promises of defs that may raise -/
def liftX (K : Kn) (n : Nat) (sp : Spx) : Sp := fun vs H Q E => ∃ (F : Addr → Prop) (ds : List D) (μ : Mu) (R : DK) (RX : XK3), ds.length = n ∧ Sim (Zn.top K) F H μ ∧ Rps K F H ds vs ∧ sp ds μ R RX ∧
  (∀ F' v H' d μ', Step (Zn.top K) F H μ F' H' μ' → Rp K F' H' d v → R d μ' → Q v H') ∧
  ∀ F' H' μ' C dd m fs gs, Step (Zn.top K) F H μ F' H' μ' → clsA K m C → H' dd = some (.xd gs) → Rpf K F' H' fs gs → RX m fs μ' → E (.ref C) (some dd) H'
theorem liftX_len {K : Kn} {n : Nat} {sp : Spx} {vs : List V} {H : Hp} {Q : VK} {E : XK} (h : liftX K n sp vs H Q E) : vs.length = n := by
  obtain ⟨F, ds, μ, R, RX, l, _, r, _⟩ := h
  rw [← r.length]; exact l
/-- an exception leaves a def: what it made is forgotten -/
def finX (RX : XK3) (n : Str) (fs : List (Str × D)) (μ : Mu) : Prop := ∃ fs' μ', Le μ' μ ∧ Frf μ μ' fs fs' ∧ RX n fs' μ'
theorem finX_same {RX : XK3} {n : Str} {fs : List (Str × D)} {μ μ' : Mu} (l : Le μ' μ) (h : RX n fs μ') : finX RX n fs μ := ⟨fs, μ', l, Frf.same fs, h⟩
theorem finX_now {RX : XK3} {n : Str} {fs : List (Str × D)} {μ : Mu} (h : RX n fs μ) : finX RX n fs μ := finX_same (Le.refl μ) h
/-- the zone of a def's run: all that came since its beginning -/
def Zn.since (K : Kn) (F0 : Addr → Prop) (H0 : Hp) (μ0 : Mu) : Zn K where
  his := fun F H μ => Grow F0 H0 F H ∧ Fm F0 μ0 H0 F μ H
  mono := fun g m _ h => ⟨h.1.trans g, h.2.trans m⟩
end
section
variable {P : Program} {w : World} {K : PySem.W.Frag} {mg : Str → Option Value} {base : Heap}
theorem Def3.okX {x qual : Str} {st : Stmt} {dfl : List V} {kwd : List (Str × V)} {f : Addr} {fd : FuncData} {N ps : List Str} {k : Nat} {sp : Spx} (F : Def3 K x qual st dfl kwd f fd) (S : FnScope N ps (defScope st))
    (hb : ∀ (cdv : Value) (A : Around) (fs : List Env) (s : Shared) (H : Hp) (E : XK), RoomG k (A.deeper (envOfC qual (defScope st) s.heap.objs.size f cdv)) →
      ∃ t : XR → TS3, (∀ (Z : Zn (cxOf (L2.CX P w) P w K mg base N qual (defScope st) f cdv A fs s H E).kn) (V : Xz (cxOf (L2.CX P w) P w K mg base N qual (defScope st) f cdv A fs s H E) Z), Ss3 (cxOf (L2.CX P w) P w K mg base N qual (defScope st) f cdv A fs s H E) Z (defBody st) (t V.rx)) ∧
        ∀ ds μ R RX, ds.length = ps.length → sp ds μ R RX → t (fun m fs _ μ' => finX RX m fs μ') (endsOf R) (start3 N ds) μ) : FnG P w K mg base (L2.CX P w) (k + 1) f fd ps (liftX ⟨K, P, w⟩ ps.length sp) := by
  obtain ⟨oc, od, dV, kV, doc, pm, an, cdv, ct, osl, rfl, lk, cd, _⟩ := F.ex
  refine fng_of lk cd S (fun _ _ _ _ h => liftX_len h) fun A fs s H xs Q E hr h => ?_
  obtain ⟨F', ds, μ, R, RX, l, sm, r, hsp, kk, kx⟩ := h
  obtain ⟨t, h1, h2⟩ := hb cdv A fs s H E hr
  let X := cxOf (L2.CX P w) P w K mg base N qual (defScope st) f cdv A fs s H E
  let Z : Zn X.kn := Zn.since X.kn F' H μ
  let V : Xz X Z := {
    W := fun cls d _ H => E cls d H
    tk := takes_of rfl rfl rfl rfl
    rx := fun m fs _ μ' => finX RX m fs μ'
    ok := fun F1 H1 μ1 σ δ C dd m fs gs s1 _ hC hd hf hx => by
      obtain ⟨fs', μ2, le, fr, q⟩ := hx
      have s0 : Step (Zn.top X.kn) F' H μ F1 H1 μ1 := ⟨s1.his.1, s1.his.2, s1.raw, trivial⟩
      have g2 := s0.sim.dropS le
      exact kx _ H1 μ2 C dd m fs' gs (s0.trans g2) hC hd (Rpf.gone s1.raw fr hf) q }
  have smZ : Sim Z F' H μ := ⟨sm.raw, Grow.refl, Fm.refl⟩
  refine ⟨_, h1 Z V, F', _, μ, _, smZ, Sl.start r, h2 ds μ R RX l hsp, fin_ends fun F2 v H2 d μ2 g r2 q2 => kk F2 v H2 d μ2 ⟨g.grow, g.fm, g.sim.raw, trivial⟩ r2 q2⟩
end
end L3

namespace L3
open PySem PySem.Spec PyProof.Rows L2
/-! ### calls that may raise -/
/-- never here, though the def may -/
theorem lfX0 {X : Cx} {Z : Zn X.kn} {n : Nat} {sp : Spx} : Lft X Z (L2.CX X.prog X.w) n (fun ds μ R => sp ds μ R fun _ _ _ => False) (liftX X.kn n sp) E0 :=
  ⟨passL, fun F H μ ds vs R Q l s r h k => ⟨F, ds, μ, R, _, l, s.up, r, h, fun F' v H' d μ' g => k F' v H' d μ' (g.on s), fun _ _ _ _ _ _ _ _ _ _ _ _ z => z.elim⟩⟩
/-- a def's promise where it never raises -/
abbrev Spx.calm (sp : Spx) : Sp3 := fun ds μ R => sp ds μ R fun _ _ _ => False
def vCalX (rx : XR) (n m : Nat) (os : List Src) (dfl : List D) (sp : Spx) (tr tk : TA3) : TE3 := fun δ μ R => tr δ μ fun ds μ1 => tk δ μ1 fun zs μ2 => ds.length = n ∧ zs.length = m ∧ sp (picks .non os ds zs dfl) μ2 R fun c fs μ3 => rx c fs δ μ3
def vMetX (rx : XR) (n m : Str) (cnt : Nat) (os : List Src) (dfl : List D) (sp : Spx) (to : TE3) (tr : TA3) : TE3 := fun δ μ R => to δ μ fun x μ1 => ∃ fs, insOf μ1 n x = some fs ∧ fs.lookup m = none ∧ tr δ μ1 fun ds μ2 => ds.length = cnt ∧ sp (picks .non os (x :: ds) [] dfl) μ2 R fun c fs μ3 => rx c fs δ μ3
def vMakX (rx : XR) (n : Str) (cnt m : Nat) (os : List Src) (dfl : List D) (sp : Spx) (tr tk : TA3) : TE3 := fun δ μ R => tr δ μ fun ds μ1 => tk δ μ1 fun zs μ2 => ds.length = cnt ∧ zs.length = m ∧
  ∀ q, μ2 q = none → sp (picks .non os (.ref q :: ds) zs dfl) (mset μ2 q (.ins n [])) (fun d μ3 => d = .non ∧ fin R (.ref q) μ3) fun c fs μ3 => rx c fs δ μ3
section
variable {X : Cx} {Z : Zn X.kn} {e o : Expr} {es : List Expr} {kws : List Keyword} {tr tk : TA3} {te to : TE3} {x n m : Str} {p pos apos : Pos} {k np nn : Nat} {ks : List Str} {os : List Src} {dfl : List D} {spx : Spx} {j : Nat} {f C : Addr} {fd : FuncData} {ps : List Str} {sp : Sp}
theorem run_gx {W : WX} {pins : List (Addr × Obj)} {σ : L2.St} {H : Hp} {s : Shared} {Q : VK} {us as : List Value} {kw : List (Str × Value)} {xs : List V} (F : FnG X.prog X.w X.K X.mg X.base (L2.CX X.prog X.w) k f fd ps sp) (hr : RoomG k X.A) (tk : Takes X W)
    (I : Inv X pins σ H s) (hb : BindsTo s fd ⟨as, kw⟩ (ps.zip us)) (rv : Vals xs us) (h : sp xs H Q (WE W σ)) : wpAny (model X.prog X.w) X.A (call (.ref f) as kw) (EP X pins σ Q) X.xe s := by
  refine wpAny_call (codeAny_mono (F.go X.A X.stack s H _ us xs Q (WE W σ) hr I.env0 hb rv h) fun res s2 hq => ?_)
  match res, hq with
  | .error er, hq => exact tk er s2 (XE.of_call I (fun _ _ _ z => z) hq)
  | .ok (.ret u), hq => exact I.after hq
theorem run_gmakeX {W : WX} {pins : List (Addr × Obj)} {σ : L2.St} {H : Hp} {s : Shared} {Q : VK} {as : List Value} {kw : List (Str × Value)} (M : Mk X.K C f) (F : FnG X.prog X.w X.K X.mg X.base (L2.CX X.prog X.w) k f fd ps sp) (hr : RoomG (k + 1) X.A) (tk : Takes X W)
    (I : Inv X pins σ H s)
    (h : ∀ x dx, H x = none → H dx = none → dx ≠ x → ∃ us xs, (∀ s1 : Shared, X.K.In s1.heap → BindsTo s1 fd ⟨.ref x :: as, kw⟩ (ps.zip us)) ∧ Vals xs us ∧ sp xs (upd (upd H dx (.own x)) x (.ins C dx [])) (fun v H2 => v = .non ∧ Q (.ref x) H2) (WE W σ)) :
    wpAny (model X.prog X.w) X.A (call (.ref C) as kw) (EP X pins σ Q) X.xe s := by
  obtain ⟨us, xs, hb, rv, hq⟩ := h (s.heap.objs.size + 1) s.heap.objs.size (I.hok.fresh (Nat.le_succ _)) (I.hok.fresh (Nat.le_refl _)) (Nat.ne_of_lt (Nat.lt_succ_self _))
  have J := Inv.made (C := C) I
  have gd : (X.A.under (.builtin "type.__call__" ⟨.ref C :: as, kw⟩)).guards = some [] := by
    have : (X.A.under (.builtin "type.__call__" ⟨.ref C :: as, kw⟩)).guards = X.A.guards := by
      first | rfl | simp [Around.under, Code.guards, Code.isGuard, guardIds, pushGuards]
    rw [this]; exact hr.gd
  refine wpAny_call (make_map (f := f) I.kIn M.makes M.init (beq_iff_eq.mp M.fn) (codeAny_mono (F.go _ X.stack _ _ _ us xs _ (WE W σ) ⟨hr.rm.make C as kw, gd⟩ (J.env0.make C as kw) (hb _ J.kIn) rv hq) fun res s2 hq2 => ?_))
  match res, hq2 with
  | .error er, hq2 => exact tk er s2 (XE.of_call J (fun _ _ _ z => z) hq2)
  | .ok (.ret u), hq2 =>
    obtain ⟨v, H2, J2, r2, e2, q2⟩ := J.after hq2
    subst e2
    exact ⟨r2, .ref (s.heap.objs.size + 1), H2, J2, rfl, q2⟩
theorem run_calX {pins : List (Addr × Obj)} {σ : L2.St} {δ : St3} {H : Hp} {s : Shared} {Q : VK} {us ws : List Value} {vs zs : List V} {F : Addr → Prop} {μ : Mu} {ds es : List D} {R : DK} {n : Nat} (V : Xz X Z) (sl : Sl X.kn F H σ δ)
    (hb : Bd3 X.K fd ps n ks os (dfl.map flV)) (fl : dfl.all flatD = true) (hnp : os.length = np) (G : FnG X.prog X.w X.K X.mg X.base (L2.CX X.prog X.w) k f fd ps (liftX X.kn np spx)) (hr : RoomG k X.A) (I : Inv X pins σ H s) (r1 : Vals vs us) (r2 : Vals zs ws)
    (sm : Sim Z F H μ) (q1 : Rps X.kn F H ds vs) (q2 : Rps X.kn F H es zs) (l1 : ds.length = n) (l2 : es.length = ks.length) (hsp : spx (picks .non os ds es dfl) μ R fun c fs μ3 => V.rx c fs δ μ3)
    (kk : ∀ F' v H' d μ', Step Z F H μ F' H' μ' → Rp X.kn F' H' d v → R d μ' → Q v H') : wpAny (model X.prog X.w) X.A (call (.ref f) us (ks.zip ws)) (EP X pins σ Q) X.xe s := by
  obtain ⟨hl, dv, rd, hb⟩ := hb
  refine run_gx G hr V.tk I (hb s us ws I.kIn (by rw [← r1.length, ← q1.length, l1]) (by rw [← r2.length, ← q2.length, l2])) (vals_picks r1 r2 rd os) ?_
  exact ⟨F, _, μ, R, _, by rw [← hnp]; exact List.length_map _, sm.up, rps_picks q1 q2 (flV_ok fl) os, hsp, fun F' v H' d μ' g => kk F' v H' d μ' (g.on sm), fun F' H' μ' C dd m fs gs g hC hd hf hx => V.ok F' H' μ' σ δ C dd m fs gs (g.on sm).sim (sl.st (g.on sm)) hC hd hf hx⟩
theorem run_makX {pins : List (Addr × Obj)} {σ : L2.St} {δ : St3} {H : Hp} {s : Shared} {Q : VK} {us ws : List Value} {vs zs : List V} {F : Addr → Prop} {μ : Mu} {ds es : List D} {R : DK} {cnt : Nat} (V : Xz X Z) (sl : Sl X.kn F H σ δ)
    (hC : PySem.W.nsIn X.K mainGlobals n = some (some (.ref C))) (M : Mk X.K C f)
    (hb : Bd3 X.K fd ps (cnt + 1) ks os (dfl.map flV)) (fl : dfl.all flatD = true) (hnp : os.length = np) (G : FnG X.prog X.w X.K X.mg X.base (L2.CX X.prog X.w) k f fd ps (liftX X.kn np spx)) (hr : RoomG (k + 1) X.A) (I : Inv X pins σ H s) (r1 : Vals vs us) (r2 : Vals zs ws)
    (sm : Sim Z F H μ) (q1 : Rps X.kn F H ds vs) (q2 : Rps X.kn F H es zs) (l1 : ds.length = cnt) (l2 : es.length = ks.length)
    (hsp : ∀ q, μ q = none → spx (picks .non os (.ref q :: ds) es dfl) (mset μ q (.ins n [])) (fun d μ3 => d = .non ∧ fin R (.ref q) μ3) fun c fs μ3 => V.rx c fs δ μ3)
    (kk : ∀ F' v H' d μ', Step Z F H μ F' H' μ' → Rp X.kn F' H' d v → R d μ' → Q v H') : wpAny (model X.prog X.w) X.A (call (.ref C) us (ks.zip ws)) (EP X pins σ Q) X.xe s := by
  obtain ⟨hl, dv, rd, hb⟩ := hb
  refine run_gmakeX M G hr V.tk I fun x dx hx hdx ne => ?_
  refine ⟨picks .none os (.ref x :: us) ws dv, picks .non os (.ref x :: vs) zs (dfl.map flV), fun s1 k1 => hb s1 (.ref x :: us) ws k1 (by rw [List.length_cons, ← r1.length, ← q1.length, l1]) (by rw [← r2.length, ← q2.length, l2]), vals_picks (.cons (show RelV (.ref x) (.ref x) from rfl) r1) r2 rd os, ?_⟩
  have g1 := sm.newS (o := .own x) hdx
  have hx1 : upd H dx (.own x) x = none := by rw [upd_ne (Ne.symm ne)]; exact hx
  have g2 := g1.sim.trkS (o := .ins C dx []) (m := .ins n []) hx1 fun g' e => ⟨C, dx, [], hC, e, .nil⟩
  have g := g1.trans g2
  refine ⟨F, _, _, _, _, by rw [← hnp]; exact List.length_map _, g.sim.up, rps_picks (.cons (.ref x) (q1.st g)) (q2.st g) (flV_ok fl) os, hsp x (sm.free hx), ?_, fun F' H' μ' C2 dd m2 fs gs g3 hC2 hd hf hx2 => V.ok F' H' μ' σ δ C2 dd m2 fs gs (g3.on g.sim).sim (sl.st (g.trans (g3.on g.sim))) hC2 hd hf hx2⟩
  rintro F' v H' d μ' g3' r3 ⟨rfl, d', μ4, l4, f4, q4⟩
  have g3 := g3'.on g.sim
  cases r3
  refine ⟨rfl, kk _ _ _ d' μ4 ((g.trans g3).trans (g3.sim.dropS l4)) (Rp.gone g3.sim.raw f4 (.ref x)) q4⟩
theorem e_calPX (V : Xz X Z) (c : Cal3 X.prog X.w X.K X.mg X.base (L2.CX X.prog X.w) k x nn [] os dfl np (liftX X.kn np spx)) (hr : RoomG j X.A) (ha : A3 X Z (e :: es) tr) (hk : k ≤ j := by decide) (hg : Gl X x := by rfl) (hd : (x == ("__debug__" : Str)) = false := by decide)
    (he : starEach (e :: es) X.env = (false, eval e X.env) :: starEach es X.env := by rfl) (hpl : (backTo pos (starEach es X.env)).any (·.1) = false := by rfl) : E3 X Z (.Call (.Name x p) (e :: es) [] pos) (vCalX V.rx nn 0 os dfl spx tr vNil) := by
  obtain ⟨f, fd, ps, hm, kp, hb, G⟩ := c.ex
  refine ⟨fun pins s σ H Q I h => ?_⟩
  refine wpAny_Call_Name_kw (ld_glob I hg hm ?_ hd)
  obtain ⟨F, δ, μ, R, sm, sl, h, kk⟩ := h
  refine PySem.W.callWith_K (h₀ := X.base) I.ok.mod.kin kp (thn (ha.run pos pins s σ H _ I (got sm sl h))
    fun us s1 ⟨vs, H1, I1, r, F1, ds, μ1, g, r1, q1⟩ => ⟨I1.kIn, ?_⟩) he hpl
  exact run_calX (us := us) (ws := []) (ks := []) V (sl.st g) hb c.fl c.np G (hr.mono hk) I1 r .nil g.sim r1 .nil q1.1 rfl q1.2.2 fun F2 v H2 d μ2 g2 r2 q2 => kk F2 v H2 d μ2 (g.trans g2) r2 q2
theorem e_cal0X (V : Xz X Z) (c : Cal3 X.prog X.w X.K X.mg X.base (L2.CX X.prog X.w) k x nn [] os dfl np (liftX X.kn np spx)) (hr : RoomG j X.A) (hk : k ≤ j := by decide) (hg : Gl X x := by rfl) (hd : (x == ("__debug__" : Str)) = false := by decide) : E3 X Z (.Call (.Name x p) [] [] pos) (vCalX V.rx nn 0 os dfl spx vNil vNil) := by
  obtain ⟨f, fd, ps, hm, kp, hb, G⟩ := c.ex
  refine ⟨fun pins s σ H Q I h => ?_⟩
  refine wpAny_Call_Name_kw (ld_glob I hg hm ?_ hd)
  obtain ⟨F, δ, μ, R, sm, sl, h, kk⟩ := h
  exact PySem.W.callWith_K0 I.kIn kp (run_calX (us := []) (ws := []) (ks := []) V sl hb c.fl c.np G (hr.mono hk) I .nil .nil sm .nil .nil h.1 rfl h.2.2 kk)
theorem e_calKX {m : Nat} (V : Xz X Z) (c : Cal3 X.prog X.w X.K X.mg X.base (L2.CX X.prog X.w) k x nn ks os dfl np (liftX X.kn np spx)) (hr : RoomG j X.A) (ha : A3 X Z (e :: es) tr) (hkw : K3 X Z kws tk) (hk : k ≤ j := by decide) (hg : Gl X x := by rfl) (hd : (x == ("__debug__" : Str)) = false := by decide)
    (hall : (backToKw pos (keywordEach kws X.env)).all (·.1.isSome) = true := by rfl) (hks : (backToKw pos (keywordEach kws X.env)).filterMap (·.1) = ks := by rfl)
    (he : starEach (e :: es) X.env = (false, eval e X.env) :: starEach es X.env := by rfl)
    (hpl : ((backTo pos (starEach (e :: es) X.env)).any (·.1) || (backToKw pos (keywordEach kws X.env)).any (·.1.isNone)) = false := by rfl) (hm : ks.length = m := by rfl) : E3 X Z (.Call (.Name x p) (e :: es) kws pos) (vCalX V.rx nn m os dfl spx tr tk) := by
  subst hm
  obtain ⟨f, fd, ps, hm, kp, hb, G⟩ := c.ex
  refine ⟨fun pins s σ H Q I h => ?_⟩
  refine wpAny_Call_Name_kw (ld_glob I hg hm ?_ hd)
  obtain ⟨F, δ, μ, R, sm, sl, h, kk⟩ := h
  refine PySem.W.callWith_KW (h₀ := X.base) I.ok.mod.kin kp hall (thn (ha.run pos pins s σ H _ I (got sm sl h))
    fun us s1 ⟨vs, H1, I1, r, F1, ds, μ1, g, r1, q1⟩ => ?_) hpl he
  refine thn (hkw.run pos pins s1 σ H1 _ I1 (got g.sim (sl.st g) q1))
    fun ws s2 ⟨zs, H2, I2, rz, F2, ds2, μ2, g2, r2, q2⟩ => ⟨I2.kIn, ?_⟩
  rw [hks]
  exact run_calX V (sl.st (g.trans g2)) hb c.fl c.np G (hr.mono hk) I2 r rz g2.sim (r1.st g2) r2 q2.1 q2.2.1 q2.2.2 fun F3 v H3 d μ3 g3 r3 q3 => kk F3 v H3 d μ3 ((g.trans g2).trans g3) r3 q3
theorem e_metX {pl : Sem Bool} {cnt : Nat} (V : Xz X Z) (c : Met3 X.prog X.w X.K X.mg X.base (L2.CX X.prog X.w) k n m cnt [] os dfl np (liftX X.kn np spx)) (hr : RoomG j X.A) (ho : E3 X Z o to) (ha : A3 X Z (e :: es) tr) (hk : k ≤ j := by decide)
    (hst : starEach (e :: es) X.env = (false, eval e X.env) :: starEach es X.env := by rfl) (hpl : (backTo pos (starEach es X.env)).any (·.1) = false := by rfl)
    (ht : eval (.Call (.Attribute o m apos) (e :: es) [] pos) X.env = (do
      let ov ← eval o X.env
      standAt apos.atName
      let (f, first) ← holding [ov] (getMethod ov m pl)
      callWith pos f first (backTo pos (starEach (e :: es) X.env)) (backToKw pos (keywordEach [] X.env))) := by rfl) :
    E3 X Z (.Call (.Attribute o m apos) (e :: es) [] pos) (vMetX V.rx n m cnt os dfl spx to tr) := by
  obtain ⟨C, f, fd, ps, hC, cl, hm, hb, G⟩ := c.ex
  refine ⟨fun pins s σ H Q I h => ?_⟩
  obtain ⟨F, δ, μ, R, sm, sl, h, kk⟩ := h
  refine PySem.W.methodCall_KW (pl := pl) (thn (ho.run pins s σ H _ I (got1 sm sl h)) fun u s1 ⟨v, H1, I1, rx, F1, x, μ1, g, r1, fs, ei, en, q⟩ => ?_) ht
  obtain ⟨C2, a, dx, gs, rfl, c2, ea, rf⟩ := ins_of g.sim.raw r1 ei
  obtain rfl : C = C2 := (clsA.inj (K := X.kn) c2 hC).symm
  obtain rfl : u = Value.ref a := rx
  refine getmeth_ok I1 ea cl hm (rf.val.2 en) ?_
  refine PySem.W.callWith_K (first := [.ref a]) (h₀ := X.base) I.ok.mod.kin hm.kp (thn (ha.run pos pins s1 σ H1 _ I1 (got g.sim (sl.st g) q)) fun us s2 ⟨vs, H2, I2, r, F2, ds, μ2, g2, r2, q2⟩ => ⟨I2.kIn, ?_⟩) hst hpl
  exact run_calX (us := .ref a :: us) (ws := []) (ks := []) (vs := .ref a :: vs) (ds := x :: ds) V (sl.st (g.trans g2)) hb c.fl c.np G (hr.mono hk) I2 (.cons rfl r) .nil g2.sim (.cons (r1.st g2) r2) .nil (by rw [List.length_cons, q2.1]) rfl q2.2
    fun F3 v H3 d μ3 g3 r3 q3 => kk F3 v H3 d μ3 ((g.trans g2).trans g3) r3 q3
theorem e_met0X {pl : Sem Bool} {cnt : Nat} (V : Xz X Z) (c : Met3 X.prog X.w X.K X.mg X.base (L2.CX X.prog X.w) k n m cnt [] os dfl np (liftX X.kn np spx)) (hr : RoomG j X.A) (ho : E3 X Z o to) (hk : k ≤ j := by decide)
    (ht : eval (.Call (.Attribute o m apos) [] [] pos) X.env = (do
      let ov ← eval o X.env
      standAt apos.atName
      let (f, first) ← holding [ov] (getMethod ov m pl)
      callWith pos f first (backTo pos (starEach [] X.env)) (backToKw pos (keywordEach [] X.env))) := by rfl) :
    E3 X Z (.Call (.Attribute o m apos) [] [] pos) (vMetX V.rx n m cnt os dfl spx to vNil) := by
  obtain ⟨C, f, fd, ps, hC, cl, hm, hb, G⟩ := c.ex
  refine ⟨fun pins s σ H Q I h => ?_⟩
  obtain ⟨F, δ, μ, R, sm, sl, h, kk⟩ := h
  refine PySem.W.methodCall_KW (pl := pl) (thn (ho.run pins s σ H _ I (got1 sm sl h)) fun u s1 ⟨v, H1, I1, rx, F1, x, μ1, g, r1, fs, ei, en, q⟩ => ?_) ht
  obtain ⟨C2, a, dx, gs, rfl, c2, ea, rf⟩ := ins_of g.sim.raw r1 ei
  obtain rfl : C = C2 := (clsA.inj (K := X.kn) c2 hC).symm
  obtain rfl : u = Value.ref a := rx
  refine getmeth_ok I1 ea cl hm (rf.val.2 en) ?_
  exact PySem.W.callWith_K0 (first := [.ref a]) I1.kIn hm.kp (run_calX (us := [.ref a]) (ws := []) (ks := []) (vs := [.ref a]) (ds := [x]) V (sl.st g) hb c.fl c.np G (hr.mono hk) I1 (.cons rfl .nil) .nil g.sim (.cons r1 .nil) .nil (by rw [← q.1]; rfl) rfl q.2
    fun F3 v H3 d μ3 g3 r3 q3 => kk F3 v H3 d μ3 (g.trans g3) r3 q3)
theorem e_makX {cnt : Nat} (V : Xz X Z) (c : Mak3 X.prog X.w X.K X.mg X.base (L2.CX X.prog X.w) k x cnt [] os dfl np (liftX X.kn np spx)) (hr : RoomG j X.A) (ha : A3 X Z (e :: es) tr) (hk : k + 1 ≤ j := by decide) (hg : Gl X x := by rfl) (hd : (x == ("__debug__" : Str)) = false := by decide)
    (he : starEach (e :: es) X.env = (false, eval e X.env) :: starEach es X.env := by rfl) (hpl : (backTo pos (starEach es X.env)).any (·.1) = false := by rfl) : E3 X Z (.Call (.Name x p) (e :: es) [] pos) (vMakX V.rx x cnt 0 os dfl spx tr vNil) := by
  obtain ⟨C, f, fd, ps, hC, hm, M, hb, G⟩ := c.ex
  refine ⟨fun pins s σ H Q I h => ?_⟩
  refine wpAny_Call_Name_kw (ld_glob I hg hm ?_ hd)
  obtain ⟨F, δ, μ, R, sm, sl, h, kk⟩ := h
  refine PySem.W.callWith_K (h₀ := X.base) I.ok.mod.kin M.kp (thn (ha.run pos pins s σ H _ I (got sm sl h))
    fun us s1 ⟨vs, H1, I1, r, F1, ds, μ1, g, r1, q1⟩ => ⟨I1.kIn, ?_⟩) he hpl
  exact run_makX (us := us) (ws := []) (ks := []) V (sl.st g) hC M hb c.fl c.np G (hr.mono hk) I1 r .nil g.sim r1 .nil q1.1 rfl q1.2.2 fun F2 v H2 d μ2 g2 r2 q2 => kk F2 v H2 d μ2 (g.trans g2) r2 q2
theorem e_makKX {cnt m : Nat} (V : Xz X Z) (c : Mak3 X.prog X.w X.K X.mg X.base (L2.CX X.prog X.w) k x cnt ks os dfl np (liftX X.kn np spx)) (hr : RoomG j X.A) (ha : A3 X Z (e :: es) tr) (hkw : K3 X Z kws tk) (hk : k + 1 ≤ j := by decide) (hg : Gl X x := by rfl) (hd : (x == ("__debug__" : Str)) = false := by decide)
    (hall : (backToKw pos (keywordEach kws X.env)).all (·.1.isSome) = true := by rfl) (hks : (backToKw pos (keywordEach kws X.env)).filterMap (·.1) = ks := by rfl)
    (he : starEach (e :: es) X.env = (false, eval e X.env) :: starEach es X.env := by rfl)
    (hpl : ((backTo pos (starEach (e :: es) X.env)).any (·.1) || (backToKw pos (keywordEach kws X.env)).any (·.1.isNone)) = false := by rfl) (hmm : ks.length = m := by rfl) : E3 X Z (.Call (.Name x p) (e :: es) kws pos) (vMakX V.rx x cnt m os dfl spx tr tk) := by
  subst hmm
  obtain ⟨C, f, fd, ps, hC, hm, M, hb, G⟩ := c.ex
  refine ⟨fun pins s σ H Q I h => ?_⟩
  refine wpAny_Call_Name_kw (ld_glob I hg hm ?_ hd)
  obtain ⟨F, δ, μ, R, sm, sl, h, kk⟩ := h
  refine PySem.W.callWith_KW (h₀ := X.base) I.ok.mod.kin M.kp hall (thn (ha.run pos pins s σ H _ I (got sm sl h))
    fun us s1 ⟨vs, H1, I1, r, F1, ds, μ1, g, r1, q1⟩ => ?_) hpl he
  refine thn (hkw.run pos pins s1 σ H1 _ I1 (got g.sim (sl.st g) q1))
    fun ws s2 ⟨zs, H2, I2, rz, F2, ds2, μ2, g2, r2, q2⟩ => ⟨I2.kIn, ?_⟩
  rw [hks]
  exact run_makX V (sl.st (g.trans g2)) hC M hb c.fl c.np G (hr.mono hk) I2 r rz g2.sim (r1.st g2) r2 q2.1 q2.2.1 q2.2.2 fun F3 v H3 d μ3 g3 r3 q3 => kk F3 v H3 d μ3 ((g.trans g2).trans g3) r3 q3
theorem e_calK0X {cnt m : Nat} (V : Xz X Z) (c : Cal3 X.prog X.w X.K X.mg X.base (L2.CX X.prog X.w) k x cnt ks os dfl np (liftX X.kn np spx)) (hr : RoomG j X.A) (hkw : K3 X Z kws tk) (hk : k ≤ j := by decide) (hg : Gl X x := by rfl) (hd : (x == ("__debug__" : Str)) = false := by decide)
    (hall : (backToKw pos (keywordEach kws X.env)).all (·.1.isSome) = true := by rfl) (hks : (backToKw pos (keywordEach kws X.env)).filterMap (·.1) = ks := by rfl)
    (hpl : ((backTo pos (starEach [] X.env)).any (·.1) || (backToKw pos (keywordEach kws X.env)).any (·.1.isNone)) = false := by rfl) (hm : ks.length = m := by rfl) : E3 X Z (.Call (.Name x p) [] kws pos) (vCalX V.rx cnt m os dfl spx vNil tk) := by
  subst hm
  obtain ⟨f, fd, ps, hm, kp, hb, G⟩ := c.ex
  refine ⟨fun pins s σ H Q I h => ?_⟩
  refine wpAny_Call_Name_kw (ld_glob I hg hm ?_ hd)
  obtain ⟨F, δ, μ, R, sm, sl, h, kk⟩ := h
  refine PySem.W.callWith_KW0 (h₀ := X.base) I.ok.mod.kin kp hall ?_ hpl
  refine thn (hkw.run pos pins s σ H _ I (got sm sl h))
    fun ws s2 ⟨zs, H2, I2, rz, F2, ds2, μ2, g2, r2, q2⟩ => ⟨I2.kIn, ?_⟩
  rw [hks]
  exact run_calX (us := []) (vs := []) V (sl.st g2) hb c.fl c.np G (hr.mono hk) I2 .nil rz g2.sim .nil r2 q2.1 q2.2.1 q2.2.2 fun F3 v H3 d μ3 g3 r3 q3 => kk F3 v H3 d μ3 (g2.trans g3) r3 q3
end
end L3

namespace L3
open PySem PySem.Spec PyProof.Rows L2
/-! ### several clauses, each with or without a name -/
abbrev HTs := Addr → Value → Option Addr → TS
def endsAs (D : Ends) : Option Nat → Ends
  | none => D
  | some i => { nx := fun τ G => D.nx (τ.set i none) G, rt := D.rt, bk := fun τ G => D.bk (τ.set i none) G, ct := fun τ G => D.ct (τ.set i none) G }
def stAs (σ : L2.St) (a : Addr) : Option Nat → L2.St
  | none => σ
  | some i => σ.set i (some (.ref a))
/-- what the clauses wish of what the body raises -/
def wHs (K : PySem.W.Frag) (Wo : WX) (D : Ends) : List (Value × Option Nat × HTs) → WX
  | [] => Wo
  | (c, oi, ts) :: r => fun cls d σ H => ∃ b, PySem.W.exmOne K cls c = some b ∧ (b = true → ∀ a, H a = none → ts a cls d (endsAs D oi) (stAs σ a oi) H) ∧ (b = false → wHs K Wo D r cls d σ H)
inductive HsOk (X : Cx) : List ExceptHandler → List (Value × Option Nat × HTs) → Prop
  | nil : HsOk X [] []
  | plain {x : Str} {c : Value} {ts : HTs} {b : Stmt} {su : List Stmt} {p q : Pos} {hs : List ExceptHandler} {l : List (Value × Option Nat × HTs)} (hc : Names X x c)
      (go : ∀ (a : Addr) (o : Obj) (cls : Value) (d : Option Addr) (pn : List (Addr × Obj)), Zc cls d o → (∃ vs, o.data = .fields vs) → PSs (X.suite a ((a, o) :: pn)) (b :: su) (ts a cls d)) (r : HsOk X hs l) :
      HsOk X (.ExceptHandler (some (.Name x p)) none (b :: su) q :: hs) ((c, none, ts) :: l)
  | named {x n : Str} {i : Nat} {c : Value} {ts : HTs} {b : Stmt} {su : List Stmt} {p q : Pos} {hs : List ExceptHandler} {l : List (Value × Option Nat × HTs)} (hc : Names X x c) (hi : X.N[i]? = some n) (hk : X.env.kindOf n = some .local)
      (go : ∀ (a : Addr) (o : Obj) (cls : Value) (d : Option Addr) (pn : List (Addr × Obj)), Zc cls d o → (∃ vs, o.data = .fields vs) → PSs (X.suite a ((a, o) :: pn)) (b :: su) (ts a cls d)) (r : HsOk X hs l) :
      HsOk X (.ExceptHandler (some (.Name x p)) (some n) (b :: su) q :: hs) ((c, some i, ts) :: l)
section
variable {X : Cx} {body : List Stmt} {h0 : ExceptHandler} {hs : List ExceptHandler} {l : List (Value × Option Nat × HTs)} {pos : Pos} {tb : WX → TS} {Wo : WX}
theorem ps_tryH (hst : X.stack = X.env :: X.outer) (hfm : X.env.frame = some X.env.locals) (nd : X.N.Nodup) (tk : Takes X Wo)
    (hb : ∀ (W : WX) (pn : List (Addr × Obj)) (xe : Value → Shared → Prop), Takes (X.tr pn xe) W → PassesOwn (model X.prog X.w) X.A X.env xe → PSs (X.tr pn xe) body (tb W))
    (hh : HsOk X (h0 :: hs) l) : PS X (.Try body (h0 :: hs) [] [] pos) (fun D σ H => tb (wHs X.K Wo D l) D σ H) := by
  refine ⟨fun pins s σ H D I h => ?_⟩
  have ik := I.ok
  have fr : X.A.frames = some (X.env :: X.outer) := ik.frames.trans (congrArg some hst)
  refine wpAny_Try_except ?_
  have run := (hb (wHs X.K Wo D l) (X.pn ++ pins) (fun e s₁ => wpAny (model X.prog X.w) X.A (noteFrame e X.env) (fun _ s₂ => wpAny (model X.prog X.w) X.A (setFlight e none) (fun _ s₃ =>
    wpAny (model X.prog X.w) X.A (handleBy e X.env (h0 :: hs)) (SP X pins D) X.xe s₃) X.xe s₂) X.xe s₁) (fun u t xx => ?_) PassesOwn.looking).run [] s σ H D (I.toTry _) h
  refine wpAny_mono run (fun f t q => ?_) (fun _ _ z => z)
  · cases f with
    | next => obtain ⟨τ, G, J, q⟩ := q; exact wpAny_execs_nil ⟨τ, G, J.ofTry ik, q⟩
    | brk => obtain ⟨τ, G, J, q⟩ := q; exact ⟨τ, G, J.ofTry ik, q⟩
    | cont => obtain ⟨τ, G, J, q⟩ := q; exact ⟨τ, G, J.ofTry ik, q⟩
    | ret u => obtain ⟨v, τ, G, J, r, q⟩ := q; exact ⟨v, τ, G, J.ofTry ik, r, q⟩
  · obtain ⟨a, B, sI, ps', τ, G, cls, d, rfl, J0, nb, up, sky, na, os, ag, w⟩ := xx
    have J : Inv X pins τ G sI := J0.ofTry ik
    rw [show (X.tr (X.pn ++ pins) _).stack = X.env :: X.outer from hst] at sky
    show wpAny (model X.prog X.w) X.A (noteFrame (.ref a) X.env) _ _ _
    refine Sky.land Zc.steady fr hfm sky fun g1 f1 u1 => ?_
    have J1 : Inv X pins τ G { t with heap := g1 } := J.landed nb f1.1 (up.trans u1) os ag
    obtain ⟨o1, v1, e1, z1, d1⟩ := f1.there
    have out : a ∉ frs (X.env :: X.outer) := fun hm => by
      obtain ⟨_, o', e', nf⟩ := f1.2.2.1.mem hm
      rw [e1] at e'; cases e'
      exact nf _ d1
    have nL : a ≠ X.env.locals := fun z => out (List.mem_filterMap.mpr ⟨X.env, List.mem_cons_self, by rw [hfm, z]⟩)
    have nF : a ∉ X.fs := fun hm => by
      obtain ⟨e, he, q⟩ := List.mem_filterMap.mp hm
      exact out (List.mem_filterMap.mpr ⟨e, List.mem_cons_of_mem _ he, q⟩)
    have S1 := J1.suite e1 d1 na nL nF
    have looks : PySem.W.Looks (model X.prog X.w) g1 (typeOf (.ref a)) cls := fun A Q E s k q => wpAny_typeOf_ref (k _ _ e1) (by rw [z1.1]; exact q)
    have test : ∀ {x : Str} {c : Value} {p : Pos} {Q E : Value → Shared → Prop}, Names X x c → Q c { t with heap := g1 } → wpAny (model X.prog X.w) (X.A.mark (some (.ref a))) (eval (.Name x p) X.env) Q E { t with heap := g1 } := by
      rintro x c p Q E ⟨hg, hdb, hm | ⟨hm, hv, hn⟩⟩ q
      · exact ld_glob (X := X.suite a ((a, o1) :: (X.pn ++ pins))) S1 hg hm q hdb
      · exact ld_blt (X := X.suite a ((a, o1) :: (X.pn ++ pins))) S1 hg hm hv q hn hdb
    have all : ∀ {hk : List ExceptHandler} {lk : List (Value × Option Nat × HTs)}, HsOk X hk lk → wHs X.K Wo D lk cls d τ G → wpAny (model X.prog X.w) X.A (handleBy (.ref a) X.env hk) (SP X pins D) X.xe { t with heap := g1 } := by
      intro hk lk ok
      induction ok with
      | nil =>
        intro w
        refine wpAny_handleBy_nil ?_
        obtain ⟨_, _, _, oe, vs, T, oT, ts', he, hz, hd, h1, hr⟩ := id f1
        unfold PySem.passOn
        refine wpAny_bind (wpAny_field he hd h1 ?_)
        rw [if_neg (by simp)]
        have out1 : wpAny (model X.prog X.w) X.A (setFlight (.ref a) X.env.frame) (fun _ s4 => wpAny (model X.prog X.w) X.A (throw (.ref a) : Sem Flow) (SP X pins D) X.xe s4) X.xe { t with heap := g1 } := by
          rw [hfm]
          refine HandSPX.setFlight_upZ f1 fun g2 k2 u2 => wpAny_throw (tk _ _ ⟨a, B, sI, pins, τ, G, cls, d, rfl, J, nb, (up.trans u1).trans u2, .inr (.inr (by rw [hst]; exact k2)), na, os, ag, w⟩)
        first
          | exact wpAny_bind (wpAny_pure (wpAny_bind out1))
          | exact wpAny_bind out1
      | @plain x c ts b su p q hs2 l2 hc go r ih =>
        intro w
        obtain ⟨yes, hm, hy, hn⟩ := w
        refine wpAny_handleBy_cons (codeAny_handlers_test ?_) (by intro z; cases z)
        refine test hc ((PySem.W.exm_one (M := model X.prog X.w) J1.kIn looks hm).here ?_)
        cases yes with
        | false => exact ih (hn rfl)
        | true =>
          refine codeAny_handlers_suite ?_
          refine HandSPX.lands_againZ f1 fun g2 f2 u2 => ?_
          have J2 : Inv X pins τ G { t with heap := g2 } := J.landed nb f2.1 ((up.trans u1).trans u2) os ag
          obtain ⟨o2, v2, e2, z2, d2⟩ := f2.there
          refine wpAny_mono ((go a o2 cls d (X.pn ++ pins) z2 ⟨_, d2⟩).run [] _ _ G _ (J2.suite e2 d2 na nL nF) (hy rfl a na)) (fun f s6 q6 => ?_) (fun _ _ z => z.elim)
          cases f with
          | next => obtain ⟨τ6, G6, K6, q6⟩ := q6; exact ⟨_, _, K6.unsuite ik, q6⟩
          | brk => obtain ⟨τ6, G6, K6, q6⟩ := q6; exact ⟨_, _, K6.unsuite ik, q6⟩
          | cont => obtain ⟨τ6, G6, K6, q6⟩ := q6; exact ⟨_, _, K6.unsuite ik, q6⟩
          | ret u => obtain ⟨v6, τ6, G6, K6, r6, q6⟩ := q6; exact ⟨_, _, _, K6.unsuite ik, r6, q6⟩
      | @named x n i c ts b su p q hs2 l2 hc hi hk go r ih =>
        intro w
        obtain ⟨yes, hm, hy, hn⟩ := w
        refine wpAny_handleBy_cons (codeAny_handlers_test ?_) (by intro z; cases z)
        refine test hc ((PySem.W.exm_one (M := model X.prog X.w) J1.kIn looks hm).here ?_)
        cases yes with
        | false => exact ih (hn rfl)
        | true =>
          refine codeAny_handlers_suite_as ?_
          refine HandSPX.lands_againZ f1 fun g2 f2 u2 => ?_
          have J2 : Inv X pins τ G { t with heap := g2 } := J.landed nb f2.1 ((up.trans u1).trans u2) os ag
          obtain ⟨o2, v2, e2, z2, d2⟩ := f2.there
          refine store_ok (X := X.suite a ((a, o2) :: (X.pn ++ pins))) (v := .ref a) (J2.suite e2 d2 na nL nF) nd hi (.inl hk) rfl (fun s5 S5 => ?_) (.inr hk)
          refine wpAny_mono ((go a o2 cls d (X.pn ++ pins) z2 ⟨_, d2⟩).run [] s5 _ G _ S5 (hy rfl a na)) (fun f s6 q6 => ?_) (fun _ _ z => z.elim)
          have fin_ : ∀ {τ6 : L2.St} {G6 : Hp} {Q : Shared → Prop}, Inv (X.suite a ((a, o2) :: (X.pn ++ pins))) [] τ6 G6 s6 → (∀ s7, Inv X pins (τ6.set i none) G6 s7 → Q s7) →
              wpAny (model X.prog X.w) X.A (do bindName X.env n .none; unbindBehindTheSuite X.env n q) (fun _ s7 => Q s7) X.xe s6 := fun S6 hq => gone_ok (S6.unsuite ik) nd hi hk hq
          cases f with
          | next => obtain ⟨τ6, G6, K6, q6⟩ := q6; exact fin_ K6 fun s7 J7 => ⟨_, _, J7, q6⟩
          | brk => obtain ⟨τ6, G6, K6, q6⟩ := q6; exact fin_ K6 fun s7 J7 => ⟨_, _, J7, q6⟩
          | cont => obtain ⟨τ6, G6, K6, q6⟩ := q6; exact fin_ K6 fun s7 J7 => ⟨_, _, J7, q6⟩
          | ret u => obtain ⟨v6, τ6, G6, K6, r6, q6⟩ := q6; exact fin_ K6 fun s7 J7 => ⟨_, _, _, J7, r6, q6⟩
    exact all hh w
end
end L3

namespace L3
open PySem PySem.Spec PyProof.Rows L2
section
variable {K : Kn} {F : Addr → Prop} {H : Hp} {μ : Mu}
theorem Sl.unset {σ : L2.St} {δ : St3} (s : Sl K F H σ δ) (i : Nat) : Sl K F H (σ.set i none) (δ.set i none) := by
  refine ⟨by simpa using s.len, fun j e h => ?_⟩
  by_cases hj : i = j
  · subst hj
    by_cases hl : i < δ.length
    · rw [List.getElem?_set_self hl] at h
      cases h
    · rw [List.getElem?_eq_none_iff.mpr (by simpa using hl)] at h
      cases h
  · rw [List.getElem?_set_ne hj] at h
    obtain ⟨u, e1, r1⟩ := s.at_ j e h
    exact ⟨u, by rw [List.getElem?_set_ne hj]; exact e1, r1⟩
theorem Sim0.xd_free {gs : List (Str × V)} {dd : Addr} (s : Sim0 K F H μ) (hd : H dd = some (.xd gs)) : μ dd = none := by
  cases e : μ dd with
  | none => rfl
  | some o =>
    exfalso
    obtain ⟨_, m⟩ := s.obj dd o e
    cases o with
    | lst xs => obtain ⟨vs, e, r⟩ := m; rw [hd] at e; cases e
    | dct kvs => obtain ⟨vs, e, r⟩ := m; rw [hd] at e; cases e
    | dcn kvs => obtain ⟨vs, e, r⟩ := m; rw [hd] at e; cases e
    | ins n fs => obtain ⟨C, dx, vs, c, e, r⟩ := m; rw [hd] at e; cases e
/-- the zone of a try's body: all that came since its beginning -/
def Zn.within (Z : Zn K) (F0 : Addr → Prop) (H0 : Hp) (μ0 : Mu) : Zn K where
  his := fun F H μ => Z.his F H μ ∧ Grow F0 H0 F H ∧ Fm F0 μ0 H0 F μ H
  mono := fun g m z h => ⟨Z.mono g m z h.1, h.2.1.trans g, h.2.2.trans m⟩
/-- the zone of a suite: the exception's fields stay -/
def Zn.exc (Z : Zn K) (dd : Addr) (gs : List (Str × V)) (fs : List (Str × D)) : Zn K where
  his := fun F H μ => Z.his F H μ ∧ μ dd = none ∧ H dd = some (.xd gs) ∧ Rpf K F H fs gs
  mono := fun {F H μ F' H' μ'} g m z h => by
    obtain ⟨h1, h2, h3, h4⟩ := h
    refine ⟨Z.mono g m z h1, ?_, ?_, h4.grow g⟩
    · by_cases f : F dd
      · exact z.xd_free (g.fix dd _ f rfl h3)
      · exact (m dd _ h3 h2 f).1
    · by_cases f : F dd
      · exact g.fix dd _ f rfl h3
      · exact (m dd _ h3 h2 f).2.1
end
/-! ### clauses: the names of the classes that it takes, those that it lets pass, the slot, the suite -/
abbrev H3 := List Str × List Str × Option Nat × (Addr → Str → List (Str × D) → TS3)
def end3As (D : Ends3) : Option Nat → Ends3
  | none => D
  | some i => { nx := fun δ μ => D.nx (δ.set i none) μ, rt := D.rt, bk := fun δ μ => D.bk (δ.set i none) μ, ct := fun δ μ => D.ct (δ.set i none) μ }
def st3As (δ : St3) (a : Addr) : Option Nat → St3
  | none => δ
  | some i => δ.set i (some (.ref a))
def xHs (rx : XR) (D : Ends3) : List H3 → XR
  | [] => rx
  | (ys, ns, oi, ts) :: r => fun n fs δ μ => if ys.contains n = true then ∀ a, μ a = none → ts a n fs (end3As D oi) (st3As δ a oi) μ else ns.contains n = true ∧ xHs rx D r n fs δ μ
def sTry (rx : XR) (tb : XR → TS3) (l : List H3) : TS3 := fun D δ μ => tb (xHs rx D l) D δ μ
/-- the class of a clause: which it takes -/
structure Hc3 (K : PySem.W.Frag) (mg : Str → Option Value) (x : Str) (ys ns : List Str) : Prop where
  ex : ∃ c : Value, (mg x = some c ∨ (mg x = none ∧ bootBuiltins x = some c ∧ x ≠ "__name__")) ∧ (∀ n C, ys.contains n = true → PySem.W.nsIn K mainGlobals n = some (some (.ref C)) → PySem.W.exmOne K (.ref C) c = some true) ∧
    ∀ n C, ns.contains n = true → PySem.W.nsIn K mainGlobals n = some (some (.ref C)) → PySem.W.exmOne K (.ref C) c = some false
def SuOk (X : Cx) (Z : Zn X.kn) (su : List Stmt) (ys : List Str) (ts : Addr → Str → List (Str × D) → TS3) : Prop :=
  ∀ (a : Addr) (o : Obj) (C dd : Addr) (pn : List (Addr × Obj)) (n : Str) (fs : List (Str × D)) (gs : List (Str × V)), Zc (.ref C) (some dd) o → (∃ vs, o.data = .fields vs) → clsA X.kn n C → ys.contains n = true →
    Ss3 (X.suite a ((a, o) :: pn)) (Z.exc dd gs fs) su (ts a n fs)
inductive Hs3 (X : Cx) (Z : Zn X.kn) : List ExceptHandler → List H3 → Prop
  | nil : Hs3 X Z [] []
  | plain {x : Str} {ys ns : List Str} {ts : Addr → Str → List (Str × D) → TS3} {b : Stmt} {su : List Stmt} {p q : Pos} {hs : List ExceptHandler} {l : List H3} (hg : Gl X x ∧ (x == ("__debug__" : Str)) = false) (hc : Hc3 X.K X.mg x ys ns) (go : SuOk X Z (b :: su) ys ts) (r : Hs3 X Z hs l) :
      Hs3 X Z (.ExceptHandler (some (.Name x p)) none (b :: su) q :: hs) ((ys, ns, none, ts) :: l)
  | named {x n : Str} {i : Nat} {ys ns : List Str} {ts : Addr → Str → List (Str × D) → TS3} {b : Stmt} {su : List Stmt} {p q : Pos} {hs : List ExceptHandler} {l : List H3} (hg : Gl X x ∧ (x == ("__debug__" : Str)) = false) (hc : Hc3 X.K X.mg x ys ns) (hi : X.N[i]? = some n ∧ X.env.kindOf n = some .local) (go : SuOk X Z (b :: su) ys ts) (r : Hs3 X Z hs l) :
      Hs3 X Z (.ExceptHandler (some (.Name x p)) (some n) (b :: su) q :: hs) ((ys, ns, some i, ts) :: l)
section
variable {X : Cx} {Z : Zn X.kn} {body : List Stmt} {h0 : ExceptHandler} {hs : List ExceptHandler} {l : List H3} {pos : Pos} {tb : XR → TS3}
/-- a suite's reading below -/
def lowH (ys : List Str) (Z : Zn X.kn) (ts : Addr → Str → List (Str × D) → TS3) : HTs := fun a cls d E σ H => ∃ (C dd : Addr) (n : Str) (fs : List (Str × D)) (gs : List (Str × V)), cls = .ref C ∧ d = some dd ∧ clsA X.kn n C ∧ ys.contains n = true ∧ lowS (Z.exc dd gs fs) (ts a n fs) E σ H
theorem low_go {su : List Stmt} {ys : List Str} {ts : Addr → Str → List (Str × D) → TS3} (go : SuOk X Z su ys ts) (a : Addr) (o : Obj) (cls : Value) (d : Option Addr) (pn : List (Addr × Obj)) (z : Zc cls d o) (hv : ∃ vs, o.data = .fields vs) :
    PSs (X.suite a ((a, o) :: pn)) su (lowH (X := X) ys Z ts a cls d) := by
  refine ⟨fun pins s σ H D I h => ?_⟩
  obtain ⟨C, dd, n, fs, gs, rfl, rfl, hC, hy, h⟩ := h
  exact (go a o C dd pn n fs gs z hv hC hy).run pins s σ H D I h
/-- what the suites come to -/
def HsLow (X : Cx) (Z : Zn X.kn) (U : Xz X Z) (l : List H3) (l2 : List (Value × Option Nat × HTs)) : Prop :=
  ∀ (D3 : Ends3) (E : Ends) (F : Addr → Prop) (H : Hp) (μ : Mu) (σ : L2.St) (δ : St3) (C dd : Addr) (n : Str) (fs : List (Str × D)) (gs : List (Str × V)), Sim Z F H μ → Sl X.kn F H σ δ → EndsOk Z F H μ D3 E → clsA X.kn n C → H dd = some (.xd gs) → Rpf X.kn F H fs gs →
    xHs U.rx D3 l n fs δ μ → wHs X.K U.W E l2 (.ref C) (some dd) σ H
theorem end3_ok {F : Addr → Prop} {H : Hp} {μ : Mu} {D3 : Ends3} {D : Ends} {Y : Zn X.kn} (s : Sim Z F H μ) (ek : EndsOk Z F H μ D3 D) (oi : Option Nat) : EndsOk Y F H μ (end3As D3 oi) (endsAs D oi) := by
  cases oi with
  | none => exact ⟨fun a b c d m g => ek.nx a b c d m (g.on s), fun a b c d m g => ek.bk a b c d m (g.on s), fun a b c d m g => ek.ct a b c d m (g.on s), fun a b c d m g => ek.rt a b c d m (g.on s)⟩
  | some i => exact ⟨fun a b c d m g sl => ek.nx a _ c _ m (g.on s) (sl.unset i), fun a b c d m g sl => ek.bk a _ c _ m (g.on s) (sl.unset i), fun a b c d m g sl => ek.ct a _ c _ m (g.on s) (sl.unset i), fun a b c d m g => ek.rt a b c d m (g.on s)⟩
theorem hs_cons {V : Xz X Z} {ys ns : List Str} {ts : Addr → Str → List (Str × D) → TS3} {oi : Option Nat} {c : Value} {l : List H3} {l2 : List (Value × Option Nat × HTs)} (r : HsLow X Z V l l2)
    (hy : ∀ n C, ys.contains n = true → clsA X.kn n C → PySem.W.exmOne X.K (.ref C) c = some true) (hn : ∀ n C, ns.contains n = true → clsA X.kn n C → PySem.W.exmOne X.K (.ref C) c = some false) : HsLow X Z V ((ys, ns, oi, ts) :: l) ((c, oi, lowH ys Z ts) :: l2) := by
  intro D3 D F H μ σ δ C dd n fs gs s sl ek hC hd hf h
  unfold xHs at h
  by_cases y : ys.contains n = true
  · rw [if_pos y] at h
    refine ⟨true, hy n C y hC, fun _ a na => ?_, fun z => (by cases z)⟩
    refine ⟨C, dd, n, fs, gs, rfl, rfl, hC, y, F, st3As δ a oi, μ, end3As D3 oi, ⟨s.raw, s.his, s.raw.xd_free hd, hd, hf⟩, ?_, h a (s.free na), end3_ok s ek oi⟩
    cases oi with
    | none => exact sl
    | some i => exact sl.set i (.ref a)
  · rw [if_neg y] at h
    exact ⟨false, hn n C h.1 hC, fun z => (by cases z), fun _ => r D3 D F H μ σ δ C dd n fs gs s sl ek hC hd hf h.2⟩
theorem hs_low (V : Xz X Z) {hs : List ExceptHandler} {l : List H3} (h : Hs3 X Z hs l) : ∃ l2, HsOk X hs l2 ∧ HsLow X Z V l l2 := by
  induction h with
  | nil => exact ⟨[], .nil, fun D3 D F H μ σ δ C dd n fs gs s sl _ hC hd hf h => V.ok F H μ σ δ C dd n fs gs s sl hC hd hf h⟩
  | plain hg hc go r ih =>
    obtain ⟨l2, h1, h2⟩ := ih
    obtain ⟨c, hm, hy, hn⟩ := hc.ex
    exact ⟨_, .plain ⟨hg.1, hg.2, hm⟩ (low_go go) h1, hs_cons h2 hy hn⟩
  | named hg hc hi go r ih =>
    obtain ⟨l2, h1, h2⟩ := ih
    obtain ⟨c, hm, hy, hn⟩ := hc.ex
    exact ⟨_, .named ⟨hg.1, hg.2, hm⟩ hi.1 hi.2 (low_go go) h1, hs_cons h2 hy hn⟩
theorem s_try (V : Xz X Z) (nd : X.N.Nodup) (hb : ∀ (pn : List (Addr × Obj)) (xe : Value → Shared → Prop), PassesOwn (model X.prog X.w) X.A X.env xe → ∀ (Y : Zn X.kn) (U : Xz (X.tr pn xe) Y), Ss3 (X.tr pn xe) Y body (tb U.rx))
    (hh : Hs3 X Z (h0 :: hs) l) (hst : X.stack = X.env :: X.outer := by rfl) (hfm : X.env.frame = some X.env.locals := by rfl) : S3 X Z (.Try body (h0 :: hs) [] [] pos) (sTry V.rx tb l) := by
  obtain ⟨l2, h1, h2⟩ := hs_low V hh
  refine (ps_tryH (tb := fun W D σ H => ∃ (Y : Zn X.kn) (rx : XR), (∀ F H μ σ δ C dd n fs gs, Sim Y F H μ → Sl X.kn F H σ δ → clsA X.kn n C → H dd = some (.xd gs) → Rpf X.kn F H fs gs → rx n fs δ μ → W (.ref C) (some dd) σ H) ∧ lowS Y (tb rx) D σ H) hst hfm nd V.tk ?_ h1).imp ?_
  · intro W pn xe tk po
    refine ⟨fun pins s σ H D I h => ?_⟩
    obtain ⟨Y, rx, ok, h⟩ := h
    exact (hb pn xe po Y ⟨W, tk, rx, ok⟩).run pins s σ H D I h
  · rintro D σ H ⟨F, δ, μ, D3, sm, sl, h, ek⟩
    refine ⟨Z.within F H μ, xHs V.rx D3 l, fun F1 H1 μ1 σ1 δ1 C dd n fs gs s1 sl1 hC hd hf hx => ?_, F, δ, μ, D3, ⟨sm.raw, sm.his, Grow.refl, Fm.refl⟩, sl, h, ?_⟩
    · have g : Step Z F H μ F1 H1 μ1 := ⟨s1.his.2.1, s1.his.2.2, s1.raw, s1.his.1⟩
      exact h2 D3 D F1 H1 μ1 σ1 δ1 C dd n fs gs g.sim sl1 (ek.st g) hC hd hf hx
    · exact ⟨fun a b c d m g => ek.nx a b c d m (g.on sm), fun a b c d m g => ek.bk a b c d m (g.on sm), fun a b c d m g => ek.ct a b c d m (g.on sm), fun a b c d m g => ek.rt a b c d m (g.on sm)⟩
/-- nothing is raised outside -/
def Xz.no (X : Cx) (Z : Zn X.kn) : Xz X Z := ⟨fun _ _ _ _ => False, takes_none5, fun _ _ _ _ => False, fun _ _ _ _ _ _ _ _ _ _ _ _ _ _ _ h => h⟩
/-- e.f in a suite -/
def vXf (a : Addr) (fs : List (Str × D)) (f : Str) (te : TE3) : TE3 := fun δ μ R => te δ μ fun d μ1 => d = .ref a ∧ ∃ v, fs.lookup f = some v ∧ R v μ1
/-- the fields of an own exception may be read -/
structure Xf3 (K : PySem.W.Frag) (n f : Str) : Prop where
  ex : ∀ C, PySem.W.nsIn K mainGlobals n = some (some (.ref C)) → XfC K C ∧ PySem.W.findIn K (.ref C) f = some none
theorem e_xf {a C dd : Addr} {o : Obj} {pn : List (Addr × Obj)} {n f : Str} {fs : List (Str × D)} {gs : List (Str × V)} {e : Expr} {te : TE3} (z : Zc (.ref C) (some dd) o) (hv : ∃ vs, o.data = .fields vs) (hC : clsA X.kn n C) (T : Xf3 X.K n f)
    (he : E3 (X.suite a ((a, o) :: pn)) (Z.exc dd gs fs) e te) (hb : attributeBase e f X.env (eval e X.env) = eval e X.env := by rfl) : E3 (X.suite a ((a, o) :: pn)) (Z.exc dd gs fs) (.Attribute e f pos) (vXf a fs f te) :=
  (pe_xf (T.ex C hC).1 (T.ex C hC).2 z hv he hb).imp fun σ H Q h => by
    obtain ⟨F, δ, μ, R, sm, sl, h, k⟩ := h
    refine ⟨F, δ, μ, _, sm, sl, h, fun F1 v H1 d μ1 g r ⟨ed, w, hl, q⟩ => ?_⟩
    subst ed
    cases r
    obtain ⟨_, _, hd, hf⟩ := g.sim.his
    obtain ⟨u, hu, ru⟩ := hf.val.1 w hl
    exact ⟨rfl, rfl, dd, gs, u, rfl, hd, hu, k F1 u H1 w μ1 g ru q⟩
end
end L3

namespace L3
open PySem PySem.Spec PyProof.Rows L2 PySem.XO
section
variable {P : Program} {w : World} {K : PySem.W.Frag} {mg : Str → Option Value} {base : Heap}
/-- an exception's own __init__: the base's, then the one field -/
theorem xinit_fn {x1 x2 qual fld txt : Str} {st : Stmt} {f C : Addr} {fd : FuncData} {bm : List Value} {Bi : String} (F : Def3 K "__init__" qual st [] [] f fd) (S : FnScope [x1, x2] [x1, x2] (defScope st)) (O : OexG K C bm) (hno : PySem.W.findIn K (.ref C) fld = some none) (hBi : bm.contains (.type Bi) = true)
    (hb : ∀ (cdv : Value) (A : Around) (fs : List Env) (s : Shared) (H : Hp) (E : XK), PSs (cxOf CX0 P w K mg base [x1, x2] qual (defScope st) f cdv A fs s H E) (defBody st) (tSeq (tDrop (tXini K Bi (tCons (tVar 0) (tCons (tC (.str txt)) tNil)))) (tXst K fld (tVar 0) (tVar 1)))) :
    FnG P w K mg base CX0 1 f fd [x1, x2] (spXI C fld) := by
  obtain ⟨oc, od, dV, kV, doc, pm, an, cdv, ct, osl, rfl, lk, cd, _⟩ := F.ex
  refine fng_of lk cd S (fun _ _ _ _ h => ?_) fun A fs s H xs Q E hr h => ⟨_, hb cdv A fs s H E, ?_⟩
  · obtain ⟨a, v, rfl, _⟩ := h; rfl
  · obtain ⟨a, v, rfl, ha, q⟩ := h
    exact ⟨.ref a, rfl, a, C, bm, [.str txt], rfl, by simp, O, hBi, ha, v, rfl, .ref a, rfl, a, C, bm, rfl, O, hno, ha, fun dx h1 h2 => q dx h1 h2⟩
theorem xmk_of {x f : Str} {C fI : Addr} {bm : List Value} {fd : FuncData} {x1 x2 : Str} (at_ : PySem.W.nsIn K mainGlobals x = some (some (.ref C))) (hm : mg x = some (.ref C)) (O : OexG K C bm) (iC : PySem.W.findIn K (.ref C) "__init__" = some (some (.ref fI)))
    (tI : PySem.W.typeIn K (.ref fI) = some (.type "function")) (hb : Bd3 K fd [x1, x2] 2 [] (allPos 2) []) (G : FnG P w K mg base CX0 1 fI fd [x1, x2] (spXI C f)) : XMk P w K mg base 1 x f := by
  obtain ⟨_, dv, rd, hb⟩ := hb
  cases rd
  exact ⟨C, fI, bm, fd, [x1, x2], at_, hm, O, iC, tI, fun s u v k => hb s [u, v] [] k rfl rfl, G⟩
theorem xf_of {n f : Str} {C : Addr} (at_ : PySem.W.nsIn K mainGlobals n = some (some (.ref C))) (ga : PySem.W.findIn K (.ref C) "__getattribute__" = some (some (.builtin "BaseException.__getattribute__"))) (gg : PySem.W.findIn K (.ref C) "__getattr__" = some none)
    (ex : PySem.W.subIn K (.ref C) (.type "BaseException") = some true) (hd : PySem.W.hasDictIn K C = true) (no : PySem.W.findIn K (.ref C) f = some none) : Xf3 K n f := ⟨fun C2 h => by
  rw [at_] at h; cases h
  exact ⟨⟨ga, gg, ex, hd⟩, no⟩⟩
/-- one name of a clause's list -/
def Ex1 (K : PySem.W.Frag) (c : Value) (b : Bool) (n : Str) : Prop := ∀ C, PySem.W.nsIn K mainGlobals n = some (some (.ref C)) → PySem.W.exmOne K (.ref C) c = some b
theorem ex1_of {n : Str} {C : Addr} {c : Value} {b : Bool} (at_ : PySem.W.nsIn K mainGlobals n = some (some (.ref C))) (e : PySem.W.exmOne K (.ref C) c = some b) : Ex1 K c b n := fun C2 h => by
  rw [at_] at h; cases h
  exact e
theorem hc_of {x : Str} {c : Value} {ys ns : List Str} (hm : mg x = some c) (hy : ∀ n ∈ ys, Ex1 K c true n) (hn : ∀ n ∈ ns, Ex1 K c false n) : Hc3 K mg x ys ns :=
  ⟨c, .inl hm, fun n C h => hy n (List.contains_iff_mem.mp h) C, fun n C h => hn n (List.contains_iff_mem.mp h) C⟩
open Builtin Builtin.ObjectAttr in
/-- a chain of own classes ahead of built-in ones -/
theorem pass_own {self : Value} {C : Addr} {l : List Value} (h : refuseLoop self "__setattr__" l = pure ()) : refuseLoop self "__setattr__" (.ref C :: l) = pure () := by rw [refuseLoop_ref]; exact h
theorem kitc_of {t : Value} {C : Addr} {b : Bool} (ci : PySem.W.isClsIn K C = true) (ti : PySem.W.typeIn K (.ref C) = some (.type "type")) (h : PySem.W.subIn K t (.ref C) = some b) : PySem.W.kitCls K t (.ref C) = some b := by
  unfold PySem.W.kitCls
  have e : ((PySem.W.clsIn K C).isSome && PySem.W.typeIn K (.ref C) == some (.type "type")) = true := by rw [show (PySem.W.clsIn K C).isSome = true from ci, ti]; rfl
  simp only [e, if_true]
  exact h
theorem exm_of {S C : Addr} {b : Bool} (ex : PySem.W.subIn K (.ref C) (.type "BaseException") = some true) (ci : PySem.W.isClsIn K C = true) (ti : PySem.W.typeIn K (.ref C) = some (.type "type")) (h : PySem.W.subIn K (.ref S) (.ref C) = some b) : PySem.W.exmOne K (.ref S) (.ref C) = some b := by
  unfold PySem.W.exmOne
  rw [ex]
  exact kitc_of ci ti h
theorem kit_of {S C : Addr} (ne : (Value.ref S == Value.ref C) = false) (ci : PySem.W.isClsIn K C = true) (ti : PySem.W.typeIn K (.ref C) = some (.type "type")) (h : PySem.W.subIn K (.ref S) (.ref C) = some false) : PySem.W.kitOne K (.ref S) (.ref C) = some false := by
  unfold PySem.W.kitOne
  rw [if_neg (by rw [ne]; decide)]
  exact kitc_of ci ti h
theorem xnew_V : XNew "ValueError" "ValueError.__new__" := XNew.of F.excBase_ValueError
theorem xini_V : XIni "ValueError" "ValueError.__init__" := XIni.of F.excBase_ValueError
end
end L3

namespace L3
open PySem PySem.Spec PyProof.Rows L2
section
variable {X : Cx} {Z : Zn X.kn} {e o : Expr} {es : List Expr} {tr : TA3} {to : TE3} {x n m : Str} {p pos apos : Pos} {k j nn : Nat} {spx : Spx}
def vCallX (rx : XR) (n : Nat) (sp : Spx) (tr : TA3) : TE3 := fun δ μ R => tr δ μ fun ds μ1 => ds.length = n ∧ sp ds μ1 R fun c fs μ3 => rx c fs δ μ3
theorem vCalX_all {rx : XR} {n : Nat} : vCalX rx n 0 (allPos n) [] spx tr vNil = vCallX rx n spx tr := by
  funext δ μ R
  unfold vCallX vCalX vNil
  congr 1
  funext ds μ1
  apply propext
  constructor
  · intro ⟨h1, _, h2⟩; rw [picks_all h1] at h2; exact ⟨h1, h2⟩
  · intro ⟨h1, h2⟩; exact ⟨h1, rfl, by rw [picks_all h1]; exact h2⟩
theorem e_calX (V : Xz X Z) (c : Cal3 X.prog X.w X.K X.mg X.base (L2.CX X.prog X.w) k x nn [] (allPos nn) [] nn (liftX X.kn nn spx)) (hr : RoomG j X.A) (ha : A3 X Z (e :: es) tr) (hk : k ≤ j := by decide) (hg : Gl X x := by rfl) (hd : (x == ("__debug__" : Str)) = false := by decide)
    (he : starEach (e :: es) X.env = (false, eval e X.env) :: starEach es X.env := by rfl) (hpl : (backTo pos (starEach es X.env)).any (·.1) = false := by rfl) : E3 X Z (.Call (.Name x p) (e :: es) [] pos) (vCallX V.rx nn spx tr) := by
  rw [← vCalX_all]
  exact e_calPX V c hr ha hk hg hd he hpl
def vMetAX (rx : XR) (n m : Str) (cnt : Nat) (sp : Spx) (to : TE3) (tr : TA3) : TE3 := fun δ μ R => to δ μ fun x μ1 => ∃ fs, insOf μ1 n x = some fs ∧ fs.lookup m = none ∧ tr δ μ1 fun ds μ2 => ds.length = cnt ∧ sp (x :: ds) μ2 R fun c fs μ3 => rx c fs δ μ3
theorem vMetX_all {rx : XR} {cnt : Nat} : vMetX rx n m cnt (allPos (cnt + 1)) [] spx to tr = vMetAX rx n m cnt spx to tr := by
  have key : ∀ (x : D) (R : DK) (RX : XK3), (fun (ds : List D) (μ2 : Mu) => ds.length = cnt ∧ spx (picks .non (allPos (cnt + 1)) (x :: ds) [] []) μ2 R RX) = fun ds μ2 => ds.length = cnt ∧ spx (x :: ds) μ2 R RX := fun x R RX => by
    funext ds μ2
    apply propext
    constructor
    · intro ⟨h1, h2⟩; rw [picks_all (by rw [List.length_cons, h1])] at h2; exact ⟨h1, h2⟩
    · intro ⟨h1, h2⟩; exact ⟨h1, by rw [picks_all (by rw [List.length_cons, h1])]; exact h2⟩
  funext δ μ R
  unfold vMetX vMetAX
  simp only [key]
theorem e_metAX {pl : Sem Bool} {cnt : Nat} (V : Xz X Z) (c : Met3 X.prog X.w X.K X.mg X.base (L2.CX X.prog X.w) k n m cnt [] (allPos (cnt + 1)) [] (cnt + 1) (liftX X.kn (cnt + 1) spx)) (hr : RoomG j X.A) (ho : E3 X Z o to) (ha : A3 X Z (e :: es) tr) (hk : k ≤ j := by decide)
    (hst : starEach (e :: es) X.env = (false, eval e X.env) :: starEach es X.env := by rfl) (hpl : (backTo pos (starEach es X.env)).any (·.1) = false := by rfl)
    (ht : eval (.Call (.Attribute o m apos) (e :: es) [] pos) X.env = (do
      let ov ← eval o X.env
      standAt apos.atName
      let (f, first) ← holding [ov] (getMethod ov m pl)
      callWith pos f first (backTo pos (starEach (e :: es) X.env)) (backToKw pos (keywordEach [] X.env))) := by rfl) :
    E3 X Z (.Call (.Attribute o m apos) (e :: es) [] pos) (vMetAX V.rx n m cnt spx to tr) := by
  rw [← vMetX_all]
  exact e_metX V c hr ho ha hk hst hpl ht
theorem e_metA0X {pl : Sem Bool} (V : Xz X Z) (c : Met3 X.prog X.w X.K X.mg X.base (L2.CX X.prog X.w) k n m 0 [] (allPos 1) [] 1 (liftX X.kn 1 spx)) (hr : RoomG j X.A) (ho : E3 X Z o to) (hk : k ≤ j := by decide)
    (ht : eval (.Call (.Attribute o m apos) [] [] pos) X.env = (do
      let ov ← eval o X.env
      standAt apos.atName
      let (f, first) ← holding [ov] (getMethod ov m pl)
      callWith pos f first (backTo pos (starEach [] X.env)) (backToKw pos (keywordEach [] X.env))) := by rfl) :
    E3 X Z (.Call (.Attribute o m apos) [] [] pos) (vMetAX V.rx n m 0 spx to vNil) := by
  rw [← vMetX_all]
  exact e_met0X V c hr ho hk ht
end
/-! ### recursion: a promise for each depth -/
theorem fng_no {P : Program} {w : World} {K : PySem.W.Frag} {mg : Str → Option Value} {base : Heap} {X0 : CXT} {k n : Nat} {f : Addr} {fd : FuncData} {ps : List Str} {sp : Sp3} {K' : Kn} (h : ∀ ds μ R, sp ds μ R → False) : FnG P w K mg base X0 k f fd ps (lift K' n sp) := by
  refine ⟨fun xs H Q E ⟨_, ds, μ, R, _, _, _, q, _⟩ => (h ds μ R q).elim, fun A fs s H args us xs Q E _ _ _ _ ⟨_, ds, μ, R, _, _, _, q, _⟩ => (h ds μ R q).elim⟩
/-! ### one def, a further promise -/
theorem fng_calm {P : Program} {w : World} {K : PySem.W.Frag} {mg : Str → Option Value} {base : Heap} {k n : Nat} {f : Addr} {fd : FuncData} {ps : List Str} {sp : Sp3} {spx : Spx} {K' : Kn} (G : FnG P w K mg base (L2.CX P w) k f fd ps (liftX K' n spx)) (h : ∀ ds μ R, sp ds μ R → spx ds μ R fun _ _ _ => False) :
    FnG P w K mg base CX0 k f fd ps (lift K' n sp) := by
  have up : ∀ xs H Q E, lift K' n sp xs H Q E → liftX K' n spx xs H Q (fun _ _ _ => False) := fun xs H Q E ⟨F, ds, μ, R, l, s, r, q, kk⟩ => ⟨F, ds, μ, R, _, l, s, r, h ds μ R q, kk, fun _ _ _ _ _ _ _ _ _ _ _ _ z => z⟩
  refine ⟨fun xs H Q E q => G.wide xs H Q _ (up xs H Q E q), fun A fs s H args us xs Q E hr e0 hb rv q => codeAny_mono (G.go A fs s H args us xs Q _ hr e0 hb rv (up xs H Q E q)) fun res s2 hq => ?_⟩
  match res, hq with
  | .error er, hq =>
    obtain ⟨_, _, _, _, _, _, _, _, _, _, _, _, z⟩ := hq
    exact z.elim
  | .ok (.ret u), hq => exact hq
end L3

namespace PySem
open SeqAt
theorem dict_eq_no_str (l : Addr) (es : Array DictEntry) (n : Nat) (dd : Option Addr) (sl : Array (Option Value)) (b : Str) (u : Tok) :
    Meets (Builtin.«dict.__eq__» ⟨[.ref l, .str b u], []⟩) (fun _ R s => s.heap.get? l = some { cls := .type "dict", dict := dd, data := .dict es n, slots := sl } ∧ R (.ok (.ret .notImplemented)) s) :=
  .of_wp fun prog w A R s h => by obtain ⟨hp, g, d, tk, os⟩ := s; obtain ⟨hl, h⟩ := h; have f1 := F.sub_str_dict; wp_walk using wpAny_loadPart' hl; exact ⟨_, rfl, h⟩
theorem str_eq_no_dict (b : Str) (u : Tok) (l : Addr) (c : Value) (es : Array DictEntry) (n : Nat) (dd : Option Addr) (sl : Array (Option Value)) :
    Meets (Builtin.«str.__eq__» ⟨[.str b u, .ref l], []⟩) (fun _ R s => s.heap.get? l = some { cls := c, dict := dd, data := .dict es n, slots := sl } ∧ R (.ok (.ret .notImplemented)) s) :=
  .of_wp fun prog w A R s h => by obtain ⟨hp, g, d, tk, os⟩ := s; obtain ⟨hl, h⟩ := h; wp_walk using wpAny_loadPart' hl, wpAny_load hl; exact ⟨_, rfl, h⟩
section
variable {A : Around} {s : Shared}
theorem str_is_no_dict {l : Addr} {o : Obj} {es : Array DictEntry} {ep : Nat} (b : Str) (u : Tok) (hl : s.heap.get? l = some o) (hx : o.cls = .type "dict") (hd : o.data = .dict es ep) (hu : A.units < cLine) : EqAt A s (.str b u) (.ref l) false := fun prog w E Q h => by
  obtain ⟨cls, dd, data, sl⟩ := o
  dsimp only at hx hd
  subst hx hd
  unfold eqBool
  refine wpAny_holding (wpAny_ite_split (fun e => absurd (eq_of_beq e) nofun) (fun _ => wpAny_bind ?_))
  exact rc_eq_decline_or (k := false) (typeIs_str s b u) ⟨_, hl, rfl⟩ (by decide) F.sub_dict_str F.slot_str_eq F.slot_dict_eq_refl
    (fun _ q => call_meets F.slot_str_eq (typeIs_str s b u) F.entry_str_eq (F.args_str_eq_2 _ _) (str_eq_no_dict b u l (.type "dict") es ep dd sl) ⟨hl, q⟩)
    (fun _ q => call_meets F.slot_dict_eq_refl ⟨_, hl, rfl⟩ F.entry_dict_eq (F.args_dict_eq_2 _ _) (dict_eq_no_str l es ep dd sl b u) ⟨hl, q⟩)
    (fun _ q => wpAny_of_eq (rfl : isSame (.str b u) (.ref l) = pure false) q) (.inr hu) (wpAny_truthy_bool h)
end
end PySem
namespace L3
open PySem PySem.Spec PyProof.Rows L2
/-! ### `in` a list of texts, whatever is looked for -/
section
variable {X : Cx} {Z : Zn X.kn}
/-- a list, a tuple or a dict -/
def rBig (K : PySem.W.Frag) (H : Hp) (b : Addr) : Prop := (∃ ws, SqL K H b ws) ∨ (∃ ws, SqT K H b ws) ∨ ∃ kvs, Rd H b (.dK kvs)
def rInBig (K : PySem.W.Frag) (ans : Bool) : R2 := fun x y H Q => ∃ a b vs, y = .ref a ∧ SqL K H a vs ∧ (∀ v ∈ vs, ∃ z, v = V.str z) ∧ x = .ref b ∧ rBig K H b ∧ Q (.bl ans) H
theorem str_no_big {pins : List (Addr × Obj)} {σ : L2.St} {H : Hp} {s : Shared} {A : Around} {b : Addr} (I : Inv X pins σ H s) (hu : A.units < cLine) (h : rBig X.K H b) (z : Str) (t : Tok) : SeqAt.EqAt A s (.str z t) (.ref b) false := by
  rcases h with ⟨ws, h⟩ | ⟨ws, h⟩ | ⟨kvs, h⟩
  · obtain ⟨us, _, p, _⟩ := I.list h
    exact SeqAt.EqAt.str_list z t p.isList hu
  · obtain ⟨us, _, p, _⟩ := I.tuple h
    exact SeqAt.EqAt.str_tuple z t p hu
  · obtain ⟨_, us, _, o, es, ep, e1, e2, e3, _⟩ := Inv.dic I h
    exact PySem.str_is_no_dict z t e1 e2.1 e3 hu
theorem big_items {pins : List (Addr × Obj)} {σ : L2.St} {H : Hp} {s : Shared} {A : Around} {b : Addr} {vs : List V} {us : List Value} (I : Inv X pins σ H s) (hu : A.units < cLine) (h : rBig X.K H b) (hv : ∀ v ∈ vs, ∃ z, v = V.str z) (r : Vals vs us) :
    ∀ y, y ∈ us.toArray → SeqAt.EqAt A s y (.ref b) false := fun y hy => by
  obtain ⟨j, hj, e⟩ := List.getElem_of_mem (by simpa using hy)
  have h1 : us[j]? = some y := by rw [List.getElem?_eq_getElem hj, e]
  have hl : j < vs.length := by rw [r.length]; exact hj
  obtain ⟨z, ez⟩ := hv _ (List.getElem_mem hl)
  obtain ⟨w, e2, r2⟩ := r.get (List.getElem?_eq_getElem hl)
  rw [h1] at e2
  cases e2
  rw [ez] at r2
  obtain ⟨t, rfl⟩ := r2
  exact str_no_big I hu h z t
theorem op_in_big (hu : X.A.units + 1 < cLine) : OpR X (compareOp .In) (rInBig X.K false) := by
  intro pins s σ H x y v u Q I rx ry h
  obtain ⟨a, b, vs, rfl, hs, hv, rfl, hb, q⟩ := h
  obtain rfl : u = Value.ref a := ry
  obtain rfl : v = Value.ref b := rx
  obtain ⟨us, r, p, _⟩ := I.list hs
  refine SeqAt.in_listAt (fun _ => false) p.isList (big_items I (by show X.A.units + 1 < _; exact hu) hb hv r) ?_
  have : us.toArray.any (fun _ => false) = false := by simp
  rw [this]
  exact ⟨.bl false, H, I, rfl, q⟩
theorem op_notIn_big (hu : X.A.units + 1 < cLine) : OpR X (compareOp .NotIn) (rInBig X.K true) := by
  intro pins s σ H x y v u Q I rx ry h
  obtain ⟨a, b, vs, rfl, hs, hv, rfl, hb, q⟩ := h
  obtain rfl : u = Value.ref a := ry
  obtain rfl : v = Value.ref b := rx
  obtain ⟨us, r, p, _⟩ := I.list hs
  refine SeqAt.notIn_listAt (fun _ => false) p.isList (big_items I (by show X.A.units + 1 < _; exact hu) hb hv r) ?_
  have : us.toArray.any (fun _ => false) = false := by simp
  rw [this]
  exact ⟨.bl true, H, I, rfl, q⟩
/-- a list, a tuple or a dict -/
def isBig (μ : Mu) (x : D) : Prop := (∃ xs, lstOf μ x = some xs) ∨ (∃ xs, x = .tup xs) ∨ ∃ ks, dctOf μ x = some ks
def gInX (neg : Bool) : G2 := fun x y μ R => gIn neg x y μ R ∨ ∃ ss : List Str, lstOf μ y = some (ss.map .str) ∧ isBig μ x ∧ R (.bl neg) μ
theorem big_of {F : Addr → Prop} {H : Hp} {μ : Mu} {x : D} {v : V} (s : Sim Z F H μ) (r : Rp X.kn F H x v) (h : isBig μ x) : ∃ b, v = .ref b ∧ rBig X.K H b := by
  rcases h with ⟨xs, h⟩ | ⟨xs, rfl⟩ | ⟨ks, h⟩
  · obtain ⟨p, vs, rfl, e, _⟩ := lst_of s r h
    exact ⟨p, rfl, .inl ⟨vs, SqL.of e⟩⟩
  · cases r with
    | tup f e rs => exact ⟨_, rfl, .inr (.inl ⟨_, SqT.of e⟩)⟩
  · obtain ⟨p, vs, rfl, e, _⟩ := dct_of s r h
    exact ⟨p, rfl, .inr (.inr ⟨vs, e⟩)⟩
theorem strs_of {K : Kn} {F : Addr → Prop} {H : Hp} : ∀ {ss : List Str} {vs : List V}, Rps K F H (ss.map .str) vs → ∀ v ∈ vs, ∃ z, v = V.str z
  | [], _, r, v, hv => by cases r; cases hv
  | z :: t, _, r, v, hv => by
    cases r with
    | cons r1 rs =>
      cases r1
      rcases List.mem_cons.mp hv with rfl | hv
      · exact ⟨z, rfl⟩
      · exact strs_of rs v hv
theorem o_inX {j : Nat} (hr : RoomG j X.A) : OpL X Z (compareOp .In) (gInX false) := by
  have hb : OpL X Z (compareOp .In) (fun x y μ R => ∃ ss : List Str, lstOf μ y = some (ss.map .str) ∧ isBig μ x ∧ R (.bl false) μ) := ⟨_, op_in_big (hu_g hr), fun F H μ x y vx vy R Q s rx ry q kk => by
    obtain ⟨ss, e, hx, q⟩ := q
    obtain ⟨p, vs, rfl, e1, rs⟩ := lst_of s ry e
    obtain ⟨b, rfl, hb⟩ := big_of s rx hx
    exact ⟨p, b, vs, rfl, SqL.of e1, strs_of rs, rfl, hb, kk F _ H _ μ (Step.refl s) (.bl _) q⟩⟩
  exact ((o_in hr).or hb).imp fun x y μ R h => h
theorem o_notInX {j : Nat} (hr : RoomG j X.A) : OpL X Z (compareOp .NotIn) (gInX true) := by
  have hb : OpL X Z (compareOp .NotIn) (fun x y μ R => ∃ ss : List Str, lstOf μ y = some (ss.map .str) ∧ isBig μ x ∧ R (.bl true) μ) := ⟨_, op_notIn_big (hu_g hr), fun F H μ x y vx vy R Q s rx ry q kk => by
    obtain ⟨ss, e, hx, q⟩ := q
    obtain ⟨p, vs, rfl, e1, rs⟩ := lst_of s ry e
    obtain ⟨b, rfl, hb⟩ := big_of s rx hx
    exact ⟨p, b, vs, rfl, SqL.of e1, strs_of rs, rfl, hb, kk F _ H _ μ (Step.refl s) (.bl _) q⟩⟩
  exact ((o_notIn hr).or hb).imp fun x y μ R h => h
end
end L3

namespace C1
open PySem PySem.Spec L2 L3 C2
local macro_rules | `(tactic| walk_at "l3") => `(tactic| simp only [sSeq, sNext, sIf, sRet, sRetN, sSet, sDrop, sSub, sFor, sAsg, sPar2, sPar3, sCont, sFld3, sFld2, sAug, vVar, vC, vNil, vCons, vOp, vB, vChain, vAnd, vOr, vNot, vAndV, vOrV, vNotV, vIf, vUn, vCB, vLst, vTup, vLstT, vCall, vCal, vMak, vMetA, vFld, vSl, vPart, vNoP, vLc, vLcT, vDc, vBM, vBM0, vGet1, vGet2, vItems, vRev, vLRg, vStar, vDZip, iRg1, iRg2, iRgD, iAny, iEnm, iItm, iVal, vDict0, vDict0T, vDict0N, vDisp, vDispT, vPairs,
  List.getElem?_cons_zero, List.getElem?_cons_succ, List.set_cons_zero, List.set_cons_succ, wipe3, endsOf_rt, endsOf_nx, gLt, gLe, gGt, gGe, L3.gSub, gMul, gMod, gDiv, gPow, g2I, g2I0, gN, gT, gGo, Option.bind_some, gAdd_ii, gAdd_ss, gNeg_i, gMax2_ii, gMin2_ii, gLen_s, gEqS_ii, gEqS_ss, gEqS_bb, gNeS_ii, gNeS_ss, gIsN_n, gNotN_n, gSl_s, isNonD, if_true, if_false, Bool.false_eq_true, Bool.not_true, Bool.not_false])
/-! ### plans and tables, frozen or tracked; exceptions -/
def spg_Plan_events : Sp3 := fun ds μ R => ∃ x evs ties lims, ds = [x] ∧ insOf μ "Plan" x = some (planF evs ties lims) ∧ R (.lst (sds evs)) μ
def tg_Plan_events : TS3 := (sRet (vCB gList (vCons (vFld "Plan" "own_events" (vVar 0)) vNil)))
theorem pureg_Plan_events (ds : List D) (μ : Mu) (R : DK) (hl : ds.length = 1) (h : spg_Plan_events ds μ R) : tg_Plan_events (endsOf R) (start3 ["self"] ds) μ := by
  obtain ⟨x, evs, ties, lims, rfl, hx, h⟩ := h
  show tg_Plan_events (endsOf R) [some x] μ
  unfold tg_Plan_events
  walk_at "l3"
  exact ⟨planF evs ties lims, _, hx, rfl, _, _, rfl, rfl, fin_now h⟩
def spg_Plan_ties : Sp3 := fun ds μ R => ∃ x evs ties lims, ds = [x] ∧ insOf μ "Plan" x = some (planF evs ties lims) ∧ R (.lst (ties.map tieD)) μ
def tg_Plan_ties : TS3 := (sRet (vCB gList (vCons (vFld "Plan" "own_ties" (vVar 0)) vNil)))
theorem pureg_Plan_ties (ds : List D) (μ : Mu) (R : DK) (hl : ds.length = 1) (h : spg_Plan_ties ds μ R) : tg_Plan_ties (endsOf R) (start3 ["self"] ds) μ := by
  obtain ⟨x, evs, ties, lims, rfl, hx, h⟩ := h
  show tg_Plan_ties (endsOf R) [some x] μ
  unfold tg_Plan_ties
  walk_at "l3"
  exact ⟨planF evs ties lims, _, hx, rfl, _, _, rfl, rfl, fin_now h⟩
def spg_Plan_limits : Sp3 := fun ds μ R => ∃ x evs ties lims, ds = [x] ∧ insOf μ "Plan" x = some (planF evs ties lims) ∧ R (.dct (limK lims)) μ
def tg_Plan_limits : TS3 := (sRet (vCB (gDict false) (vCons (vFld "Plan" "own_limits" (vVar 0)) vNil)))
theorem pureg_Plan_limits (ds : List D) (μ : Mu) (R : DK) (hl : ds.length = 1) (h : spg_Plan_limits ds μ R) : tg_Plan_limits (endsOf R) (start3 ["self"] ds) μ := by
  obtain ⟨x, evs, ties, lims, rfl, hx, h⟩ := h
  show tg_Plan_limits (endsOf R) [some x] μ
  unfold tg_Plan_limits
  walk_at "l3"
  exact ⟨planF evs ties lims, _, hx, rfl, _, _, rfl, .inl rfl, fin_now h⟩
def spg_rows_of : Sp3 := fun ds μ R => ∃ x evs ties lims, ds = [x] ∧ insOf μ "Plan" x = some (planF evs ties lims) ∧ PlOk evs ties lims ∧ R (.lst ((planRows evs ties lims).map rowD)) μ
theorem ins_le {μ' μ : Mu} {n : Str} {x : D} {fs : List (Str × D)} (l : Le μ' μ) (h : insOf μ' n x = some fs) : insOf μ n x = some fs := by
  cases x <;> try exact h
  rename_i a
  simp only [insOf] at h ⊢
  cases e : μ' a with
  | none => rw [e] at h; cases h
  | some o => rw [e] at h; rw [l a o e]; exact h
theorem ins_new {μ : Mu} {n : Str} {x : D} {fs : List (Str × D)} {q : Addr} {o : MO} (h : insOf μ n x = some fs) (hq : μ q = none) : insOf (mset μ q o) n x = some fs := ins_le ((Le.refl μ).mset hq) h
def tg_rows_of_2 : TS3 := (sRet (vOp gAdd (vVar 1) (vLc (iAny (vMetA "Plan" "events" 0 spg_Plan_events (vVar 0) vNil)) (gN 6) vYes (vTup (vCons (vVar 6) (vCons (vC .non) (vCons (vC (.int 0)) (vCons (vTup (vCons (vC (.str "none")) (vCons (vVar 6) vNil))) vNil))))) [6])))
def tg_rows_of_1 : TS3 := sSeq (sAug 1 (vLc (iItm (vMetA "Plan" "limits" 0 spg_Plan_limits (vVar 0) vNil)) (gT [(gN 6), (gN 7)]) vYes (vTup (vCons (vC .non) (vCons (vVar 6) (vCons (vVar 7) (vCons (vTup (vCons (vC (.str "limit")) (vCons (vVar 6) vNil))) vNil))))) [6, 7]) gIAdd) tg_rows_of_2
def tg_rows_of : TS3 := sSeq (sSet 1 (vLcT (iEnm (vCons (vMetA "Plan" "ties" 0 spg_Plan_ties (vVar 0) vNil) vNil)) (gT [(gN 2), (gT [(gN 3), (gN 4), (gN 5)])]) vYes (vTup (vCons (vVar 3) (vCons (vVar 4) (vCons (vVar 5) (vCons (vTup (vCons (vC (.str "tie")) (vCons (vVar 2) vNil))) vNil))))) [2, 3, 4, 5])) tg_rows_of_1
theorem pureg_rows_of (ds : List D) (μ : Mu) (R : DK) (hl : ds.length = 1) (h : spg_rows_of ds μ R) : tg_rows_of (endsOf R) (start3 ["plan", "found", "index", "earlier", "later", "lag", "event", "limit"] ds) μ := by
  obtain ⟨x, evs, ties, lims, rfl, hx, ok, h⟩ := h
  have hsl : sizeLine = 16777216 := by decide
  have h1 := ok.e.le
  have h2 := ok.t.le
  have h3 := lims_len ok.l
  show tg_rows_of (endsOf R) [some x, none, none, none, none, none, none, none] μ
  unfold tg_rows_of tg_rows_of_1
  walk_at "l3"
  refine ⟨planF evs ties lims, hx, rfl, rfl, x, evs, ties, lims, rfl, hx, ?_⟩
  show lcW _ _ _ _ _ _ (enumD (ties.map tieD)) _ _
  rw [enum_map]
  refine lcg_map _ (fun p => rowD (tieR p)) trivial ties.zipIdx [] (fun p hp => ⟨_, rfl, fun R' hR => ?_⟩) (by rw [List.length_zipIdx]; simp; omega) fun q hq => ?_
  · walk_at "l3"
    exact ⟨by show 2 ≤ sizeLine; omega, by show 4 ≤ sizeLine; omega, hR⟩
  refine ⟨planF evs ties lims, ins_new hx hq, rfl, rfl, x, evs, ties, lims, rfl, ins_new hx hq, _, rfl, ?_⟩
  have e1 : (limK lims).map pairD = lims.map fun p => .tup [.str p.1, .int p.2] := by
    unfold limK; rw [List.map_map]; rfl
  rw [e1]
  refine lcg_map _ (fun p => rowD (limR p)) trivial lims [] (fun p hp => ⟨_, rfl, fun R' hR => ?_⟩) (by simp; omega) ?_
  · walk_at "l3"
    exact ⟨by show 2 ≤ sizeLine; omega, by show 4 ≤ sizeLine; omega, hR⟩
  refine ⟨_, _, mset_same, rfl, by simp; omega, ?_⟩
  rw [mset_mset]
  unfold tg_rows_of_2
  walk_at "l3"
  refine ⟨planF evs ties lims, ins_new hx hq, rfl, rfl, x, evs, ties, lims, rfl, ins_new hx hq, ?_⟩
  refine lcg_map _ (fun e => rowD (endR e)) trivial evs [] (fun p hp => ⟨_, rfl, fun R' hR => ?_⟩) (by simp; omega) ?_
  · walk_at "l3"
    exact ⟨by show 2 ≤ sizeLine; omega, by show 4 ≤ sizeLine; omega, hR⟩
  refine ⟨_, _, lst_ref mset_same, rfl, by simp; omega, fin_same ((Le.refl μ).mset hq) ?_⟩
  have : (planRows evs ties lims).map rowD = [] ++ ties.zipIdx.map (fun p => rowD (tieR p)) ++ ([] ++ lims.map fun p => rowD (limR p)) ++ ([] ++ evs.map fun e => rowD (endR e)) := by
    unfold planRows
    simp
    rfl
  rw [← this]
  exact h
/-! ### what is refused -/
def spx_need_plan : Spx := fun ds μ R RX => ∃ x y, ds = [x] ∧ ownD μ x = some y ∧ (∀ n, y = some n → n = "Plan" ∨ n ∈ [("Table" : Str)]) ∧ if y = some ("Plan" : Str) then R .non μ else RX "InvalidPlan" [("value", x)] μ
def tx_need_plan (rx : XR) : TS3 := (sIf (vNot (vB (vCB (gIsC "Plan" ["Table"]) (vCons (vVar 0) (vCons (vC (.cls "Plan")) vNil))))) (sRaise rx "InvalidPlan" "value" (vVar 0)) sNext)
theorem purex_need_plan (ds : List D) (μ : Mu) (R : DK) (RX : XK3) (hl : ds.length = 1) (h : spx_need_plan ds μ R RX) : tx_need_plan (fun m fs _ μ' => finX RX m fs μ') (endsOf R) (start3 ["value"] ds) μ := by
  obtain ⟨x, y, rfl, hx, hy, h⟩ := h
  show tx_need_plan (fun m fs _ μ' => finX RX m fs μ') (endsOf R) [some x] μ
  unfold tx_need_plan
  walk_at "l3"
  refine ⟨x, y, rfl, hx, hy, ?_⟩
  by_cases e : y = some ("Plan" : Str)
  · rw [if_pos e] at h
    simp only [e, decide_true, Bool.not_true, Bool.false_eq_true, if_false]
    exact fin_now h
  · rw [if_neg e] at h
    simp only [e, decide_false, Bool.not_false, if_true, sRaise, vVar, List.getElem?_cons_zero]
    exact finX_now h
/-- an event, or none -/
def evOf (evs : List Str) (d : D) : Option Str := evs.find? fun e => match d with
  | .str z => decide (z = e)
  | _ => false
theorem evOf_some {evs : List Str} {d : D} {e : Str} (h : evOf evs d = some e) : d = .str e ∧ e ∈ evs := by
  have h1 := List.find?_some h
  have h2 := List.mem_of_find?_eq_some h
  cases d <;> try (cases h1; done)
  rename_i z
  have : z = e := of_decide_eq_true h1
  exact ⟨by rw [this], h2⟩
theorem evOf_in {evs : List Str} {e : Str} (h : e ∈ evs) : evOf evs (.str e) = some e := by
  cases q : evOf evs (.str e) with
  | none =>
    unfold evOf at q
    rw [List.find?_eq_none] at q
    exact absurd (by simp) (q e h)
  | some z => obtain ⟨h1, _⟩ := evOf_some q; cases h1; rfl
theorem evOf_out {evs : List Str} {e : Str} (h : e ∉ evs) : evOf evs (.str e) = none := by
  cases q : evOf evs (.str e) with
  | none => rfl
  | some z => obtain ⟨h1, h2⟩ := evOf_some q; cases h1; exact absurd h2 h
/-- what may stand in the place of a name -/
def NmOk (μ : Mu) (d : D) : Prop := (∃ n, tyD μ d = some n) ∧ ∀ z, d = .str z → z.length ≤ 1000
def spx_need_event : Spx := fun ds μ R RX => ∃ x evs d, ds = [x, d] ∧ lstOf μ x = some (sds evs) ∧ EvOk evs ∧ NmOk μ d ∧ match evOf evs d with
  | some _ => R .non μ
  | none => RX "UnknownEvent" [("name", d)] μ
def tx_need_event (rx : XR) : TS3 := (sIf (vOr (vNot (vB (vCall 1 sp_is_name (vCons (vVar 1) vNil)))) (vB (vOp (gIn true) (vVar 1) (vVar 0)))) (sRaise rx "UnknownEvent" "name" (vVar 1)) sNext)
theorem purex_need_event (ds : List D) (μ : Mu) (R : DK) (RX : XK3) (hl : ds.length = 2) (h : spx_need_event ds μ R RX) : tx_need_event (fun m fs _ μ' => finX RX m fs μ') (endsOf R) (start3 ["events", "name"] ds) μ := by
  obtain ⟨x, evs, d, rfl, hx, ok, ⟨⟨n, hn⟩, hz⟩, h⟩ := h
  show tx_need_event (fun m fs _ μ' => finX RX m fs μ') (endsOf R) [some x, some d] μ
  unfold tx_need_event
  walk_at "l3"
  refine ⟨rfl, d, n, rfl, hn, hz, ?_⟩
  cases e : nameD d with
  | false =>
    have : evOf evs d = none := by
      cases q : evOf evs d with
      | none => rfl
      | some z =>
        obtain ⟨rfl, hm⟩ := evOf_some q
        rw [show nameD (.str z) = nameT z from rfl, ok.nm z hm] at e
        cases e
    rw [this] at h
    simp only [Bool.not_false, if_true, sRaise, vVar, List.getElem?_cons_zero, List.getElem?_cons_succ]
    exact finX_now h
  | true =>
    cases d with
    | str z =>
      simp only [Bool.not_true, Bool.false_eq_true, if_false]
      refine in_q (seq_lst hx) rfl (sds_flat _) ?_
      rw [in_sds]
      by_cases hm : z ∈ evs
      · rw [evOf_in hm] at h
        simp only [hm, decide_true, Bool.not_true, if_true, Bool.false_eq_true, if_false]
        exact fin_now h
      · rw [evOf_out hm] at h
        simp only [hm, decide_false, Bool.not_false, if_true, sRaise, vVar, List.getElem?_cons_zero, List.getElem?_cons_succ]
        exact finX_now h
    | _ => cases e
theorem calm_need_event (ds : List D) (μ : Mu) (R : DK) (h : sp_need_event ds μ R) : spx_need_event ds μ R fun _ _ _ => False := by
  obtain ⟨x, evs, e, rfl, hx, ok, he, h⟩ := h
  exact ⟨x, evs, .str e, rfl, hx, ok, ⟨⟨"str", rfl⟩, fun z q => by cases q; have := nameT_len (ok.nm e he); omega⟩, by rw [evOf_in he]; exact h⟩

end C1

namespace C1
open PySem PySem.Spec L2 L3 C2
local macro_rules | `(tactic| walk_at "l3") => `(tactic| simp only [sSeq, sNext, sIf, sRet, sRetN, sSet, sDrop, sSub, sFor, sAsg, sPar2, sPar3, sCont, sFld3, sFld2, sAug, vVar, vC, vNil, vCons, vOp, vB, vChain, vAnd, vOr, vNot, vAndV, vOrV, vNotV, vIf, vUn, vCB, vLst, vTup, vLstT, vCall, vCal, vMak, vMetA, vFld, vSl, vPart, vNoP, vLc, vLcT, vDc, vBM, vBM0, vGet1, vGet2, vItems, vRev, vLRg, vStar, vDZip, iRg1, iRg2, iRgD, iAny, iEnm, iItm, iVal, vDict0, vDict0T, vDict0N, vDisp, vDispT, vPairs,
  List.getElem?_cons_zero, List.getElem?_cons_succ, List.set_cons_zero, List.set_cons_succ, wipe3, endsOf_rt, endsOf_nx, gLt, gLe, gGt, gGe, L3.gSub, gMul, gMod, gDiv, gPow, g2I, g2I0, gN, gT, gGo, Option.bind_some, gAdd_ii, gAdd_ss, gNeg_i, gMax2_ii, gMin2_ii, gLen_s, gEqS_ii, gEqS_ss, gEqS_bb, gNeS_ii, gNeS_ss, gIsN_n, gNotN_n, gSl_s, isNonD, if_true, if_false, Bool.false_eq_true, Bool.not_true, Bool.not_false])
local macro_rules | `(tactic| walk_at "x3") => `(tactic| simp only [vCallX, vMetAX, vMakX, vCalX, sRaise, sSeq, sNext, sIf, sRet, sRetN, sSet, sDrop, sSub, sFor, sAsg, sPar2, sPar3, sCont, sFld3, sFld2, sAug, vVar, vC, vNil, vCons, vOp, vB, vChain, vAnd, vOr, vNot, vAndV, vOrV, vNotV, vIf, vUn, vCB, vLst, vTup, vLstT, vCall, vCal, vMak, vMetA, vFld, vSl, vPart, vNoP, vLc, vLcT, vDc, vBM, vBM0, vGet1, vGet2, vItems, vRev, vLRg, vStar, vDZip, iRg1, iRg2, iRgD, iAny, iEnm, iItm, iVal, vDict0, vDict0T, vDict0N, vDisp, vDispT, vPairs,
  List.getElem?_cons_zero, List.getElem?_cons_succ, List.set_cons_zero, List.set_cons_succ, wipe3, endsOf_rt, endsOf_nx, gLt, gLe, gGt, gGe, L3.gSub, gMul, gMod, gDiv, gPow, g2I, g2I0, gN, gT, gGo, Option.bind_some, gAdd_ii, gAdd_ss, gNeg_i, gMax2_ii, gMin2_ii, gLen_s, gEqS_ii, gEqS_ss, gEqS_bb, gNeS_ii, gNeS_ss, gIsN_n, gNotN_n, gSl_s, isNonD, if_true, if_false, Bool.false_eq_true, Bool.not_true, Bool.not_false])
def spx_Table___init__ : Spx := fun ds μ R RX => ∃ q x y, ds = [.ref q, x] ∧ μ q = some (.ins "Table" []) ∧ ownD μ x = some y ∧ (∀ n, y = some n → n = "Plan" ∨ n ∈ [("Table" : Str)]) ∧ x ≠ .ref q ∧
  (y = some ("Plan" : Str) → ∃ evs ties lims, insOf μ "Plan" x = some (planF evs ties lims) ∧ PlOk evs ties lims ∧ ∀ kl ks, TabOk evs ties lims kl ks → R .non (mset μ q (.ins "Table" (tabF evs kl ks)))) ∧
  (y ≠ some ("Plan" : Str) → RX "InvalidPlan" [("value", x)] μ)
theorem ins_set {μ : Mu} {n : Str} {x : D} {fs : List (Str × D)} {q : Addr} {o : MO} (h : insOf μ n x = some fs) (hq : x ≠ .ref q) : insOf (mset μ q o) n x = some fs := by
  cases x <;> try exact h
  rename_i a
  have : a ≠ q := fun z => hq (by rw [z])
  simp only [insOf, mset_ne this] at h ⊢
  exact h
def tx_Table___init___2 (rx : XR) : TS3 := (sFld2 "Table" "leads" "steps" (vCall 2 sp_leads_of (vCons (vLst (vCons (vC .non) (vStar (vFld "Table" "row_of_events" (vVar 0)) vNil))) (vCons (vCall 1 spg_rows_of (vCons (vVar 1) vNil)) vNil))) (vVar 0) (vVar 0))
def tx_Table___init___1 (rx : XR) : TS3 := sSeq (sFld3 "Table" "row_of_events" (vMetA "Plan" "events" 0 spg_Plan_events (vVar 1) vNil) (vVar 0)) (tx_Table___init___2 rx)
def tx_Table___init__ (rx : XR) : TS3 := sSeq (sDrop (vCallX rx 1 spx_need_plan (vCons (vVar 1) vNil))) (tx_Table___init___1 rx)
theorem purex_Table___init__ (ds : List D) (μ : Mu) (R : DK) (RX : XK3) (hl : ds.length = 2) (h : spx_Table___init__ ds μ R RX) : tx_Table___init__ (fun m fs _ μ' => finX RX m fs μ') (endsOf R) (start3 ["self", "plan"] ds) μ := by
  obtain ⟨q, x, y, rfl, hq, hx, hy, xq, h1, h2⟩ := h
  have hsl : sizeLine = 16777216 := by decide
  show tx_Table___init__ (fun m fs _ μ' => finX RX m fs μ') (endsOf R) [some (.ref q), some x] μ
  unfold tx_Table___init__ tx_Table___init___1
  walk_at "x3"
  refine ⟨rfl, x, y, rfl, hx, hy, ?_⟩
  by_cases e : y = some ("Plan" : Str)
  · rw [if_pos e]
    obtain ⟨evs, ties, lims, hp, ok, h⟩ := h1 e
    refine ⟨planF evs ties lims, hp, rfl, rfl, x, evs, ties, lims, rfl, hp, q, [], rfl, hq, by decide, ?_⟩
    unfold tx_Table___init___2
    walk_at "x3"
    refine ⟨[("row_of_events", .lst (sds evs))], .lst (sds evs), ?_, rfl, _, rfl, ?_, ?_⟩
    · simp only [insOf, mset_same, if_true]; rfl
    · have := ok.e.le
      simp [sds]; omega
    have hp2 := ins_set (o := .ins "Table" (putFD "row_of_events" (.lst (sds evs)) [])) hp xq
    refine ⟨rfl, x, evs, ties, lims, rfl, hp2, ok, rfl, plNodes evs, planRows evs ties lims, ?_, nodes_len ok.e, nodes_nodup ok.e, rows_len ok, fun kl ks r1 r2 => ?_⟩
    · rw [nodes_map]; simp
    refine ⟨_, _, rfl, q, _, rfl, mset_same, Nat.lt_of_le_of_lt (putFD_len _ _ _) (by decide), ?_⟩
    refine ⟨q, _, rfl, mset_same, Nat.lt_of_le_of_lt (putFD_len _ _ _) (Nat.lt_of_le_of_lt (Nat.succ_le_succ (putFD_len _ _ _)) (by decide)), ?_⟩
    rw [mset_mset, mset_mset]
    exact fin_now (h kl ks ⟨r1, r2⟩)
  · rw [if_neg e]
    exact finX_now (h2 e)
/-- one event is asked for -/
def Ev1 (evs : List Str) (a : D) (μ : Mu) (RX : XK3) (k : Str → Prop) : Prop := match evOf evs a with
  | none => RX "UnknownEvent" [("name", a)] μ
  | some s => k s
def spx_Table_most : Spx := fun ds μ R RX => ∃ x evs ties lims kl ks a, ds = [x, a] ∧ insOf μ "Table" x = some (tabF evs kl ks) ∧ EvOk evs ∧ TabOk evs ties lims kl ks ∧ NmOk μ a ∧ Ev1 evs a μ RX fun s => R (optD ((plT evs ties lims).L none (some s))) μ
def tx_Table_most_1 (rx : XR) : TS3 := (sRet (vGet1 (vFld "Table" "leads" (vVar 0)) (vTup (vCons (vC .non) (vCons (vVar 1) vNil)))))
def tx_Table_most (rx : XR) : TS3 := sSeq (sDrop (vCallX rx 2 spx_need_event (vCons (vFld "Table" "row_of_events" (vVar 0)) (vCons (vVar 1) vNil)))) (tx_Table_most_1 rx)
theorem purex_Table_most (ds : List D) (μ : Mu) (R : DK) (RX : XK3) (hl : ds.length = 2) (h : spx_Table_most ds μ R RX) : tx_Table_most (fun m fs _ μ' => finX RX m fs μ') (endsOf R) (start3 ["self", "event"] ds) μ := by
  obtain ⟨x, evs, ties, lims, kl, ks, a, rfl, hx, ok, tk, na, h⟩ := h
  have hsl : sizeLine = 16777216 := by decide
  show tx_Table_most (fun m fs _ μ' => finX RX m fs μ') (endsOf R) [some x, some a] μ
  unfold tx_Table_most
  walk_at "x3"
  refine ⟨tabF evs kl ks, .lst (sds evs), hx, rfl, rfl, _, evs, a, rfl, rfl, ok, na, ?_⟩
  unfold Ev1 at h
  cases e : evOf evs a with
  | none => rw [e] at h; exact finX_now h
  | some s =>
    rw [e] at h
    obtain ⟨rfl, _⟩ := evOf_some e
    unfold tx_Table_most_1
    walk_at "x3"
    exact ⟨tabF evs kl ks, .dcn kl, hx, rfl, rfl, by rw [hsl]; show 2 ≤ _; decide, .n kl, _, rfl, get_n tk.l none (some s), fin_now h⟩
def spx_Table_lead : Spx := fun ds μ R RX => ∃ x evs ties lims kl ks a b, ds = [x, a, b] ∧ insOf μ "Table" x = some (tabF evs kl ks) ∧ EvOk evs ∧ TabOk evs ties lims kl ks ∧ NmOk μ a ∧ NmOk μ b ∧
  Ev1 evs a μ RX fun s => Ev1 evs b μ RX fun t => R (optD ((plT evs ties lims).L (some s) (some t))) μ
def tx_Table_lead_2 (rx : XR) : TS3 := (sRet (vGet1 (vFld "Table" "leads" (vVar 0)) (vTup (vCons (vVar 1) (vCons (vVar 2) vNil)))))
def tx_Table_lead_1 (rx : XR) : TS3 := sSeq (sDrop (vCallX rx 2 spx_need_event (vCons (vFld "Table" "row_of_events" (vVar 0)) (vCons (vVar 2) vNil)))) (tx_Table_lead_2 rx)
def tx_Table_lead (rx : XR) : TS3 := sSeq (sDrop (vCallX rx 2 spx_need_event (vCons (vFld "Table" "row_of_events" (vVar 0)) (vCons (vVar 1) vNil)))) (tx_Table_lead_1 rx)
theorem purex_Table_lead (ds : List D) (μ : Mu) (R : DK) (RX : XK3) (hl : ds.length = 3) (h : spx_Table_lead ds μ R RX) : tx_Table_lead (fun m fs _ μ' => finX RX m fs μ') (endsOf R) (start3 ["self", "earlier", "later"] ds) μ := by
  obtain ⟨x, evs, ties, lims, kl, ks, a, b, rfl, hx, ok, tk, na, nb, h⟩ := h
  have hsl : sizeLine = 16777216 := by decide
  show tx_Table_lead (fun m fs _ μ' => finX RX m fs μ') (endsOf R) [some x, some a, some b] μ
  unfold tx_Table_lead
  walk_at "x3"
  refine ⟨tabF evs kl ks, .lst (sds evs), hx, rfl, rfl, _, evs, a, rfl, rfl, ok, na, ?_⟩
  unfold Ev1 at h
  cases e : evOf evs a with
  | none => rw [e] at h; exact finX_now h
  | some s =>
    rw [e] at h
    obtain ⟨rfl, _⟩ := evOf_some e
    unfold tx_Table_lead_1
    walk_at "x3"
    refine ⟨tabF evs kl ks, .lst (sds evs), hx, rfl, rfl, _, evs, b, rfl, rfl, ok, nb, ?_⟩
    cases e2 : evOf evs b with
    | none => simp only [e2] at h; exact finX_now h
    | some t =>
      simp only [e2] at h
      obtain ⟨rfl, _⟩ := evOf_some e2
      unfold tx_Table_lead_2
      walk_at "x3"
      exact ⟨tabF evs kl ks, .dcn kl, hx, rfl, rfl, by rw [hsl]; show 2 ≤ _; decide, .n kl, _, rfl, get_n tk.l (some s) (some t), fin_now h⟩
/-! ### chains -/
abbrev ChnP (rows : List RowT) (nodes : List Nd) (S : Nd → Nd → Option D) := Chn rows nodeD nodes S
def sp_chain_of (m : Nat) : Sp3 := fun ds μ R => ∃ ks rows nodes S a b v l, ds = [.dcn ks, nodeD a, nodeD b] ∧ RepG ks S ∧ ChnP rows nodes S m a b v l ∧ (∀ r ∈ rows, ∃ t, r.2 = .tup t) ∧ m ≤ 10 ∧ R (.lst (l.map (·.2))) μ
theorem no_chain_of (ds : List D) (μ : Mu) (R : DK) (h : sp_chain_of 0 ds μ R) : False := by
  obtain ⟨ks, rows, nodes, S, a, b, v, l, rfl, _, h, _⟩ := h
  generalize hz : 0 = z at h
  cases h <;> omega
theorem chn_len {rows : List RowT} {nodes : List Nd} {S : Nd → Nd → Option D} {m : Nat} {a b : Nd} {v : Int} {l : List RowT} (h : ChnP rows nodes S m a b v l) : l.length ≤ 2 ^ m := by
  induction h with
  | same n a => exact Nat.zero_le _
  | row _ _ _ => exact Nat.one_le_two_pow
  | mid _ _ _ _ _ i1 i2 => rw [List.length_append, Nat.pow_succ]; omega
theorem eqS_node (a b : Nd) : eqS (nodeD a) (nodeD b) = some (decide (a = b)) := by
  cases a <;> cases b <;> simp [nodeD, eqS]
def t_chain_of_3 (m : Nat) : TS3 := (sRet (vOp gAdd (vCall 3 (sp_chain_of m) (vCons (vVar 0) (vCons (vVar 1) (vCons (vVar 3) vNil)))) (vCall 3 (sp_chain_of m) (vCons (vVar 0) (vCons (vVar 3) (vCons (vVar 2) vNil))))))
def t_chain_of_2 (m : Nat) : TS3 := sSeq (sIf (vB (vCB gIsi (vCons (vVar 3) (vCons (vC (.ty "tuple")) vNil)))) (sRet (vLst (vCons (vVar 3) vNil))) sNext) (t_chain_of_3 m)
def t_chain_of_1 (m : Nat) : TS3 := sSeq (sSet 3 (vOp gAt (vVar 0) (vTup (vCons (vVar 1) (vCons (vVar 2) vNil))))) (t_chain_of_2 m)
def t_chain_of (m : Nat) : TS3 := sSeq (sIf (vB (vOp gEqS (vVar 1) (vVar 2))) (sRet (vLst vNil)) sNext) (t_chain_of_1 m)
theorem pure_chain_of (m : Nat) (ds : List D) (μ : Mu) (R : DK) (hl : ds.length = 3) (h : sp_chain_of (m + 1) ds μ R) : t_chain_of m (endsOf R) (start3 ["steps", "earlier", "later", "step"] ds) μ := by
  obtain ⟨ks, rows, nodes, S, a, b, v, l, rfl, rp, c, hr, hm, h⟩ := h
  have hsl : sizeLine = 16777216 := by decide
  have z2 : ∀ x y : D, ([x, y] : List D).length ≤ sizeLine := fun x y => by rw [hsl]; show 2 ≤ _; decide
  have sm : 2 ^ m ≤ 1024 := Nat.le_trans (Nat.pow_le_pow_right (by decide) (show m ≤ 10 by omega)) (by decide)
  show t_chain_of m (endsOf R) [some (.dcn ks), some (nodeD a), some (nodeD b), none] μ
  unfold t_chain_of
  walk_at "x3"
  simp only [gEqS, eqS_node]
  generalize hM : m + 1 = M at c
  have far : a ≠ b → ∀ y, S a b = some y → t_chain_of_2 m (endsOf R) [some (.dcn ks), some (nodeD a), some (nodeD b), some y] μ → (if (decide (a = b)) = true then ([] : List D).length ≤ sizeLine ∧ fin R (.lst []) μ else t_chain_of_1 m (endsOf R) [some (.dcn ks), some (nodeD a), some (nodeD b), none] μ) := by
    intro ab y hy k
    rw [if_neg (by simp [ab])]
    unfold t_chain_of_1
    walk_at "x3"
    exact ⟨z2 _ _, at_d (d := y) rfl (by rw [get_n rp a b, hy]) k⟩
  cases c with
  | same n a =>
    simp only [decide_true, if_true]
    exact ⟨by rw [hsl]; show 0 ≤ _; decide, fin_now h⟩
  | @row n _ _ _ y ab hy hin =>
    refine far ab y hy ?_
    obtain ⟨t, ht⟩ := hr _ hin
    simp only at ht
    subst ht
    unfold t_chain_of_2
    walk_at "x3"
    refine ⟨"tuple", true, rfl, by decide, ?_⟩
    simp only [if_true]
    exact ⟨by rw [hsl]; show 1 ≤ _; decide, fin_now h⟩
  | @mid n _ _ k u w l1 l2 ab hk hy c1 c2 =>
    obtain rfl : m = n := by omega
    refine far ab (nodeD k) hy ?_
    have n1 := chn_len c1
    have n2 := chn_len c2
    unfold t_chain_of_2
    walk_at "x3"
    have kk : ∃ n, tyD μ (nodeD k) = some n ∧ kitB n "tuple" = some false := by
      cases k with
      | none => exact ⟨"NoneType", rfl, by decide⟩
      | some z => exact ⟨"str", rfl, by decide⟩
    obtain ⟨n, t1, t2⟩ := kk
    refine ⟨n, false, t1, t2, ?_⟩
    simp only [Bool.false_eq_true, if_false]
    unfold t_chain_of_3
    walk_at "x3"
    refine ⟨rfl, ks, rows, nodes, S, a, k, u, l1, rfl, rp, c1, hr, by omega, rfl, ks, rows, nodes, S, k, b, w, l2, rfl, rp, c2, hr, by omega, ?_⟩
    refine ⟨_, _, rfl, rfl, by rw [List.length_map, List.length_map, hsl]; omega, fin_now ?_⟩
    rw [← List.map_append]
    exact h
theorem plan_rows_tup {evs : List Str} {ties : List Tie} {lims : Lims} : ∀ r ∈ planRows evs ties lims, ∃ t, r.2 = .tup t := fun r hr => by
  unfold planRows at hr
  rcases List.mem_append.mp hr with hr | hr
  · rcases List.mem_append.mp hr with hr | hr
    · obtain ⟨p, _, rfl⟩ := List.mem_map.mp hr; exact ⟨_, rfl⟩
    · obtain ⟨p, _, rfl⟩ := List.mem_map.mp hr; exact ⟨_, rfl⟩
  · obtain ⟨p, _, rfl⟩ := List.mem_map.mp hr; exact ⟨_, rfl⟩
abbrev ChnT (evs : List Str) (ties : List Tie) (lims : Lims) (a b : Nd) (v : Int) (l : List RowT) : Prop := ChnP (planRows evs ties lims) (plNodes evs) (plT evs ties lims).S 10 a b v l
theorem plan_chn {evs : List Str} {ties : List Tie} {lims : Lims} (ok : PlOk evs ties lims) {a b : Nd} {v : Int} (ha : a ∈ plNodes evs) (hb : b ∈ plNodes evs) (h : (plT evs ties lims).L a b = some v) : ∃ l, ChnT evs ties lims a b v l := by
  have ev : ∀ e ∈ evs, some e ∈ plNodes evs := fun e he => List.mem_cons_of_mem _ (List.mem_map.mpr ⟨e, he, rfl⟩)
  have n0 : none ∈ plNodes evs := List.mem_cons_self
  have key : ∀ r ∈ planRows evs ties lims, 0 ≤ r.1.2.2 ∧ r.1.1 ∈ plNodes evs ∧ r.1.2.1 ∈ plNodes evs := fun r hr => by
    unfold planRows at hr
    rcases List.mem_append.mp hr with hr | hr
    · rcases List.mem_append.mp hr with hr | hr
      · obtain ⟨p, hp, rfl⟩ := List.mem_map.mp hr
        have hm : p.1 ∈ ties := by
          have := List.mem_zipIdx hp
          rw [this.2.2]; exact List.getElem_mem _
        exact ⟨ok.t.c _ hm, ev _ (ok.t.a _ hm), ev _ (ok.t.b _ hm)⟩
      · obtain ⟨p, hp, rfl⟩ := List.mem_map.mp hr
        exact ⟨ok.l.c _ hp, n0, ev _ (ok.l.a _ hp)⟩
    · obtain ⟨e, he, rfl⟩ := List.mem_map.mp hr
      exact ⟨Int.le_refl _, ev e he, n0⟩
  obtain ⟨l, c⟩ := fw_chn (ym := nodeD) (fun r hr => (key r hr).1) (fun r hr => (key r hr).2) ha hb h
  exact ⟨l, c.mono (by have := nodes_len ok.e; omega)⟩

end C1

namespace C1
open PySem PySem.Spec L2 L3 C2
local macro_rules | `(tactic| walk_at "l3") => `(tactic| simp only [sSeq, sNext, sIf, sRet, sRetN, sSet, sDrop, sSub, sFor, sAsg, sPar2, sPar3, sCont, sFld3, sFld2, sAug, vVar, vC, vNil, vCons, vOp, vB, vChain, vAnd, vOr, vNot, vAndV, vOrV, vNotV, vIf, vUn, vCB, vLst, vTup, vLstT, vCall, vCal, vMak, vMetA, vFld, vSl, vPart, vNoP, vLc, vLcT, vDc, vBM, vBM0, vGet1, vGet2, vItems, vRev, vLRg, vStar, vDZip, iRg1, iRg2, iRgD, iAny, iEnm, iItm, iVal, vDict0, vDict0T, vDict0N, vDisp, vDispT, vPairs,
  List.getElem?_cons_zero, List.getElem?_cons_succ, List.set_cons_zero, List.set_cons_succ, wipe3, endsOf_rt, endsOf_nx, gLt, gLe, gGt, gGe, L3.gSub, gMul, gMod, gDiv, gPow, g2I, g2I0, gN, gT, gGo, Option.bind_some, gAdd_ii, gAdd_ss, gNeg_i, gMax2_ii, gMin2_ii, gLen_s, gEqS_ii, gEqS_ss, gEqS_bb, gNeS_ii, gNeS_ss, gIsN_n, gNotN_n, gSl_s, isNonD, if_true, if_false, Bool.false_eq_true, Bool.not_true, Bool.not_false])
local macro_rules | `(tactic| walk_at "x3") => `(tactic| simp only [vCallX, vMetAX, vMakX, vCalX, sRaise, sSeq, sNext, sIf, sRet, sRetN, sSet, sDrop, sSub, sFor, sAsg, sPar2, sPar3, sCont, sFld3, sFld2, sAug, vVar, vC, vNil, vCons, vOp, vB, vChain, vAnd, vOr, vNot, vAndV, vOrV, vNotV, vIf, vUn, vCB, vLst, vTup, vLstT, vCall, vCal, vMak, vMetA, vFld, vSl, vPart, vNoP, vLc, vLcT, vDc, vBM, vBM0, vGet1, vGet2, vItems, vRev, vLRg, vStar, vDZip, iRg1, iRg2, iRgD, iAny, iEnm, iItm, iVal, vDict0, vDict0T, vDict0N, vDisp, vDispT, vPairs,
  List.getElem?_cons_zero, List.getElem?_cons_succ, List.set_cons_zero, List.set_cons_succ, wipe3, endsOf_rt, endsOf_nx, gLt, gLe, gGt, gGe, L3.gSub, gMul, gMod, gDiv, gPow, g2I, g2I0, gN, gT, gGo, Option.bind_some, gAdd_ii, gAdd_ss, gNeg_i, gMax2_ii, gMin2_ii, gLen_s, gEqS_ii, gEqS_ss, gEqS_bb, gNeS_ii, gNeS_ss, gIsN_n, gNotN_n, gSl_s, isNonD, if_true, if_false, Bool.false_eq_true, Bool.not_true, Bool.not_false])
def spx_Table_chain : Spx := fun ds μ R RX => ∃ x evs ties lims kl ks a b, ds = [x, a, b] ∧ insOf μ "Table" x = some (tabF evs kl ks) ∧ PlOk evs ties lims ∧ TabOk evs ties lims kl ks ∧ NmOk μ a ∧ NmOk μ b ∧
  Ev1 evs a μ RX fun s => Ev1 evs b μ RX fun t => match (plT evs ties lims).L (some s) (some t) with
    | none => R .non μ
    | some v => ∀ l, ChnT evs ties lims (some s) (some t) v l → R (.lst (l.map (·.2))) μ
theorem ev_node {evs : List Str} {e : Str} (h : e ∈ evs) : some e ∈ plNodes evs := List.mem_cons_of_mem _ (List.mem_map.mpr ⟨e, h, rfl⟩)
theorem ev1_mono {evs : List Str} {a : D} {μ : Mu} {RX RX' : XK3} {k k' : Str → Prop} (h : Ev1 evs a μ RX k) (h1 : RX "UnknownEvent" [("name", a)] μ → RX' "UnknownEvent" [("name", a)] μ) (h2 : ∀ s, a = .str s → s ∈ evs → k s → k' s) : Ev1 evs a μ RX' k' := by
  unfold Ev1 at h ⊢
  cases e : evOf evs a with
  | none => rw [e] at h; exact h1 h
  | some s => rw [e] at h; obtain ⟨r1, r2⟩ := evOf_some e; exact h2 s r1 r2 h
def tx_Table_chain_1 (rx : XR) : TS3 := (sRet (vIf (vB (vOp gIsN (vVar 3) (vC .non))) (vC .non) (vCall 3 (sp_chain_of 10) (vCons (vFld "Table" "steps" (vVar 0)) (vCons (vVar 1) (vCons (vVar 2) vNil))))))
def tx_Table_chain (rx : XR) : TS3 := sSeq (sSet 3 (vMetAX rx "Table" "lead" 2 spx_Table_lead (vVar 0) (vCons (vVar 1) (vCons (vVar 2) vNil)))) (tx_Table_chain_1 rx)
theorem purex_Table_chain (ds : List D) (μ : Mu) (R : DK) (RX : XK3) (hl : ds.length = 3) (h : spx_Table_chain ds μ R RX) : tx_Table_chain (fun m fs _ μ' => finX RX m fs μ') (endsOf R) (start3 ["self", "earlier", "later", "lead"] ds) μ := by
  obtain ⟨x, evs, ties, lims, kl, ks, a, b, rfl, hx, ok, tk, na, nb, h⟩ := h
  show tx_Table_chain (fun m fs _ μ' => finX RX m fs μ') (endsOf R) [some x, some a, some b, none] μ
  unfold tx_Table_chain
  walk_at "x3"
  refine ⟨tabF evs kl ks, hx, rfl, rfl, x, evs, ties, lims, kl, ks, a, b, rfl, hx, ok.e, tk, na, nb, ?_⟩
  refine ev1_mono h finX_now fun s ea hs h1 => ev1_mono h1 finX_now fun t eb ht h2 => ?_
  subst ea
  subst eb
  clear h h1
  have h := h2
  clear h2
  unfold tx_Table_chain_1
  walk_at "x3"
  cases hv : (plT evs ties lims).L (some s) (some t) with
  | none => rw [hv] at h; exact fin_now h
  | some v =>
    rw [hv] at h
    obtain ⟨l, c⟩ := plan_chn ok (ev_node hs) (ev_node ht) hv
    exact ⟨tabF evs kl ks, .dcn ks, hx, rfl, rfl, ks, planRows evs ties lims, plNodes evs, _, some s, some t, v, l, rfl, tk.s, c, plan_rows_tup, by decide, fin_now (h l c)⟩
def spx_Table_held : Spx := fun ds μ R RX => ∃ x evs ties lims kl ks a, ds = [x, a] ∧ insOf μ "Table" x = some (tabF evs kl ks) ∧ PlOk evs ties lims ∧ TabOk evs ties lims kl ks ∧ NmOk μ a ∧
  Ev1 evs a μ RX fun s => match (plT evs ties lims).L none (some s) with
    | none => R .non μ
    | some v => ∀ l, ChnT evs ties lims none (some s) v l → R (.lst (l.map (·.2))) μ
def tx_Table_held_1 (rx : XR) : TS3 := (sRet (vIf (vB (vOp gIsN (vVar 2) (vC .non))) (vC .non) (vCall 3 (sp_chain_of 10) (vCons (vFld "Table" "steps" (vVar 0)) (vCons (vC .non) (vCons (vVar 1) vNil))))))
def tx_Table_held (rx : XR) : TS3 := sSeq (sSet 2 (vMetAX rx "Table" "most" 1 spx_Table_most (vVar 0) (vCons (vVar 1) vNil))) (tx_Table_held_1 rx)
theorem purex_Table_held (ds : List D) (μ : Mu) (R : DK) (RX : XK3) (hl : ds.length = 2) (h : spx_Table_held ds μ R RX) : tx_Table_held (fun m fs _ μ' => finX RX m fs μ') (endsOf R) (start3 ["self", "event", "most"] ds) μ := by
  obtain ⟨x, evs, ties, lims, kl, ks, a, rfl, hx, ok, tk, na, h⟩ := h
  show tx_Table_held (fun m fs _ μ' => finX RX m fs μ') (endsOf R) [some x, some a, none] μ
  unfold tx_Table_held
  walk_at "x3"
  refine ⟨tabF evs kl ks, hx, rfl, rfl, x, evs, ties, lims, kl, ks, a, rfl, hx, ok.e, tk, na, ?_⟩
  refine ev1_mono h finX_now fun s ea hs h2 => ?_
  subst ea
  clear h
  have h := h2
  clear h2
  unfold tx_Table_held_1
  walk_at "x3"
  cases hv : (plT evs ties lims).L none (some s) with
  | none => rw [hv] at h; exact fin_now h
  | some v =>
    rw [hv] at h
    obtain ⟨l, c⟩ := plan_chn ok List.mem_cons_self (ev_node hs) hv
    exact ⟨tabF evs kl ks, .dcn ks, hx, rfl, rfl, ks, planRows evs ties lims, plNodes evs, _, none, some s, v, l, rfl, tk.s, c, plan_rows_tup, by decide, fin_now (h l c)⟩
/-- a count, or none -/
def cntI : D → Option Int
  | .int i => if 0 ≤ i then some i else none
  | _ => none
theorem cntI_some {d : D} {k : Int} (h : cntI d = some k) : d = .int k ∧ 0 ≤ k := by
  cases d with
  | int i =>
    simp only [cntI] at h
    split at h
    · cases h; exact ⟨rfl, by assumption⟩
    · cases h
  | _ => cases h
theorem cntI_none {d : D} (h : cntI d = none) : cntD d = false := by
  cases d with
  | int i =>
    simp only [cntI] at h
    split at h
    · cases h
    · exact decide_eq_false (by assumption)
  | _ => rfl
def spx_Table_least : Spx := fun ds μ R RX => ∃ (tr : Bool) (x : D) (evs : List Str) (ties : List Tie) (lims : Lims) (kl ks : List (LK × D)) (a k : D), ds = [x, a, k] ∧ insOf μ "Table" x = some (tabF evs kl ks) ∧ EvOk evs ∧ TabOk evs ties lims kl ks ∧ NmOk μ a ∧ (∃ n, tyD μ k = some n) ∧
  Ev1 evs a μ RX fun s => match cntI k with
    | none => RX "InvalidInteger" [("value", k)] μ
    | some n => if overM ((plT evs ties lims).L none (some s)) n then R .non μ else dOut tr (ctK evs (tLeast evs ties lims s n)) μ R
def tx_Table_least_3 (rx : XR) : TS3 := (sRet (vDc false true (iAny (vFld "Table" "row_of_events" (vVar 0))) (gN 4) vYes (vVar 4) (vCB gMax2 (vCons (vC (.int 0)) (vCons (vOp gSub (vVar 2) (vGet2 (vFld "Table" "leads" (vVar 0)) (vTup (vCons (vVar 4) (vCons (vVar 1) vNil))) (vVar 2))) vNil))) [4]))
def tx_Table_least_2 (rx : XR) : TS3 := sSeq (sIf (vAnd (vB (vOp gNotN (vVar 3) (vC .non))) (vB (vOp gGt (vVar 2) (vVar 3)))) (sRet (vC .non)) sNext) (tx_Table_least_3 rx)
def tx_Table_least_1 (rx : XR) : TS3 := sSeq (sIf (vNot (vB (vCall 1 sp_is_count (vCons (vVar 2) vNil)))) (sRaise rx "InvalidInteger" "value" (vVar 2)) sNext) (tx_Table_least_2 rx)
def tx_Table_least (rx : XR) : TS3 := sSeq (sSet 3 (vMetAX rx "Table" "most" 1 spx_Table_most (vVar 0) (vCons (vVar 1) vNil))) (tx_Table_least_1 rx)
theorem purex_Table_least (ds : List D) (μ : Mu) (R : DK) (RX : XK3) (hl : ds.length = 3) (h : spx_Table_least ds μ R RX) : tx_Table_least (fun m fs _ μ' => finX RX m fs μ') (endsOf R) (start3 ["self", "event", "count", "most", "other"] ds) μ := by
  obtain ⟨tr, x, evs, ties, lims, kl, ks, a, kd, rfl, hx, ok, tk, na, ⟨tn, hn⟩, h⟩ := h
  have hsl : sizeLine = 16777216 := by decide
  show tx_Table_least (fun m fs _ μ' => finX RX m fs μ') (endsOf R) [some x, some a, some kd, none, none] μ
  unfold tx_Table_least
  walk_at "x3"
  refine ⟨tabF evs kl ks, hx, rfl, rfl, x, evs, ties, lims, kl, ks, a, rfl, hx, ok, tk, na, ?_⟩
  refine ev1_mono h finX_now fun e ea he h2 => ?_
  subst ea
  clear h
  have h := h2
  clear h2
  unfold tx_Table_least_1
  walk_at "x3"
  refine ⟨rfl, kd, tn, rfl, hn, ?_⟩
  cases hk0 : cntI kd with
  | none =>
    rw [hk0] at h
    simp only [cntI_none hk0, Bool.not_false, if_true]
    exact finX_now h
  | some k =>
    rw [hk0] at h
    obtain ⟨rfl, hk⟩ := cntI_some hk0
    have hc : cntD (.int k) = true := decide_eq_true hk
    simp only [hc, Bool.not_true, Bool.false_eq_true, if_false]
    unfold tx_Table_least_2
    have rest : overM ((plT evs ties lims).L none (some e)) k = false → tx_Table_least_3 (fun m fs _ μ' => finX RX m fs μ') (endsOf R) [some x, some (.str e), some (.int k), some (optD ((plT evs ties lims).L none (some e))), none] μ := fun ho => by
      simp only [ho, Bool.false_eq_true, if_false] at h
      unfold tx_Table_least_3
      walk_at "x3"
      refine ⟨tabF evs kl ks, .lst (sds evs), hx, rfl, any_lst (xs := sds evs) rfl fun Pm hP => ?_⟩
      refine dc_cnt (hP μ rfl) (fun o => .int (tLeast evs ties lims e k o)) evs [] (by simpa using ok.nd) (by have := ok.le; simp; omega) (fun o ho' => ?_) ?_
      · refine ⟨_, rfl, fun R' h' => h', fun R' h' => ?_⟩
        walk_at "x3"
        refine ⟨tabF evs kl ks, .dcn kl, hx, rfl, rfl, by rw [hsl]; show 2 ≤ _; decide, .n kl, _, rfl, get_n tk.l (some o) (some e), ?_⟩
        unfold tLeast at h'
        cases hv : (plT evs ties lims).L (some o) (some e) with
        | none => rw [hv] at h'; exact h'
        | some v => rw [hv] at h'; exact h'
      · rw [List.nil_append]
        exact fin_dOut h
    walk_at "x3"
    cases hv : (plT evs ties lims).L none (some e) with
    | none =>
      rw [hv] at rest
      exact rest rfl
    | some m =>
      simp only [hv] at rest h
      show (if decide (m < k) = true then fin R .non μ else tx_Table_least_3 _ _ _ _)
      by_cases hlt : m < k
      · have h' : R .non μ := by simpa [overM, hlt] using h
        simp only [hlt, decide_true, if_true]
        exact fin_now h'
      · simp only [hlt, decide_false, Bool.false_eq_true, if_false]
        exact rest (decide_eq_false hlt)
def spx_Table_shown : Spx := fun ds μ R RX => ∃ (tr : Bool) (x : D) (evs : List Str) (ties : List Tie) (lims : Lims) (kl ks : List (LK × D)) (a b : D), ds = [x, a, b] ∧ insOf μ "Table" x = some (tabF evs kl ks) ∧ PlOk evs ties lims ∧ TabOk evs ties lims kl ks ∧ NmOk μ a ∧ NmOk μ b ∧
  Ev1 evs a μ RX fun s => Ev1 evs b μ RX fun t => match (plT evs ties lims).L (some s) (some t) with
    | none => R .non μ
    | some k => if overM ((plT evs ties lims).L none (some t)) k then R .non μ else dOut tr (ctK evs (tLeast evs ties lims t k)) μ R
theorem lead_pos {evs : List Str} {ties : List Tie} {lims : Lims} (ok : PlOk evs ties lims) {s t : Str} (hs : s ∈ evs) (ht : t ∈ evs) {k : Int} (h : (plT evs ties lims).L (some s) (some t) = some k) : 0 ≤ k := by
  obtain ⟨n, w⟩ := (plan_isD ok (ev_node hs) (ev_node ht)).sound k h
  refine w.pos fun r hr => ?_
  rw [mem_rows] at hr
  rcases hr with ⟨t, ht, rfl⟩ | ⟨p, hp, rfl⟩ | ⟨e, he, rfl⟩
  · exact ok.t.c t ht
  · exact ok.l.c p hp
  · exact Int.le_refl 0
def tx_Table_shown_1 (rx : XR) : TS3 := (sRet (vIf (vB (vOp gIsN (vVar 3) (vC .non))) (vC .non) (vMetAX rx "Table" "least" 2 spx_Table_least (vVar 0) (vCons (vVar 2) (vCons (vVar 3) vNil)))))
def tx_Table_shown (rx : XR) : TS3 := sSeq (sSet 3 (vMetAX rx "Table" "lead" 2 spx_Table_lead (vVar 0) (vCons (vVar 1) (vCons (vVar 2) vNil)))) (tx_Table_shown_1 rx)
theorem purex_Table_shown (ds : List D) (μ : Mu) (R : DK) (RX : XK3) (hl : ds.length = 3) (h : spx_Table_shown ds μ R RX) : tx_Table_shown (fun m fs _ μ' => finX RX m fs μ') (endsOf R) (start3 ["self", "earlier", "later", "lead"] ds) μ := by
  obtain ⟨tr, x, evs, ties, lims, kl, ks, a, b, rfl, hx, ok, tk, na, nb, h⟩ := h
  show tx_Table_shown (fun m fs _ μ' => finX RX m fs μ') (endsOf R) [some x, some a, some b, none] μ
  unfold tx_Table_shown
  walk_at "x3"
  refine ⟨tabF evs kl ks, hx, rfl, rfl, x, evs, ties, lims, kl, ks, a, b, rfl, hx, ok.e, tk, na, nb, ?_⟩
  refine ev1_mono h finX_now fun s ea hs h1 => ev1_mono h1 finX_now fun t eb ht h2 => ?_
  subst ea
  subst eb
  clear h h1
  have h := h2
  clear h2
  unfold tx_Table_shown_1
  walk_at "x3"
  cases hv : (plT evs ties lims).L (some s) (some t) with
  | none => rw [hv] at h; exact fin_now h
  | some k =>
    simp only [hv] at h
    refine ⟨tabF evs kl ks, hx, rfl, rfl, tr, x, evs, ties, lims, kl, ks, .str t, .int k, rfl, hx, ok.e, tk, nb, ⟨_, rfl⟩, ?_⟩
    unfold Ev1
    rw [evOf_in ht]
    simp only [cntI, lead_pos ok hs ht hv, if_true]
    split
    · rename_i q; rw [if_pos q] at h; exact fin_now h
    · rename_i q; rw [if_neg q] at h
      unfold dOut at h ⊢
      cases tr with
      | true => intro q hq; exact fin_now (h q hq)
      | false => exact fin_now h

end C1

namespace K33
open PySem PySem.Spec L2 L3 C1 C2 PyProof.Rows
local macro_rules | `(tactic| walk_at "l3") => `(tactic| simp only [sSeq, sNext, sIf, sRet, sRetN, sSet, sDrop, sSub, sFor, sAsg, sPar2, sPar3, sCont, sFld3, sFld2, sAug, vVar, vC, vNil, vCons, vOp, vB, vChain, vAnd, vOr, vNot, vAndV, vOrV, vNotV, vIf, vUn, vCB, vLst, vTup, vLstT, vCall, vCal, vMak, vMetA, vFld, vSl, vPart, vNoP, vLc, vLcT, vDc, vBM, vBM0, vGet1, vGet2, vItems, vRev, vLRg, vStar, vDZip, iRg1, iRg2, iRgD, iAny, iEnm, iItm, iVal, vDict0, vDict0T, vDict0N, vDisp, vDispT, vPairs,
  List.getElem?_cons_zero, List.getElem?_cons_succ, List.set_cons_zero, List.set_cons_succ, wipe3, endsOf_rt, endsOf_nx, gLt, gLe, gGt, gGe, L3.gSub, gMul, gMod, gDiv, gPow, g2I, g2I0, gN, gT, gGo, Option.bind_some, gAdd_ii, gAdd_ss, gNeg_i, gMax2_ii, gMin2_ii, gLen_s, gEqS_ii, gEqS_ss, gEqS_bb, gNeS_ii, gNeS_ss, gIsN_n, gNotN_n, gSl_s, isNonD, if_true, if_false, Bool.false_eq_true, Bool.not_true, Bool.not_false])
local macro_rules | `(tactic| walk_at "x3") => `(tactic| simp only [vCallX, vMetAX, vMakX, vCalX, sRaise, sSeq, sNext, sIf, sRet, sRetN, sSet, sDrop, sSub, sFor, sAsg, sPar2, sPar3, sCont, sFld3, sFld2, sAug, vVar, vC, vNil, vCons, vOp, vB, vChain, vAnd, vOr, vNot, vAndV, vOrV, vNotV, vIf, vUn, vCB, vLst, vTup, vLstT, vCall, vCal, vMak, vMetA, vFld, vSl, vPart, vNoP, vLc, vLcT, vDc, vBM, vBM0, vGet1, vGet2, vItems, vRev, vLRg, vStar, vDZip, iRg1, iRg2, iRgD, iAny, iEnm, iItm, iVal, vDict0, vDict0T, vDict0N, vDisp, vDispT, vPairs,
  List.getElem?_cons_zero, List.getElem?_cons_succ, List.set_cons_zero, List.set_cons_succ, wipe3, endsOf_rt, endsOf_nx, gLt, gLe, gGt, gGe, L3.gSub, gMul, gMod, gDiv, gPow, g2I, g2I0, gN, gT, gGo, Option.bind_some, gAdd_ii, gAdd_ss, gNeg_i, gMax2_ii, gMin2_ii, gLen_s, gEqS_ii, gEqS_ss, gEqS_bb, gNeS_ii, gNeS_ss, gIsN_n, gNotN_n, gSl_s, isNonD, if_true, if_false, Bool.false_eq_true, Bool.not_true, Bool.not_false])
def spg__law_plan : Sp3 := fun ds μ R => ∃ x marks y ties caps, ds = [x] ∧ seqOf μ x = some (modelL marks y (.dct (limK caps))) ∧ lstOf μ y = some (ties.map tieD) ∧ PlOk marks ties caps ∧ ∀ q, μ q = none → R (.ref q) (mset μ q (.ins "Plan" (planF marks ties (limsOf marks caps))))
def tg__law_plan : TS3 := (sRet (vMak "Plan" 2 1 [.pos 0, .pos 1, .pos 2, .kw 0] [] sp_Plan___init__ (vCons (vOp gAt (vVar 0) (vC (.int 0))) (vCons (vOp gAt (vVar 0) (vC (.int 1))) vNil)) (vCons (vOp gAt (vVar 0) (vC (.int 2))) vNil)))
theorem pureg__law_plan (ds : List D) (μ : Mu) (R : DK) (hl : ds.length = 1) (h : spg__law_plan ds μ R) : tg__law_plan (endsOf R) (start3 ["_law_model_here"] ds) μ := by
  obtain ⟨x, marks, y, ties, caps, rfl, hx, hy, ok, h⟩ := h
  show tg__law_plan (endsOf R) [some x] μ
  unfold tg__law_plan
  walk_at "l3"
  refine at_q hx (d := .lst (sds marks)) rfl (at_q hx (d := y) rfl (at_q hx (d := .dct (limK caps)) rfl ⟨rfl, rfl, fun q hq => ?_⟩))
  refine ⟨q, .lst (sds marks), marks, y, ties, some caps, rfl, mset_same, rfl, lst_new hy hq, ok, rfl, ?_⟩
  rw [mset_mset]
  exact fin_now (fin_now (h q hq))
/-! ### what is told -/
def toldL (k : Str) (d : D) : D := .lst [.str k, d]
def toldW (evs : List Str) (way : Str) (one other : D) : D := match evOf evs one with
  | none => toldL "event" one
  | some _ => if way = ("most" : Str) ∨ way = ("held" : Str) then toldL "told" .non else if way = ("least" : Str) then (match cntI other with
    | none => toldL "integer" other
    | some _ => toldL "told" .non) else match evOf evs other with
      | none => toldL "event" other
      | some _ => toldL "told" .non
def ways : List Str := ["lead", "chain", "shown", "least", "most", "held"]
def PlanIn (μ : Mu) (x : D) : Prop := ∃ evs ties lims, insOf μ "Plan" x = some (planF evs ties lims) ∧ PlOk evs ties lims
def sp__law_told : Sp3 := fun ds μ R => ∃ x evs ties lims kl ks way one other, ds = [x, .str way, one, other] ∧ insOf μ "Table" x = some (tabF evs kl ks) ∧ PlOk evs ties lims ∧ TabOk evs ties lims kl ks ∧
  ((way = ("table" : Str) ∧ ∃ y, ownD μ one = some y ∧ (∀ n, y = some n → n = "Plan" ∨ n ∈ [("Table" : Str)]) ∧ (y = some ("Plan" : Str) → PlanIn μ one) ∧ R (if y = some ("Plan" : Str) then toldL "told" .non else toldL "plan" one) μ) ∨
   (way ∈ ways ∧ NmOk μ one ∧ NmOk μ other ∧ R (toldW evs way one other) μ))
def t__law_told_1 : TS3 := (sRet (vLst (vCons (vC (.str "told")) (vCons (vC .non) vNil))))
def t__law_told : TS3 := sSeq (sTry (fun _ _ _ _ => False) (fun rx0 => (sSeq (sIf (vB (vOp gEqS (vVar 1) (vC (.str "table")))) (sDrop (vMakX rx0 "Table" 1 0 (allPos 2) [] spx_Table___init__ (vCons (vVar 2) vNil) vNil)) sNext) (sSeq (sIf (vB (vOp gEqS (vVar 1) (vC (.str "lead")))) (sDrop (vMetAX rx0 "Table" "lead" 2 spx_Table_lead (vVar 0) (vCons (vVar 2) (vCons (vVar 3) vNil)))) sNext) (sSeq (sIf (vB (vOp gEqS (vVar 1) (vC (.str "chain")))) (sDrop (vMetAX rx0 "Table" "chain" 2 spx_Table_chain (vVar 0) (vCons (vVar 2) (vCons (vVar 3) vNil)))) sNext) (sSeq (sIf (vB (vOp gEqS (vVar 1) (vC (.str "shown")))) (sDrop (vMetAX rx0 "Table" "shown" 2 spx_Table_shown (vVar 0) (vCons (vVar 2) (vCons (vVar 3) vNil)))) sNext) (sSeq (sIf (vB (vOp gEqS (vVar 1) (vC (.str "least")))) (sDrop (vMetAX rx0 "Table" "least" 2 spx_Table_least (vVar 0) (vCons (vVar 2) (vCons (vVar 3) vNil)))) sNext) (sSeq (sIf (vB (vOp gEqS (vVar 1) (vC (.str "most")))) (sDrop (vMetAX rx0 "Table" "most" 1 spx_Table_most (vVar 0) (vCons (vVar 2) vNil))) sNext) (sIf (vB (vOp gEqS (vVar 1) (vC (.str "held")))) (sDrop (vMetAX rx0 "Table" "held" 1 spx_Table_held (vVar 0) (vCons (vVar 2) vNil))) sNext)))))))) [(["InvalidPlan"], ["InvalidInteger", "UnknownEvent"], some 4, fun a n fs => (sRet (vLst (vCons (vC (.str "plan")) (vCons (vXf a fs "value" (vVar 4)) vNil))))), (["UnknownEvent"], ["InvalidInteger", "InvalidPlan"], some 4, fun a n fs => (sRet (vLst (vCons (vC (.str "event")) (vCons (vXf a fs "name" (vVar 4)) vNil))))), (["InvalidInteger"], ["InvalidPlan", "UnknownEvent"], some 4, fun a n fs => (sRet (vLst (vCons (vC (.str "integer")) (vCons (vXf a fs "value" (vVar 4)) vNil)))))]) t__law_told_1
theorem way_no {t : TS3} {Z : Ends3} {δ : St3} {μ : Mu} {way s : Str} (h : δ[1]? = some (some (.str way))) (ne : way ≠ s) (k : Z.nx δ μ) : sIf (vB (vOp gEqS (vVar 1) (vC (.str s)))) t sNext Z δ μ := by
  unfold sIf
  simp only [vB, vOp, vVar, h, vC, gEqS_ss, decide_eq_false ne, Bool.false_eq_true, if_false, sNext]
  exact k
theorem way_yes {t : TS3} {Z : Ends3} {δ : St3} {μ : Mu} {s : Str} (h : δ[1]? = some (some (.str s))) (k : t Z δ μ) : sIf (vB (vOp gEqS (vVar 1) (vC (.str s)))) t sNext Z δ μ := by
  unfold sIf
  simp only [vB, vOp, vVar, h, vC, gEqS_ss, decide_true, if_true]
  exact k
theorem seq_no {t u : TS3} {Z : Ends3} {δ : St3} {μ : Mu} {way s : Str} (h : δ[1]? = some (some (.str way))) (ne : way ≠ s) (k : u Z δ μ) : sSeq (sIf (vB (vOp gEqS (vVar 1) (vC (.str s)))) t sNext) u Z δ μ := way_no (Z := { Z with nx := u Z }) h ne k
theorem seq_yes {t u : TS3} {Z : Ends3} {δ : St3} {μ : Mu} {s : Str} (h : δ[1]? = some (some (.str s))) (k : t { Z with nx := u Z } δ μ) : sSeq (sIf (vB (vOp gEqS (vVar 1) (vC (.str s)))) t sNext) u Z δ μ := way_yes (Z := { Z with nx := u Z }) h k
theorem own_set {μ : Mu} {x : D} {y : Option Str} {q : Addr} {o : MO} (h : ownD μ x = some y) (hq : μ q = none) : ownD (mset μ q o) x = some y ∧ x ≠ .ref q := by
  cases x <;> try exact ⟨h, by simp⟩
  rename_i a
  have : a ≠ q := fun z => by subst z; simp only [ownD, hq] at h; cases h
  refine ⟨?_, fun z => this (by cases z; rfl)⟩
  simp only [ownD, mset_ne this] at h ⊢
  exact h
theorem pure__law_told (ds : List D) (μ : Mu) (R : DK) (hl : ds.length = 4) (h : sp__law_told ds μ R) : t__law_told (endsOf R) (start3 ["_law_table", "_law_way", "_law_one", "_law_other", "e"] ds) μ := by
  obtain ⟨x, evs, ties, lims, kl, ks, way, one, other, rfl, hx, ok, tk, h⟩ := h
  have hsl : sizeLine = 16777216 := by decide
  have z2 : ∀ x y : D, ([x, y] : List D).length ≤ sizeLine := fun x y => by rw [hsl]; show 2 ≤ _; decide
  show t__law_told (endsOf R) [some x, some (.str way), some one, some other, none] μ
  have told : ∀ μ', Le μ μ' → R (toldL "told" .non) μ → t__law_told_1 (endsOf R) [some x, some (.str way), some one, some other, none] μ' := fun μ' l q => by
    unfold t__law_told_1
    walk_at "x3"
    exact ⟨z2 _ _, fin_same l q⟩
  unfold t__law_told
  show sTry _ _ _ { endsOf R with nx := t__law_told_1 (endsOf R) } _ _
  unfold sTry
  generalize hZ : ({ nx := t__law_told_1 (endsOf R), rt := (endsOf R).rt, bk := (endsOf R).bk, ct := (endsOf R).ct } : Ends3) = Z
  have znx : Z.nx = t__law_told_1 (endsOf R) := by rw [← hZ]
  have zrt : ∀ d μ', R d μ → Le μ μ' → Z.rt d μ' := fun d μ' q l => by rw [← hZ]; exact fin_same l q
  generalize hrx : xHs _ Z _ = rx
  have xp : ∀ v μ', Le μ μ' → R (toldL "plan" v) μ → rx "InvalidPlan" [("value", v)] [some x, some (.str way), some one, some other, none] μ' := fun v μ' l q => by
    rw [← hrx]
    simp only [xHs]
    rw [if_pos (by decide)]
    intro a ha
    exact ⟨rfl, v, rfl, z2 _ _, zrt _ _ q l⟩
  have xe : ∀ v μ', Le μ μ' → R (toldL "event" v) μ → rx "UnknownEvent" [("name", v)] [some x, some (.str way), some one, some other, none] μ' := fun v μ' l q => by
    rw [← hrx]
    simp only [xHs]
    rw [if_neg (by decide)]
    refine ⟨by decide, ?_⟩
    rw [if_pos (by decide)]
    intro a ha
    exact ⟨rfl, v, rfl, z2 _ _, zrt _ _ q l⟩
  have xi : ∀ v μ', Le μ μ' → R (toldL "integer" v) μ → rx "InvalidInteger" [("value", v)] [some x, some (.str way), some one, some other, none] μ' := fun v μ' l q => by
    rw [← hrx]
    simp only [xHs]
    rw [if_neg (by decide)]
    refine ⟨by decide, ?_⟩
    rw [if_neg (by decide)]
    refine ⟨by decide, ?_⟩
    rw [if_pos (by decide)]
    intro a ha
    exact ⟨rfl, v, rfl, z2 _ _, zrt _ _ q l⟩
  rw [← znx] at told
  rcases h with ⟨rfl, y, hy, hn, hp, h⟩ | ⟨hw, na, nb, h⟩
  · refine seq_yes rfl ?_
    simp only [sDrop, vMetAX, vMakX, vCons, vVar, vNil, List.getElem?_cons_zero, List.getElem?_cons_succ]
    refine ⟨rfl, rfl, fun q hq => ?_⟩
    have lq := Le.mset_new (μ := μ) (q := q) (o := .ins "Table" []) hq
    obtain ⟨hy2, xq⟩ := own_set (o := .ins "Table" []) hy hq
    refine ⟨q, one, y, rfl, mset_same, hy2, hn, xq, fun e => ?_, fun e => ?_⟩
    · obtain ⟨evs', ties', lims', hp1, hp2⟩ := hp e
      refine ⟨evs', ties', lims', ins_set hp1 xq, hp2, fun kl' ks' tk' => ⟨rfl, ?_⟩⟩
      rw [mset_mset]
      rw [if_pos e] at h
      exact fin_obj (Le.mset_new hq) mset_same hq (seq_no rfl (by decide) (seq_no rfl (by decide) (seq_no rfl (by decide) (seq_no rfl (by decide) (seq_no rfl (by decide) (way_no rfl (by decide) (told μ (Le.refl μ) h)))))))
    · rw [if_neg e] at h
      exact xp one _ lq h
  · simp only [ways, List.mem_cons, List.not_mem_nil, or_false] at hw
    obtain ⟨tn, hn⟩ := nb.1
    rcases hw with rfl | rfl | rfl | rfl | rfl | rfl
    · refine seq_no rfl (by decide) (seq_yes rfl ?_)
      simp only [sDrop, vMetAX, vMakX, vCons, vVar, vNil, List.getElem?_cons_zero, List.getElem?_cons_succ]
      refine ⟨tabF evs kl ks, hx, rfl, rfl, x, evs, ties, lims, kl, ks, one, other, rfl, hx, ok.e, tk, na, nb, ?_⟩
      unfold toldW at h
      unfold Ev1
      cases e1 : evOf evs one with
      | none => simp only [e1] at h; exact xe one μ (Le.refl μ) h
      | some s =>
        simp only [e1] at h
        rw [if_neg (by decide), if_neg (by decide)] at h
        cases e2 : evOf evs other with
        | none => simp only [e2] at h; exact xe other μ (Le.refl μ) h
        | some t =>
          simp only [e2] at h
          exact (seq_no rfl (by decide) (seq_no rfl (by decide) (seq_no rfl (by decide) (seq_no rfl (by decide) (way_no rfl (by decide) (told μ (Le.refl μ) h))))))
    · refine seq_no rfl (by decide) (seq_no rfl (by decide) (seq_yes rfl ?_))
      simp only [sDrop, vMetAX, vMakX, vCons, vVar, vNil, List.getElem?_cons_zero, List.getElem?_cons_succ]
      refine ⟨tabF evs kl ks, hx, rfl, rfl, x, evs, ties, lims, kl, ks, one, other, rfl, hx, ok, tk, na, nb, ?_⟩
      unfold toldW at h
      unfold Ev1
      cases e1 : evOf evs one with
      | none => simp only [e1] at h; exact xe one μ (Le.refl μ) h
      | some s =>
        simp only [e1] at h
        rw [if_neg (by decide), if_neg (by decide)] at h
        cases e2 : evOf evs other with
        | none => simp only [e2] at h; exact xe other μ (Le.refl μ) h
        | some t =>
          simp only [e2] at h
          simp only
          split
          · exact (seq_no rfl (by decide) (seq_no rfl (by decide) (seq_no rfl (by decide) (way_no rfl (by decide) (told μ (Le.refl μ) h)))))
          · intro l c; exact (seq_no rfl (by decide) (seq_no rfl (by decide) (seq_no rfl (by decide) (way_no rfl (by decide) (told μ (Le.refl μ) h)))))
    · refine seq_no rfl (by decide) (seq_no rfl (by decide) (seq_no rfl (by decide) (seq_yes rfl ?_)))
      simp only [sDrop, vMetAX, vMakX, vCons, vVar, vNil, List.getElem?_cons_zero, List.getElem?_cons_succ]
      refine ⟨tabF evs kl ks, hx, rfl, rfl, true, x, evs, ties, lims, kl, ks, one, other, rfl, hx, ok, tk, na, nb, ?_⟩
      unfold toldW at h
      unfold Ev1
      cases e1 : evOf evs one with
      | none => simp only [e1] at h; exact xe one μ (Le.refl μ) h
      | some s =>
        simp only [e1] at h
        rw [if_neg (by decide), if_neg (by decide)] at h
        cases e2 : evOf evs other with
        | none => simp only [e2] at h; exact xe other μ (Le.refl μ) h
        | some t =>
          simp only [e2] at h
          simp only
          split
          · exact (seq_no rfl (by decide) (seq_no rfl (by decide) (way_no rfl (by decide) (told μ (Le.refl μ) h))))
          · split
            · exact (seq_no rfl (by decide) (seq_no rfl (by decide) (way_no rfl (by decide) (told μ (Le.refl μ) h))))
            · intro q hq; exact (seq_no rfl (by decide) (seq_no rfl (by decide) (way_no rfl (by decide) (told _ (Le.mset_new hq) h))))
    · refine seq_no rfl (by decide) (seq_no rfl (by decide) (seq_no rfl (by decide) (seq_no rfl (by decide) (seq_yes rfl ?_))))
      simp only [sDrop, vMetAX, vMakX, vCons, vVar, vNil, List.getElem?_cons_zero, List.getElem?_cons_succ]
      refine ⟨tabF evs kl ks, hx, rfl, rfl, true, x, evs, ties, lims, kl, ks, one, other, rfl, hx, ok.e, tk, na, ⟨tn, hn⟩, ?_⟩
      unfold toldW at h
      unfold Ev1
      cases e1 : evOf evs one with
      | none => simp only [e1] at h; exact xe one μ (Le.refl μ) h
      | some s =>
        simp only [e1] at h
        rw [if_neg (by decide), if_pos trivial] at h
        cases e2 : cntI other with
        | none => simp only [e2] at h; exact xi other μ (Le.refl μ) h
        | some t =>
          simp only [e2] at h
          simp only
          split
          · exact (seq_no rfl (by decide) (way_no rfl (by decide) (told μ (Le.refl μ) h)))
          · intro q hq; exact (seq_no rfl (by decide) (way_no rfl (by decide) (told _ (Le.mset_new hq) h)))
    · refine seq_no rfl (by decide) (seq_no rfl (by decide) (seq_no rfl (by decide) (seq_no rfl (by decide) (seq_no rfl (by decide) (seq_yes rfl ?_)))))
      simp only [sDrop, vMetAX, vMakX, vCons, vVar, vNil, List.getElem?_cons_zero, List.getElem?_cons_succ]
      refine ⟨tabF evs kl ks, hx, rfl, rfl, x, evs, ties, lims, kl, ks, one, rfl, hx, ok.e, tk, na, ?_⟩
      unfold toldW at h
      unfold Ev1
      cases e1 : evOf evs one with
      | none => simp only [e1] at h; exact xe one μ (Le.refl μ) h
      | some s =>
        simp only [e1] at h
        rw [if_pos (by decide)] at h
        exact (way_no rfl (by decide) (told μ (Le.refl μ) h))
    · refine seq_no rfl (by decide) (seq_no rfl (by decide) (seq_no rfl (by decide) (seq_no rfl (by decide) (seq_no rfl (by decide) (seq_no rfl (by decide) (way_yes rfl ?_))))))
      simp only [sDrop, vMetAX, vMakX, vCons, vVar, vNil, List.getElem?_cons_zero, List.getElem?_cons_succ]
      refine ⟨tabF evs kl ks, hx, rfl, rfl, x, evs, ties, lims, kl, ks, one, rfl, hx, ok, tk, na, ?_⟩
      unfold toldW at h
      unfold Ev1
      cases e1 : evOf evs one with
      | none => simp only [e1] at h; exact xe one μ (Le.refl μ) h
      | some s =>
        simp only [e1] at h
        rw [if_pos (by decide)] at h
        simp only
        split
        · exact (told μ (Le.refl μ) h)
        · intro l c; exact (told μ (Le.refl μ) h)
/-! ### the law -/
/-- [k, d] == [k, d] -/
def Tel (μ : Mu) (d : D) : Prop := ∀ k, ∃ n, n ≤ 60 ∧ Eqs μ n (toldL k d) (toldL k d) true
theorem tel_of {μ : Mu} {d : D} {n : Nat} (hn : n ≤ 50) (h : Eqs μ n d d true) : Tel μ d := fun k => by
  refine ⟨n + 1, by omega, Eqs.lst (μ := μ) (n := n) (x := toldL k d) (y := toldL k d) (xs := [.str k, d]) (ys := [.str k, d]) (e := fun _ => true) rfl rfl rfl fun j a b ha hb => ?_⟩
  match j, ha, hb with
  | 0, ha, hb =>
    cases ha
    cases hb
    have := Eqs.flat (μ := μ) (n := n) (x := .str k) (y := .str k) rfl rfl
    rw [eqD_self (x := .str k) rfl] at this
    exact this
  | 1, ha, hb => cases ha; cases hb; exact h
  | j + 2, ha, hb => cases ha
theorem eqs_flat1 {μ : Mu} {n : Nat} {d : D} (h : flatD d = true) : Eqs μ n d d true := by
  have := Eqs.flat (μ := μ) (n := n) h h
  rw [eqD_self h] at this
  exact this
theorem tel_flat {μ : Mu} {d : D} (h : flatD d = true) : Tel μ d := tel_of (n := 0) (by decide) (eqs_flat1 h)
theorem tel_ref {μ : Mu} {p : Addr} : Tel μ (.ref p) := fun k => by
  refine ⟨1, by decide, Eqs.lstR (μ := μ) (n := 0) (x := toldL k (.ref p)) (y := toldL k (.ref p)) (xs := [.str k, .ref p]) (ys := [.str k, .ref p]) (e := fun _ => true) (same := fun j => j == 1) rfl rfl rfl (fun j a b ha hb hj => ?_) fun j a b ha hb hj => ?_⟩
  · match j, ha, hb, hj with
    | 0, ha, hb, _ => cases ha; cases hb; exact eqs_flat1 rfl
    | 1, _, _, hj => cases hj
    | j + 2, ha, hb, _ => cases ha
  · obtain rfl : j = 1 := by simpa using hj
    cases ha
    cases hb
    exact ⟨⟨p, rfl, rfl⟩, rfl⟩
theorem tel_lref {μ : Mu} {p : Addr} : Tel μ (.lst [.ref p]) := tel_of (n := 1) (by decide) (by
  refine Eqs.lstR (μ := μ) (n := 0) (xs := [.ref p]) (ys := [.ref p]) (e := fun _ => true) (same := fun _ => true) rfl rfl rfl (fun j a b ha hb hj => by cases hj) fun j a b ha hb hj => ?_
  match j, ha, hb with
  | 0, ha, hb => cases ha; cases hb; exact ⟨⟨p, rfl, rfl⟩, rfl⟩
  | j + 1, ha, _ => cases ha)
theorem tel_flats {μ : Mu} {xs : List D} (h : xs.all flatD = true) : Tel μ (.lst xs) := tel_of (n := 1) (by decide) (by
  have := Eqs.lst (μ := μ) (n := 0) (x := .lst xs) (y := .lst xs) (xs := xs) (ys := xs) (e := fun _ => true) rfl rfl rfl (fun j a b ha hb => by
    rw [ha] at hb
    cases hb
    exact eqs_flat1 (List.all_eq_true.mp h _ (List.mem_of_getElem? ha)))
  have e : (List.range xs.length).all (fun _ => true) = true := by simp
  rw [e] at this
  exact this)
theorem tel_tup1 {μ : Mu} {z : Str} : Tel μ (.tup [.str z]) := tel_of (n := 1) (by decide) (by
  exact Eqs.tup (μ := μ) (n := 0) (xs := [.str z]) (ys := [.str z]) (e := fun _ => true) (fun j a b ha hb => by
    match j, ha, hb with
    | 0, ha, hb => cases ha; cases hb; exact eqs_flat1 rfl
    | j + 1, ha, _ => cases ha))
theorem tel_dct0 {μ : Mu} : Tel μ (.dct []) := tel_of (n := 1) (by decide) (Eqs.dct (μ := μ) (n := 0) (ks := []) (ls := []) (e := fun _ => true) rfl rfl fun k a b ha hb => by cases ha)
theorem ne_told {μ : Mu} {k : Str} {d : D} {R : DK} (t : Tel μ d) (h : R (.bl false) μ) : gNeX (toldL k d) (.lst [.str k, d]) μ R := by
  obtain ⟨n, hn, q⟩ := t k
  exact .inr ⟨n, true, hn, rfl, q, h⟩
structure BadOk (μ : Mu) (bad : D) : Prop where
  nm : NmOk μ bad
  tel : Tel μ bad
  kd : flatD bad = true ∨ (isBig μ bad ∧ ∀ z, bad ≠ .str z)
theorem in_bad {μ : Mu} {marks : List Str} {bad : D} {R : DK} (h : BadOk μ bad) (k1 : evOf marks bad = none → R (.bl false) μ) (k2 : R (.bl true) μ) : gInX false bad (.lst (sds marks)) μ R := by
  rcases h.kd with hf | ⟨hb, hs⟩
  · refine .inl (in_q rfl hf (sds_flat _) ?_)
    simp only [Bool.false_eq_true, if_false]
    cases e : inD bad (sds marks) with
    | true => exact k2
    | false =>
      refine k1 ?_
      cases q : evOf marks bad with
      | none => rfl
      | some z =>
        obtain ⟨rfl, hm⟩ := evOf_some q
        rw [in_sds, decide_eq_true hm] at e
        cases e
  · refine .inr ⟨marks, rfl, hb, k1 ?_⟩
    cases q : evOf marks bad with
    | none => rfl
    | some z => obtain ⟨rfl, _⟩ := evOf_some q; exact absurd rfl (hs z)
structure Ke (b s t : Addr) (pF tF : List (Str × D)) (μ : Mu) (n : Nat) : Prop where
  bx : Box μ b n
  hs : μ s = some (.ins "Plan" pF)
  ht : μ t = some (.ins "Table" tF)
  sb : s ≠ b
  tb : t ≠ b
theorem Ke.draw {b s t : Addr} {pF tF : List (Str × D)} {μ μ' : Mu} {n m : Nat} (h : Ke b s t pF tF μ n) (o : Onl b μ μ') (k : Box μ' b m) : Ke b s t pF tF μ' m := ⟨k, (o s h.sb).trans h.hs, (o t h.tb).trans h.ht, h.sb, h.tb⟩
theorem Ke.mono {b s t : Addr} {pF tF : List (Str × D)} {μ : Mu} {n m : Nat} (h : Ke b s t pF tF μ n) (l : n ≤ m) : Ke b s t pF tF μ m := ⟨h.bx.mono l, h.hs, h.ht, h.sb, h.tb⟩
theorem Ke.ins {b s t : Addr} {pF tF : List (Str × D)} {μ : Mu} {n : Nat} (h : Ke b s t pF tF μ n) : insOf μ "Table" (.ref t) = some tF := by simp only [insOf, h.ht, if_true]
theorem Ke.pin {b s t : Addr} {pF tF : List (Str × D)} {μ : Mu} {n : Nat} (h : Ke b s t pF tF μ n) : insOf μ "Plan" (.ref s) = some pF := by simp only [insOf, h.hs, if_true]
/-! ### worse ones -/
structure WorOk (marks : List Str) (good : Str) (worse : D) (p : PyData) : Prop where
  nm : ∀ μ, NmOk μ worse
  sh : ∀ μ, Sh μ worse p
  sm : Sm 1 8 p
  cnt : cntI worse = none
  eq : PyData.eqv p (.str good) = (evOf marks worse).isSome
theorem asc3 : asc "3" := by unfold asc; decide
theorem asc_ev : asc "event" := by unfold asc; decide
theorem asc_it : asc "integer" := by unfold asc; decide
theorem asc_td : asc "told" := by unfold asc; decide
theorem evOf_nostr {evs : List Str} {d : D} (h : ∀ z, d ≠ .str z) : evOf evs d = none := by
  cases q : evOf evs d with
  | none => rfl
  | some z => obtain ⟨rfl, _⟩ := evOf_some q; exact absurd rfl (h z)
theorem wor_ok {marks : List Str} {good : Str} {worse : D} (ok : EvOk marks) (hg : good ∈ marks) (h : worse ∈ [D.non, .int (-1), .bl true, .str "3", .lst [], .str good]) : ∃ p, WorOk marks good worse p := by
  have no3 : ("3" : Str) ∉ marks := fun q => by
    have := ok.nm _ q
    revert this
    decide
  simp only [List.mem_cons, List.not_mem_nil, or_false] at h
  rcases h with rfl | rfl | rfl | rfl | rfl | rfl
  · exact ⟨_, fun _ => ⟨⟨_, rfl⟩, fun z e => by cases e⟩, fun _ => .non, Sm.none, rfl, by rw [evOf_nostr fun z e => by cases e]; rfl⟩
  · exact ⟨_, fun _ => ⟨⟨_, rfl⟩, fun z e => by cases e⟩, fun _ => .int _, Sm.int (by decide), rfl, by rw [evOf_nostr fun z e => by cases e]; rfl⟩
  · exact ⟨_, fun _ => ⟨⟨_, rfl⟩, fun z e => by cases e⟩, fun _ => .bl _, Sm.bool _, rfl, by rw [evOf_nostr fun z e => by cases e]; rfl⟩
  · refine ⟨_, fun _ => ⟨⟨_, rfl⟩, fun z e => by cases e; decide⟩, fun _ => .str _, Sm.str asc3 (by decide), rfl, ?_⟩
    rw [evOf_out no3]
    show (("3" : Str) == good) = false
    rw [beq_eq_false_iff_ne]
    exact fun q => no3 (q ▸ hg)
  · exact ⟨_, fun _ => ⟨⟨_, rfl⟩, fun z e => by cases e⟩, fun _ => .lst .nil, ⟨rfl, rfl, rfl, by decide, by decide⟩, rfl, by rw [evOf_nostr fun z e => by cases e]; rfl⟩
  · refine ⟨_, fun _ => ⟨⟨_, rfl⟩, fun z e => by cases e; have := nameT_len (ok.nm _ hg); omega⟩, fun _ => .str _, Sm.str (nameT_asc (ok.nm _ hg)) (nameT_len (ok.nm _ hg)), rfl, ?_⟩
    rw [evOf_in hg]
    show (good == good) = true
    simp
def tailT : TS3 := (sSeq (sIf (vB (vOp gNeS (vCB gRepr (vCons (vCall 4 sp__law_told (vCons (vVar 6) (vCons (vVar 11) (vCons (vVar 9) (vCons (vVar 12) vNil))))) vNil)) (vCB gRepr (vCons (vVar 13) vNil)))) (sRet (vC (.bl false))) sNext) (sIf (vAnd (vB (vOp (gIn false) (vVar 11) (vTup (vCons (vC (.str "lead")) (vCons (vC (.str "chain")) (vCons (vC (.str "shown")) vNil)))))) (vB (vOp gNeX (vCall 4 sp__law_told (vCons (vVar 6) (vCons (vVar 11) (vCons (vVar 9) (vCons (vVar 10) vNil))))) (vLst (vCons (vC (.str "event")) (vCons (vVar 10) vNil)))))) (sRet (vC (.bl false))) sNext))
theorem tail_ok {Z : Ends3} {μ : Mu} {b s t : Addr} {pF : List (Str × D)} {marks : List Str} {ties : List Tie} {lims : Lims} {kl ks : List (LK × D)} {n : Nat} {way good : Str} {bad worse due : D} {p : PyData} {x0 x1 x2 x3 x4 x5 x7 x8 : Option D} (ke : Ke b s t pF (tabF marks kl ks) μ n) (okL : PlOk marks ties lims) (tk : TabOk marks ties lims kl ks)
    (hw : way ∈ ways) (hg : good ∈ marks) (bd : BadOk μ bad) (ev : evOf marks bad = none) (nw : NmOk μ worse) (hd : toldW marks way (.str good) worse = due) (hp : Sh μ due p) (sp : ShowOk p)
    (k : Z.nx [x0, x1, x2, x3, x4, x5, some (.ref t), x7, x8, some (.str good), some bad, some (.str way), some worse, some due] μ) : tailT Z [x0, x1, x2, x3, x4, x5, some (.ref t), x7, x8, some (.str good), some bad, some (.str way), some worse, some due] μ := by
  have hsl : sizeLine = 16777216 := by decide
  have ng : NmOk μ (.str good) := ⟨⟨_, rfl⟩, fun z e => by cases e; have := nameT_len (okL.e.nm _ hg); omega⟩
  unfold tailT
  walk_at "x3"
  refine ⟨rfl, .ref t, marks, ties, lims, kl, ks, way, .str good, worse, rfl, ke.ins, okL, tk, .inr ⟨hw, ng, nw, ?_⟩⟩
  rw [hd]
  refine ⟨due, p, rfl, hp, sp, due, p, rfl, hp, sp, ?_⟩
  simp only [gNeS_ss, decide_true, Bool.not_true, Bool.false_eq_true, if_false]
  refine ⟨by rw [hsl]; show 3 ≤ _; decide, in_q (xs := [.str "lead", .str "chain", .str "shown"]) rfl rfl rfl ?_⟩
  have yes : toldW marks way (.str good) bad = toldL "event" bad → ([D.ref t, D.str way, D.str good, bad].length = 4 ∧ sp__law_told [D.ref t, D.str way, D.str good, bad] μ fun x μ1 => [D.str "event", bad].length ≤ sizeLine ∧ gNeX x (D.lst [D.str "event", bad]) μ1 fun d μ1 => match d with
      | D.bl c => if c = true then Z.rt (D.bl false) μ1 else Z.nx [x0, x1, x2, x3, x4, x5, some (.ref t), x7, x8, some (.str good), some bad, some (.str way), some worse, some due] μ1
      | _ => False) := fun e => by
    refine ⟨rfl, .ref t, marks, ties, lims, kl, ks, way, .str good, bad, rfl, ke.ins, okL, tk, .inr ⟨hw, ng, bd.nm, ?_⟩⟩
    rw [e]
    refine ⟨by rw [hsl]; show 2 ≤ _; decide, ne_told bd.tel ?_⟩
    simp only [Bool.false_eq_true, if_false]
    exact k
  have tw : way ≠ "most" → way ≠ "held" → way ≠ "least" → toldW marks way (.str good) bad = toldL "event" bad := fun h1 h2 h3 => by
    unfold toldW
    rw [evOf_in hg]
    simp only [h1, h2, h3, or_self, if_false, ev]
  simp only [ways, List.mem_cons, List.not_mem_nil, or_false] at hw
  rcases hw with rfl | rfl | rfl | rfl | rfl | rfl
  · exact yes (tw (by decide) (by decide) (by decide))
  · exact yes (tw (by decide) (by decide) (by decide))
  · exact yes (tw (by decide) (by decide) (by decide))
  · exact k
  · exact k
  · exact k
theorem plL {marks : List Str} {ties : List Tie} {caps : Lims} (ok : PlOk marks ties caps) : PlOk marks ties (limsOf marks caps) := ⟨ok.e, ok.t, limsOf_ok ok.e ok.l, ok.r⟩
def sp_law : Sp3 := fun ds μ R => ∃ ns : List Int, ds = [.scr (ns.map D.int)] ∧ ns.length ≤ 63 ∧ ∀ μ', R (.bl true) μ'
def t_law_1 : TS3 := (sRet (vC (.bl true)))
def t_law : TS3 := sSeq (sFor (iRg1 (vCons (vCB gMax2 (vCons (vC (.int 2)) (vCons (vCB gMin2 (vCons (vC (.int 12)) (vCons (vCB gLen (vCons (vVar 0) vNil)) vNil))) vNil))) vNil)) (gN 1) (sSeq (sSet 2 (vCall 1 sp__law_box (vCons (vCall 2 sp__law_cell (vCons (vVar 0) (vCons (vVar 1) vNil))) vNil))) (sSeq (sSet 3 (vCall 3 sp__law_model (vCons (vVar 2) (vCons (vOp gAdd (vC (.int 1)) (vCall 2 sp__law_take (vCons (vVar 2) (vCons (vC (.int 5)) vNil)))) (vCons (vC (.int 6)) vNil))))) (sSeq (sPar2 4 5 (vCons (vCall 1 spg__law_plan (vCons (vVar 3) vNil)) (vCons (vOp gAt (vVar 3) (vC (.int 0))) vNil))) (sSeq (sSet 6 (vMak "Table" 1 0 (allPos 2) [] (Spx.calm spx_Table___init__) (vCons (vVar 4) vNil) vNil)) (sSeq (sSet 7 (vOp gAt (vLst (vCons (vC .non) (vCons (vC (.int 5)) (vCons (vC (.str "events a")) (vCons (vLst vNil) (vCons (vVar 6) (vCons vDict0 (vCons (vC (.bl true)) (vCons (vLst (vCons (vVar 4) vNil)) vNil))))))))) (vCall 2 sp__law_take (vCons (vVar 2) (vCons (vC (.int 8)) vNil))))) (sSeq (sIf (vB (vOp gNeX (vCall 4 sp__law_told (vCons (vVar 6) (vCons (vC (.str "table")) (vCons (vVar 7) (vCons (vC .non) vNil))))) (vLst (vCons (vC (.str "plan")) (vCons (vVar 7) vNil))))) (sRet (vC (.bl false))) sNext) (sSeq (sIf (vB (vOp gNeX (vCall 4 sp__law_told (vCons (vVar 6) (vCons (vC (.str "table")) (vCons (vVar 4) (vCons (vC .non) vNil))))) (vLst (vCons (vC (.str "told")) (vCons (vC .non) vNil))))) (sRet (vC (.bl false))) sNext) (sFor (iRg1 (vCons (vC (.int 4)) vNil)) (gN 8) (sSeq (sSet 9 (vOp gAt (vVar 5) (vCall 2 sp__law_take (vCons (vVar 2) (vCons (vCB gLen (vCons (vVar 5) vNil)) vNil))))) (sSeq (sSet 10 (vOp gAt (vLst (vCons (vC .non) (vCons (vC (.int 5)) (vCons (vC (.str "")) (vCons (vC (.str "A")) (vCons (vC (.str "zzzzzzzz")) (vCons (vLst vNil) (vCons (vTup (vCons (vC (.str "a")) vNil)) (vCons vDict0 (vCons (vCB gList (vCons (vVar 5) vNil)) (vCons (vC (.bl true)) vNil))))))))))) (vCall 2 sp__law_take (vCons (vVar 2) (vCons (vC (.int 10)) vNil))))) (sSeq (sIf (vB (vOp (gInX false) (vVar 10) (vVar 5))) sCont sNext) (sFor (iAny (vLst (vCons (vC (.str "lead")) (vCons (vC (.str "chain")) (vCons (vC (.str "shown")) (vCons (vC (.str "least")) (vCons (vC (.str "most")) (vCons (vC (.str "held")) vNil)))))))) (gN 11) (sSeq (sSet 12 (vOp gAt (vLst (vCons (vC .non) (vCons (vUn gNeg (vC (.int 1))) (vCons (vC (.bl true)) (vCons (vC (.str "3")) (vCons (vLst vNil) (vCons (vVar 9) vNil))))))) (vCall 2 sp__law_take (vCons (vVar 2) (vCons (vC (.int 6)) vNil))))) (sSeq (sIf (vB (vOp gNeX (vCall 4 sp__law_told (vCons (vVar 6) (vCons (vVar 11) (vCons (vVar 10) (vCons (vVar 12) vNil))))) (vLst (vCons (vC (.str "event")) (vCons (vVar 10) vNil))))) (sRet (vC (.bl false))) sNext) (sSeq (sSet 13 (vIf (vB (vOp gEqS (vVar 11) (vC (.str "least")))) (vLst (vCons (vC (.str "integer")) (vCons (vVar 12) vNil))) (vLst (vCons (vC (.str "event")) (vCons (vVar 12) vNil))))) (sSeq (sIf (vOr (vB (vOp (gIn false) (vVar 11) (vTup (vCons (vC (.str "most")) (vCons (vC (.str "held")) vNil))))) (vAnd (vB (vOp gEqD (vVar 12) (vVar 9))) (vB (vOp gNeS (vVar 11) (vC (.str "least")))))) (sSet 13 (vLst (vCons (vC (.str "told")) (vCons (vC .non) vNil)))) sNext) (sSeq (sIf (vB (vOp gNeS (vCB gRepr (vCons (vCall 4 sp__law_told (vCons (vVar 6) (vCons (vVar 11) (vCons (vVar 9) (vCons (vVar 12) vNil))))) vNil)) (vCB gRepr (vCons (vVar 13) vNil)))) (sRet (vC (.bl false))) sNext) (sIf (vAnd (vB (vOp (gIn false) (vVar 11) (vTup (vCons (vC (.str "lead")) (vCons (vC (.str "chain")) (vCons (vC (.str "shown")) vNil)))))) (vB (vOp gNeX (vCall 4 sp__law_told (vCons (vVar 6) (vCons (vVar 11) (vCons (vVar 9) (vCons (vVar 10) vNil))))) (vLst (vCons (vC (.str "event")) (vCons (vVar 10) vNil)))))) (sRet (vC (.bl false))) sNext))))))))))))))))))) t_law_1
theorem pure_law (ds : List D) (μ : Mu) (R : DK) (hl : ds.length = 1) (h : sp_law ds μ R) : t_law (endsOf R) (start3 ["_law_script", "_law_k", "_law_box_here", "_law_model_here", "_law_sheet", "_law_marks", "_law_table", "_law_odd", "_law_turn", "_law_good", "_law_bad", "_law_way", "_law_worse", "_law_due"] ds) μ := by
  obtain ⟨ns, rfl, hn, h⟩ := h
  have hsl : sizeLine = 16777216 := by decide
  have z2 : ∀ x y : D, ([x, y] : List D).length ≤ sizeLine := fun x y => by rw [hsl]; show 2 ≤ _; decide
  show t_law (endsOf R) [some (.scr (ns.map D.int)), none, none, none, none, none, none, none, none, none, none, none, none, none] μ
  unfold t_law
  walk_at "x3"
  refine gLen_of rfl ?_
  walk_at "x3"
  generalize hq : (max 2 (min 12 ((ns.map D.int).length : Int))) = q
  have hq2 : 0 ≤ q ∧ q ≤ 12 := by omega
  refine ⟨by omega, by omega, ?_⟩
  refine for_rg (fun k δ μ' => ∃ y1 y2 y3 y4 y5 y6 y7 y8 y9 y10 y11 y12 y13, δ = [some (.scr (ns.map D.int)), y1, y2, y3, y4, y5, y6, y7, y8, y9, y10, y11, y12, y13]) ⟨none, none, none, none, none, none, none, none, none, none, none, none, none, rfl⟩ ?_ ?_
  · rintro δ μ' ⟨y1, y2, y3, y4, y5, y6, y7, y8, y9, y10, y11, y12, y13, rfl⟩
    unfold t_law_1
    walk_at "x3"
    exact fin_now (h _)
  · rintro k δ μ' hk ⟨y1, y2, y3, y4, y5, y6, y7, y8, y9, y10, y11, y12, y13, rfl⟩ N hN
    walk_at "x3"
    refine ⟨rfl, ns, k, by simp, by omega, fun z => ⟨rfl, z, rfl, fun b μ1 hb o1 b1 => ?_⟩⟩
    refine ⟨rfl, b, _, 0, rfl, b1, by decide, by decide, by decide, fun r μ2 r0 r1 o2 b2 => ⟨rfl, false, b, _, 1 + r, 6, rfl, b2, by decide, by omega, by omega, by decide, by decide, fun marks ties caps md hm ht => ?_⟩⟩
    rw [if_neg Bool.false_ne_true]
    intro μ3 o3 b3
    have ok := md.p
    have l1 := ok.e.le
    have l0 := ok.e.pos
    have okL := plL ok
    refine ⟨rfl, mdD marks ties caps, marks, _, ties, caps, rfl, rfl, rfl, ok, fun s hs => ?_⟩
    refine at_l (xs := modelL marks _ _) (d := .lst (sds marks)) rfl ?_
    have sb : s ≠ b := fun z => by
      obtain ⟨c0, c1, c2, e, _⟩ := b3
      rw [z, e] at hs; cases hs
    refine ⟨rfl, rfl, fun t ht0 => ?_⟩
    have ts : t ≠ s := fun z => by rw [z, mset_same] at ht0; cases ht0
    have tb : t ≠ b := fun z => by
      obtain ⟨c0, c1, c2, e, _⟩ := b3
      rw [z, mset_ne (Ne.symm sb), e] at ht0; cases ht0
    have hs4 : (mset (mset μ3 s (.ins "Plan" (planF marks ties (limsOf marks caps)))) t (.ins "Table" [])) s = some (.ins "Plan" (planF marks ties (limsOf marks caps))) := by rw [mset_ne (Ne.symm ts), mset_same]
    refine ⟨t, .ref s, some "Plan", rfl, mset_same, by simp only [ownD, hs4], (fun n e => .inl (by cases e; rfl)), (fun z => ts (by cases z; rfl)), fun _ => ⟨marks, ties, limsOf marks caps, by simp only [insOf, hs4, if_true], okL, fun kl ks tk => ⟨rfl, ?_⟩⟩, fun e => absurd rfl e⟩
    rw [mset_mset]
    refine fin_now ?_
    generalize hμ : mset (mset μ3 s (.ins "Plan" (planF marks ties (limsOf marks caps)))) t (.ins "Table" (tabF marks kl ks)) = μ4
    have ke : Ke b s t (planF marks ties (limsOf marks caps)) (tabF marks kl ks) μ4 2000 := by
      rw [← hμ]
      exact ⟨((b3.mono (by omega)).put sb).put tb, by rw [mset_ne (Ne.symm ts), mset_same], mset_same, sb, tb⟩
    clear hμ hs4 ht0 hs
    have lz : ∀ {n : Nat}, n ≤ 100 → n ≤ sizeLine := fun hn => by rw [hsl]; omega
    refine ⟨Nat.zero_le _, lz (show 1 ≤ 100 by decide), lz (show 8 ≤ 100 by decide), rfl, b, 8, _, rfl, ke.bx, by decide, by decide, by decide, fun r8 μ5 q0 q1 o5 b5 => ?_⟩
    have ke5 := ke.draw o5 b5
    obtain ⟨odd, hodd, eodd, _⟩ := pick (xs := [D.non, .int 5, .str "events a", .lst [], .ref t, .dct [], .bl true, .lst [.ref s]]) q0 q1
    have OD : (∃ y, ownD μ5 odd = some y ∧ (∀ n, y = some n → n = "Plan" ∨ n ∈ [("Table" : Str)]) ∧ y ≠ some ("Plan" : Str)) ∧ Tel μ5 odd := by
      simp only [List.mem_cons, List.not_mem_nil, or_false] at hodd
      rcases hodd with rfl | rfl | rfl | rfl | rfl | rfl | rfl | rfl
      · exact ⟨⟨none, rfl, by simp, by simp⟩, tel_flat rfl⟩
      · exact ⟨⟨none, rfl, by simp, by simp⟩, tel_flat rfl⟩
      · exact ⟨⟨none, rfl, by simp, by simp⟩, tel_flat rfl⟩
      · exact ⟨⟨none, rfl, by simp, by simp⟩, tel_flats rfl⟩
      · exact ⟨⟨some "Table", by simp only [ownD, ke5.ht], fun n e => .inr (by cases e; exact List.mem_cons_self), by decide⟩, tel_ref⟩
      · exact ⟨⟨none, rfl, by simp, by simp⟩, tel_dct0⟩
      · exact ⟨⟨none, rfl, by simp, by simp⟩, tel_flat rfl⟩
      · exact ⟨⟨none, rfl, by simp, by simp⟩, tel_lref⟩
    obtain ⟨⟨y, hy1, hy2, hy3⟩, tel0⟩ := OD
    refine at_l eodd ⟨rfl, .ref t, marks, ties, limsOf marks caps, kl, ks, "table", odd, .non, rfl, ke5.ins, okL, tk, .inl ⟨rfl, y, hy1, hy2, fun e => absurd e hy3, ?_⟩⟩
    rw [if_neg hy3]
    refine ⟨z2 _ _, ne_told tel0 ?_⟩
    simp only [Bool.false_eq_true, if_false]
    refine ⟨rfl, .ref t, marks, ties, limsOf marks caps, kl, ks, "table", .ref s, .non, rfl, ke5.ins, okL, tk, .inl ⟨rfl, some "Plan", by simp only [ownD, ke5.hs], (fun n e => .inl (by cases e; rfl)), fun _ => ⟨marks, ties, limsOf marks caps, ke5.pin, okL⟩, ?_⟩⟩
    rw [if_pos rfl]
    refine ⟨z2 _ _, ne_told (tel_flat rfl) ?_⟩
    simp only [Bool.false_eq_true, if_false]
    refine ⟨by decide, by decide, ?_⟩
    have eM : D.lst (modelL marks (D.lst (List.map tieD ties)) (D.dct (limK caps))) = mdD marks ties caps := rfl
    rw [eM]
    generalize hM : mdD marks ties caps = M
    have hsm : (sds marks).length = marks.length := by simp [sds]
    refine for_rg (fun j δ μ' => Ke b s t (planF marks ties (limsOf marks caps)) (tabF marks kl ks) μ' (3000 + 8 * j) ∧ ∃ y8 y9 y10 y11 y12 y13, δ = [some (.scr (ns.map D.int)), some (.int (0 + (k : Nat))), some (.ref b), some M, some (.ref s), some (.lst (sds marks)), some (.ref t), some odd, y8, y9, y10, y11, y12, y13]) ⟨ke5.mono (by omega), y8, y9, y10, y11, y12, y13, rfl⟩ ?_ ?_
    · rintro δ μ6 ⟨ke6, y8, y9, y10, y11, y12, y13, rfl⟩
      exact hN _ _ ⟨_, _, _, _, _, _, _, _, _, _, _, _, _, rfl⟩
    · rintro j δ μ6 hj ⟨ke6, y8, y9, y10, y11, y12, y13, rfl⟩ N2 hN2
      have hj4 : j < 4 := hj
      walk_at "x3"
      refine gLen_of (xs := sds marks) rfl ?_
      rw [hsm]
      refine ⟨rfl, b, _, _, rfl, ke6.bx, by omega, by omega, by omega, fun rg μ7 g0 g1 o7 b7 => ?_⟩
      have ke7 := ke6.draw o7 b7
      obtain ⟨dg, hdg, edg, _⟩ := pick (xs := sds marks) g0 (by rw [hsm]; exact g1)
      obtain ⟨good, hgood, rfl⟩ := List.mem_map.mp hdg
      refine at_l edg ?_
      refine ⟨Nat.zero_le _, lz (show 1 ≤ 100 by decide), _, _, rfl, rfl, lz (show 10 ≤ 100 by decide), rfl, b, 10, _, rfl, ke7.bx, by omega, by decide, by decide, fun rb μ8 h0 h1 o8 b8 => ?_⟩
      have ke8 := ke7.draw o8 b8
      obtain ⟨bad, hbad, ebad, _⟩ := pick (xs := [D.non, .int 5, .str "", .str "A", .str "zzzzzzzz", .lst [], .tup [.str "a"], .dct [], .lst (sds marks), .bl true]) h0 h1
      have BD : ∀ μ', BadOk μ' bad := fun μ' => by
        simp only [List.mem_cons, List.not_mem_nil, or_false] at hbad
        rcases hbad with rfl | rfl | rfl | rfl | rfl | rfl | rfl | rfl | rfl | rfl
        · exact ⟨⟨⟨_, rfl⟩, fun z e => by cases e⟩, tel_flat rfl, .inl rfl⟩
        · exact ⟨⟨⟨_, rfl⟩, fun z e => by cases e⟩, tel_flat rfl, .inl rfl⟩
        · exact ⟨⟨⟨_, rfl⟩, fun z e => by cases e; decide⟩, tel_flat rfl, .inl rfl⟩
        · exact ⟨⟨⟨_, rfl⟩, fun z e => by cases e; decide⟩, tel_flat rfl, .inl rfl⟩
        · exact ⟨⟨⟨_, rfl⟩, fun z e => by cases e; decide⟩, tel_flat rfl, .inl rfl⟩
        · exact ⟨⟨⟨_, rfl⟩, fun z e => by cases e⟩, tel_flats rfl, .inr ⟨.inl ⟨_, rfl⟩, fun z e => by cases e⟩⟩
        · exact ⟨⟨⟨_, rfl⟩, fun z e => by cases e⟩, tel_tup1, .inr ⟨.inr (.inl ⟨_, rfl⟩), fun z e => by cases e⟩⟩
        · exact ⟨⟨⟨_, rfl⟩, fun z e => by cases e⟩, tel_dct0, .inr ⟨.inr (.inr ⟨_, rfl⟩), fun z e => by cases e⟩⟩
        · exact ⟨⟨⟨_, rfl⟩, fun z e => by cases e⟩, tel_flats (sds_flat _), .inr ⟨.inl ⟨_, rfl⟩, fun z e => by cases e⟩⟩
        · exact ⟨⟨⟨_, rfl⟩, fun z e => by cases e⟩, tel_flat rfl, .inl rfl⟩
      refine at_l ebad (in_bad (BD _) (fun ev => ?_) ?_)
      · simp only [Bool.false_eq_true, if_false]
        refine ⟨lz (show 6 ≤ 100 by decide), any_lst (xs := sds ways) rfl fun Pm hP => ?_⟩
        refine for_ix (sds ways) (fun i δ μ' => Ke b s t (planF marks ties (limsOf marks caps)) (tabF marks kl ks) μ' (3000 + 8 * j + 2 + i) ∧ ∃ y11 y12 y13, δ = [some (.scr (ns.map D.int)), some (.int (0 + (k : Nat))), some (.ref b), some M, some (.ref s), some (.lst (sds marks)), some (.ref t), some odd, some (.int (0 + (j : Nat))), some (.str good), some bad, y11, y12, y13]) ⟨ke8.mono (by omega), y11, y12, y13, rfl⟩ ?_ ?_
        · rintro δ μ9 ⟨ke9, y11, y12, y13, rfl⟩
          exact ⟨hP _ rfl, hN2 _ _ ⟨ke9.mono (by show 3000 + 8 * j + 2 + 6 ≤ _; omega), _, _, _, _, _, _, rfl⟩⟩
        · rintro i d δ μ9 hd ⟨ke9, y11, y12, y13, rfl⟩
          obtain ⟨way, ew, rfl⟩ := sds_get hd
          have hw : way ∈ ways := List.mem_of_getElem? ew
          have hi : i < 6 := (List.getElem?_eq_some_iff.mp ew).1
          refine ⟨hP _ rfl, _, rfl, fun N3 hN3 => ?_⟩
          show sSeq _ (sSeq _ (sSeq _ (sSeq _ tailT))) _ _ _
          generalize hTT : tailT = TT
          walk_at "x3"
          refine ⟨Nat.zero_le _, lz (show 6 ≤ 100 by decide), rfl, b, 6, _, rfl, ke9.bx, by omega, by decide, by decide, fun rw μa w0 w1 oa ba => ?_⟩
          have kea := ke9.draw oa ba
          obtain ⟨worse, hworse, eworse, _⟩ := pick (xs := [D.non, .int (-1), .bl true, .str "3", .lst [], .str good]) w0 w1
          obtain ⟨p, wo⟩ := wor_ok ok.e hgood hworse
          refine at_l eworse ⟨rfl, .ref t, marks, ties, limsOf marks caps, kl, ks, way, bad, worse, rfl, kea.ins, okL, tk, .inr ⟨hw, (BD μa).nm, wo.nm μa, ?_⟩⟩
          rw [show toldW marks way bad worse = toldL "event" bad by unfold toldW; rw [ev]]
          refine ⟨z2 _ _, ne_told (BD μa).tel ?_⟩
          simp only [Bool.false_eq_true, if_false]
          have shg : SeqAt.shaped (.str good) = true := (Sm.str (k := 0) (B := 8) (nameT_asc (ok.e.nm _ hgood)) (nameT_len (ok.e.nm _ hgood))).shaped (by decide)
          have shw : SeqAt.shaped p = true := wo.sm.shaped (by decide)
          have fin : ∀ (Z : Ends3) (hz : Z.nx = N3) (k0 : Str) (d : D) (pd : PyData), asc k0 → k0.length ≤ 8 → Sh μa d pd → Sm 1 8 pd → toldW marks way (.str good) worse = toldL k0 d → TT Z [some (.scr (ns.map D.int)), some (.int (0 + (k : Nat))), some (.ref b), some M, some (.ref s), some (.lst (sds marks)), some (.ref t), some odd, some (.int (0 + (j : Nat))), some (.str good), some bad, some (.str way), some worse, some (toldL k0 d)] μa := fun Z hz k0 d pd a1 a2 a3 a4 a5 => by
            rw [← hTT]
            refine tail_ok kea okL tk hw hgood (BD μa) ev (wo.nm μa) a5 (p := .list [.str k0, pd]) (.lst (.cons (.str _) (.cons a3 .nil))) ((Sm.list (k := 1) (B := 8) (n := 2) (fun q hq => ?_) (by simp)).shown (by decide) (by decide)) ?_
            · simp only [List.mem_cons, List.not_mem_nil, or_false] at hq
              rcases hq with rfl | rfl
              · exact (Sm.str (k := 0) (B := 8) a1 a2).mono (by decide) (by decide)
              · exact a4
            · rw [hz]; exact hN3 _ _ ⟨kea.mono (by omega), _, _, _, rfl⟩
          simp only [ways, List.mem_cons, List.not_mem_nil, or_false] at hw
          have tw : ∀ w : Str, w ≠ "most" → w ≠ "held" → w ≠ "least" → toldW marks w (.str good) worse = match evOf marks worse with
              | none => toldL "event" worse
              | some _ => toldL "told" .non := fun w h1 h2 h3 => by
            unfold toldW
            rw [evOf_in hgood]
            simp only [h1, h2, h3, or_self, if_false]
          rcases hw with rfl | rfl | rfl | rfl | rfl | rfl
          · simp only [show decide (("lead" : Str) = "least") = false from by decide, Bool.false_eq_true, if_false]
            refine ⟨z2 _ _, z2 _ _, in_q (xs := [.str "most", .str "held"]) rfl rfl rfl ?_⟩
            simp only [show inD (.str "lead") [.str "most", .str "held"] = false from by decide, Bool.false_eq_true, if_false]
            refine ⟨p, .str good, wo.sh μa, .str _, shw, shg, ?_⟩
            rw [wo.eq]
            cases e : evOf marks worse with
            | none =>
              simp only [Option.isSome_none, Bool.false_eq_true, if_false]
              exact fin _ rfl "event" worse p asc_ev (by decide) (wo.sh _) wo.sm (by rw [tw _ (by decide) (by decide) (by decide), e])
            | some z =>
              simp only [Option.isSome_some, if_true, Bool.not_false]
              exact ⟨z2 _ _, fin _ rfl "told" .non .none asc_td (by decide) .non Sm.none (by rw [tw _ (by decide) (by decide) (by decide), e])⟩
          · simp only [show decide (("chain" : Str) = "least") = false from by decide, Bool.false_eq_true, if_false]
            refine ⟨z2 _ _, z2 _ _, in_q (xs := [.str "most", .str "held"]) rfl rfl rfl ?_⟩
            simp only [show inD (.str "chain") [.str "most", .str "held"] = false from by decide, Bool.false_eq_true, if_false]
            refine ⟨p, .str good, wo.sh μa, .str _, shw, shg, ?_⟩
            rw [wo.eq]
            cases e : evOf marks worse with
            | none =>
              simp only [Option.isSome_none, Bool.false_eq_true, if_false]
              exact fin _ rfl "event" worse p asc_ev (by decide) (wo.sh _) wo.sm (by rw [tw _ (by decide) (by decide) (by decide), e])
            | some z =>
              simp only [Option.isSome_some, if_true, Bool.not_false]
              exact ⟨z2 _ _, fin _ rfl "told" .non .none asc_td (by decide) .non Sm.none (by rw [tw _ (by decide) (by decide) (by decide), e])⟩
          · simp only [show decide (("shown" : Str) = "least") = false from by decide, Bool.false_eq_true, if_false]
            refine ⟨z2 _ _, z2 _ _, in_q (xs := [.str "most", .str "held"]) rfl rfl rfl ?_⟩
            simp only [show inD (.str "shown") [.str "most", .str "held"] = false from by decide, Bool.false_eq_true, if_false]
            refine ⟨p, .str good, wo.sh μa, .str _, shw, shg, ?_⟩
            rw [wo.eq]
            cases e : evOf marks worse with
            | none =>
              simp only [Option.isSome_none, Bool.false_eq_true, if_false]
              exact fin _ rfl "event" worse p asc_ev (by decide) (wo.sh _) wo.sm (by rw [tw _ (by decide) (by decide) (by decide), e])
            | some z =>
              simp only [Option.isSome_some, if_true, Bool.not_false]
              exact ⟨z2 _ _, fin _ rfl "told" .non .none asc_td (by decide) .non Sm.none (by rw [tw _ (by decide) (by decide) (by decide), e])⟩
          · simp only [decide_true, if_true]
            refine ⟨z2 _ _, z2 _ _, in_q (xs := [.str "most", .str "held"]) rfl rfl rfl ?_⟩
            simp only [show inD (.str "least") [.str "most", .str "held"] = false from by decide, Bool.false_eq_true, if_false]
            refine ⟨p, .str good, wo.sh μa, .str _, shw, shg, ?_⟩
            have g := fun Z hz => fin Z hz "integer" worse p asc_it (by decide) (wo.sh _) wo.sm (by unfold toldW; rw [evOf_in hgood, wo.cnt]; rfl)
            simp only [Bool.not_true, Bool.false_eq_true, if_false]
            split
            · exact g _ rfl
            · exact g _ rfl
          · simp only [show decide (("most" : Str) = "least") = false from by decide, Bool.false_eq_true, if_false]
            refine ⟨z2 _ _, z2 _ _, in_q (xs := [.str "most", .str "held"]) rfl rfl rfl ?_⟩
            simp only [show inD (.str "most") [.str "most", .str "held"] = true from by decide, Bool.false_eq_true, if_false, if_true]
            exact ⟨z2 _ _, fin _ rfl "told" .non .none asc_td (by decide) .non Sm.none (by unfold toldW; rw [evOf_in hgood]; rfl)⟩
          · simp only [show decide (("held" : Str) = "least") = false from by decide, Bool.false_eq_true, if_false]
            refine ⟨z2 _ _, z2 _ _, in_q (xs := [.str "most", .str "held"]) rfl rfl rfl ?_⟩
            simp only [show inD (.str "held") [.str "most", .str "held"] = true from by decide, Bool.false_eq_true, if_false, if_true]
            exact ⟨z2 _ _, fin _ rfl "told" .non .none asc_td (by decide) .non Sm.none (by unfold toldW; rw [evOf_in hgood]; rfl)⟩
      · simp only [if_true]
        exact hN2 _ _ ⟨ke8.mono (by omega), _, _, _, _, _, _, rfl⟩
theorem enter {K : Kn} {H : Hp} {a : Addr} {ns : List Int} (hl : ns.length ≤ 63) (hS : SqL K.K H a (ns.map V.int)) : lift K 1 sp_law [.ref a] H (fun v _ => v = .bl true) fun _ _ _ => False := enter_scr hS ⟨ns, rfl, hl, fun _ => rfl⟩

end K33

namespace K33
open PySem PySem.Spec L2 L3 C1
def topS (j : Nat) : Stmt := (PySem.Challenge.pw_pileups_k33_tables_refused).main.body.getD j (Stmt.Pass ⟨0, 0, 0, 0⟩)
structure Bl (K : PySem.W.Frag) (mg : Str → Option Value) : Prop where
  b_all : mg "all" = none
  b_bool : mg "bool" = none
  b_dict : mg "dict" = none
  b_enumerate : mg "enumerate" = none
  b_int : mg "int" = none
  b_isinstance : mg "isinstance" = none
  b_len : mg "len" = none
  b_list : mg "list" = none
  b_max : mg "max" = none
  b_min : mg "min" = none
  b_range : mg "range" = none
  b_repr : mg "repr" = none
  b_str : mg "str" = none
  b_tuple : mg "tuple" = none
  k_HOLD : ∃ t, mg "HOLD" = some (.str "limit" t)
  k_LETTERS : ∃ t, mg "LETTERS" = some (.str "abcdefghijklmnopqrstuvwxyz" t)
  k_MOST_EVENTS : ∃ t, mg "MOST_EVENTS" = some (.int 8 t)
  k_MOST_LETTERS : ∃ t, mg "MOST_LETTERS" = some (.int 8 t)
  k_MOST_TIES : ∃ t, mg "MOST_TIES" = some (.int 60 t)
  k_NONE : ∃ t, mg "NONE" = some (.str "none" t)
  k_TIE : ∃ t, mg "TIE" = some (.str "tie" t)
  c_Plan : Cl3 K mg "Plan"
  c_Table : Cl3 K mg "Table"
  f_Plan_own_events : Fl3 K "Plan" "own_events"
  f_Plan_own_limits : Fl3 K "Plan" "own_limits"
  f_Plan_own_ties : Fl3 K "Plan" "own_ties"
  f_Table_leads : Fl3 K "Table" "leads"
  f_Table_row_of_events : Fl3 K "Table" "row_of_events"
  f_Table_steps : Fl3 K "Table" "steps"
  a_Table_Plan : Ap3 K "Table" "Plan"
  h_InvalidInteger : Hc3 K mg "InvalidInteger" ["InvalidInteger"] ["InvalidPlan", "UnknownEvent"]
  h_InvalidPlan : Hc3 K mg "InvalidPlan" ["InvalidPlan"] ["InvalidInteger", "UnknownEvent"]
  h_UnknownEvent : Hc3 K mg "UnknownEvent" ["UnknownEvent"] ["InvalidInteger", "InvalidPlan"]
  xf_InvalidInteger_value : Xf3 K "InvalidInteger" "value"
  xf_InvalidPlan_value : Xf3 K "InvalidPlan" "value"
  xf_UnknownEvent_name : Xf3 K "UnknownEvent" "name"
section
variable {P : Program} {w : World} {K : PySem.W.Frag} {mg : Str → Option Value} {base : Heap}
theorem sc_xi_InvalidInteger : FnScope ["self", "value"] ["self", "value"] (defScope (inClass (topS 4) 0)) := ⟨rfl, rfl, rfl, by decide +kernel, rfl, by decide +kernel, by decide +kernel⟩
theorem xi_InvalidInteger {f C : Addr} {fd : FuncData} {bm : List Value} (xb : XBase K mg "PlanError" "ValueError" "ValueError.__init__") (F : Def3 K "__init__" "InvalidInteger.__init__" (inClass (topS 4) 0) [] [] f fd) (O : OexG K C bm) (hno : PySem.W.findIn K (.ref C) "value" = some none) (hB : bm.contains (.type "ValueError") = true) : FnG P w K mg base CX0 1 f fd ["self", "value"] (spXI C "value") :=
  xinit_fn (txt := "not an integer that is asked for") F sc_xi_InvalidInteger O hno hB fun cdv A fs s H E => pss_cons (ps_expr (pe_xini xb rfl (pa_cons (pe_var (i := 0) rfl (Or.inl rfl)) (pa_cons pe_str pa_nil)))) (pss_one (ps_xst (pe_var (i := 0) rfl (Or.inl rfl)) (pe_var (i := 1) rfl (Or.inl rfl))))
theorem sc_xi_InvalidPlan : FnScope ["self", "value"] ["self", "value"] (defScope (inClass (topS 12) 0)) := ⟨rfl, rfl, rfl, by decide +kernel, rfl, by decide +kernel, by decide +kernel⟩
theorem xi_InvalidPlan {f C : Addr} {fd : FuncData} {bm : List Value} (xb : XBase K mg "PlanError" "ValueError" "ValueError.__init__") (F : Def3 K "__init__" "InvalidPlan.__init__" (inClass (topS 12) 0) [] [] f fd) (O : OexG K C bm) (hno : PySem.W.findIn K (.ref C) "value" = some none) (hB : bm.contains (.type "ValueError") = true) : FnG P w K mg base CX0 1 f fd ["self", "value"] (spXI C "value") :=
  xinit_fn (txt := "not a plan") F sc_xi_InvalidPlan O hno hB fun cdv A fs s H E => pss_cons (ps_expr (pe_xini xb rfl (pa_cons (pe_var (i := 0) rfl (Or.inl rfl)) (pa_cons pe_str pa_nil)))) (pss_one (ps_xst (pe_var (i := 0) rfl (Or.inl rfl)) (pe_var (i := 1) rfl (Or.inl rfl))))
theorem sc_xi_UnknownEvent : FnScope ["self", "name"] ["self", "name"] (defScope (inClass (topS 13) 0)) := ⟨rfl, rfl, rfl, by decide +kernel, rfl, by decide +kernel, by decide +kernel⟩
theorem xi_UnknownEvent {f C : Addr} {fd : FuncData} {bm : List Value} (xb : XBase K mg "MissingError" "KeyError" "KeyError.__init__") (F : Def3 K "__init__" "UnknownEvent.__init__" (inClass (topS 13) 0) [] [] f fd) (O : OexG K C bm) (hno : PySem.W.findIn K (.ref C) "name" = some none) (hB : bm.contains (.type "KeyError") = true) : FnG P w K mg base CX0 1 f fd ["self", "name"] (spXI C "name") :=
  xinit_fn (txt := "no such event") F sc_xi_UnknownEvent O hno hB fun cdv A fs s H E => pss_cons (ps_expr (pe_xini xb rfl (pa_cons (pe_var (i := 0) rfl (Or.inl rfl)) (pa_cons pe_str pa_nil)))) (pss_one (ps_xst (pe_var (i := 0) rfl (Or.inl rfl)) (pe_var (i := 1) rfl (Or.inl rfl))))
theorem sc__law_box : FnScope ["_law_cell_here"] ["_law_cell_here"] (defScope (topS 42)) := ⟨rfl, rfl, rfl, by decide +kernel, rfl, by decide +kernel, by decide +kernel⟩
theorem ok__law_box {f : Addr} {fd : FuncData}  (T : Bl K mg)  (F : Def3 K "_law_box" "_law_box" (topS 42) [] [] f fd) : FnG P w K mg base CX0 1 f fd ["_law_cell_here"] (lift ⟨K, P, w⟩ 1 sp__law_box) := by
  have nd := sc__law_box.nd
  refine F.ok3 sc__law_box fun cdv A outer s H E hr => ⟨t__law_box, ?_, pure__law_box⟩
  exact (ss_one (s_ret (e_lstT (a_cons (e_callB (c_max2 rfl) T.b_max (by decide +kernel) (a_cons e_int (a_cons (e_op o_sub (e_var 0) (e_op o_pow e_int e_int)) a_nil))) (a_cons (e_op o_mod (e_var 0) e_int) (a_cons e_int a_nil))))))
theorem sc__law_cell : FnScope ["_law_script", "_law_k"] ["_law_script", "_law_k"] (defScope (topS 41)) := ⟨rfl, rfl, rfl, by decide +kernel, rfl, by decide +kernel, by decide +kernel⟩
theorem ok__law_cell {f : Addr} {fd : FuncData}  (T : Bl K mg)  (F : Def3 K "_law_cell" "_law_cell" (topS 41) [] [] f fd) : FnG P w K mg base CX0 1 f fd ["_law_script", "_law_k"] (lift ⟨K, P, w⟩ 2 sp__law_cell) := by
  have nd := sc__law_cell.nd
  refine F.ok3 sc__law_cell fun cdv A outer s H E hr => ⟨t__law_cell, ?_, pure__law_cell⟩
  exact (ss_cons (s_if (t_cmp o_lt (e_var 1) (e_callB (c_len) T.b_len PySem.boot_len (a_cons (e_var 0) a_nil))) (ss_one (s_ret (e_at hr (e_var 0) (e_var 1)))) ss_nil) (ss_one (s_ret (e_op o_add (e_op o_mul e_int (e_var 1)) e_int))))
theorem sc__law_take : FnScope ["_law_box_here", "_law_many", "_law_digit", "_law_number"] ["_law_box_here", "_law_many"] (defScope (topS 43)) := ⟨rfl, rfl, rfl, by decide +kernel, rfl, by decide +kernel, by decide +kernel⟩
theorem ok__law_take {f : Addr} {fd : FuncData}  (T : Bl K mg)  (F : Def3 K "_law_take" "_law_take" (topS 43) [] [] f fd) : FnG P w K mg base CX0 1 f fd ["_law_box_here", "_law_many"] (lift ⟨K, P, w⟩ 2 sp__law_take) := by
  have nd := sc__law_take.nd
  refine F.ok3 sc__law_take fun cdv A outer s H E hr => ⟨t__law_take, ?_, pure__law_take⟩
  exact (ss_cons (s_if (t_cmp o_gt (e_at hr (e_var 0) e_int) e_int) (ss_cons (s_set (i := 2) nd (e_op o_mod (e_at hr (e_var 0) e_int) (e_var 1))) (ss_cons (s_sub (st_any hr) (e_op o_div (e_at hr (e_var 0) e_int) (e_var 1)) (e_var 0) e_int) (ss_one (s_ret (e_var 2))))) ss_nil) (ss_cons (s_sub (st_any hr) (e_op o_add (e_at hr (e_var 0) e_int) e_int) (e_var 0) e_int) (ss_cons (s_set (i := 3) nd (e_op o_mod (e_op o_pow (e_op o_add (e_op o_add (e_at hr (e_var 0) e_int) (e_op o_mul e_int (e_at hr (e_var 0) e_int))) e_int) e_int) e_int)) (ss_cons (s_set (i := 3) nd (e_op o_mod (e_op o_pow (e_op o_add (e_var 3) (e_op o_mul e_int (e_at hr (e_var 0) e_int))) e_int) e_int)) (ss_one (s_ret (e_op o_mod (e_op o_div (e_var 3) e_int) (e_var 1))))))))
theorem sc__law_mixed : FnScope ["_law_box_here", "_law_some", "_law_left", "_law_k"] ["_law_box_here", "_law_some"] (defScope (topS 44)) := ⟨rfl, rfl, rfl, by decide +kernel, rfl, by decide +kernel, by decide +kernel⟩
theorem ok__law_mixed {f : Addr} {fd : FuncData}  (T : Bl K mg) (c__law_take : Cal3 P w K mg base CX0 1 "_law_take" 2 [] (allPos 2) [] 2 (lift ⟨K, P, w⟩ 2 sp__law_take)) (F : Def3 K "_law_mixed" "_law_mixed" (topS 44) [] [] f fd) : FnG P w K mg base CX0 2 f fd ["_law_box_here", "_law_some"] (lift ⟨K, P, w⟩ 2 sp__law_mixed) := by
  have nd := sc__law_mixed.nd
  refine F.ok3 sc__law_mixed fun cdv A outer s H E hr => ⟨t__law_mixed, ?_, pure__law_mixed⟩
  exact (ss_cons (s_set (i := 2) nd (e_callTy c_listT T.b_list (by decide +kernel) (a_cons (e_var 1) a_nil))) (ss_one (s_ret (e_lcG (own := [("_law_k", 3)]) (tt := vYes) (te := (vBM "list" gPopAt (vVar 2) (vCons (vCall 2 sp__law_take (vCons (vVar 0) (vCons (vCB gLen (vCons (vVar 2) vNil)) vNil))) vNil))) rfl nd (i_range1 T.b_range (a_cons (e_callB (c_len) T.b_len PySem.boot_len (a_cons (e_var 1) a_nil)) a_nil)) (blkOk_by (N := ["_law_box_here", "_law_some", "_law_left", "_law_k"]) (sc := defScope (topS 44)) (by decide +kernel)) (u_name 3 (fun _ _ _ _ _ => pg_name (i := 3) nd rfl (by first | exact Or.inl rfl | exact Or.inr rfl))) (fun j hj => hj) (fun _ _ _ _ _ => ts_nil) (fun _ _ _ _ _ => (e_bm PySem.F.plainAttrs_list PySem.F.slot_list_pop PySem.F.type_list_pop m_popAt (e_var 2) (a_cons (e_cal lf0 c__law_take hr (a_cons (e_var 0) (a_cons (e_callB (c_len) T.b_len PySem.boot_len (a_cons (e_var 2) a_nil)) a_nil))) a_nil)))))))
theorem sc__law_names : FnScope ["_law_box_here", "_law_many", "_law_letters", "_law_stem", "_law_first", "_law_step", "_law_way", "_law_found", "_law_k", "_law_sign"] ["_law_box_here", "_law_many"] (defScope (topS 45)) := ⟨rfl, rfl, rfl, by decide +kernel, rfl, by decide +kernel, by decide +kernel⟩
theorem ok__law_names {f : Addr} {fd : FuncData}  (T : Bl K mg) (c__law_take : Cal3 P w K mg base CX0 1 "_law_take" 2 [] (allPos 2) [] 2 (lift ⟨K, P, w⟩ 2 sp__law_take)) (F : Def3 K "_law_names" "_law_names" (topS 45) [] [] f fd) : FnG P w K mg base CX0 2 f fd ["_law_box_here", "_law_many"] (lift ⟨K, P, w⟩ 2 sp__law_names) := by
  have nd := sc__law_names.nd
  refine F.ok3 sc__law_names fun cdv A outer s H E hr => ⟨t__law_names, ?_, pure__law_names⟩
  exact (ss_cons (s_set (i := 2) nd e_str) (ss_cons (s_set (i := 3) nd (e_at hr (e_lst (a_cons e_str (a_cons e_str (a_cons e_str (a_cons e_str (a_cons e_str (a_cons e_str a_nil))))))) (e_cal lf0 c__law_take hr (a_cons (e_var 0) (a_cons e_int a_nil))))) (ss_cons (s_par3 (i := 4) (j := 5) (l := 6) rfl nd (a_cons (e_cal lf0 c__law_take hr (a_cons (e_var 0) (a_cons e_int a_nil))) (a_cons (e_at hr (e_lst (a_cons e_int (a_cons e_int (a_cons e_int (a_cons e_int (a_cons e_int (a_cons e_int a_nil))))))) (e_cal lf0 c__law_take hr (a_cons (e_var 0) (a_cons e_int a_nil)))) (a_cons (e_cal lf0 c__law_take hr (a_cons (e_var 0) (a_cons e_int a_nil))) a_nil)))) (ss_cons (s_set (i := 7) nd (e_lstT a_nil)) (ss_cons (s_for PassesOwn.never rfl (i_range1 T.b_range (a_cons (e_var 1) a_nil)) (g_name (i := 8) nd) (ss_cons (s_set (i := 9) nd (e_at hr (e_var 2) (e_op o_mod (e_op o_add (e_var 4) (e_op o_mul (e_var 5) (e_var 8))) e_int))) (ss_one (s_expr (e_bm PySem.F.plainAttrs_list PySem.F.slot_list_append PySem.F.type_list_append m_append (e_var 7) (a_cons (e_at hr (e_lst (a_cons (e_op o_add (e_var 3) (e_var 9)) (a_cons (e_op o_add (e_var 9) (e_var 3)) (a_cons (e_var 9) a_nil)))) (e_if (t_cmp o_gt (e_var 8) e_int) (e_var 6) e_int)) a_nil)))))) (ss_one (s_ret (e_var 7))))))))
theorem sc__law_lag : FnScope ["_law_box_here"] ["_law_box_here"] (defScope (topS 46)) := ⟨rfl, rfl, rfl, by decide +kernel, rfl, by decide +kernel, by decide +kernel⟩
theorem ok__law_lag {f : Addr} {fd : FuncData}  (T : Bl K mg) (c__law_take : Cal3 P w K mg base CX0 1 "_law_take" 2 [] (allPos 2) [] 2 (lift ⟨K, P, w⟩ 2 sp__law_take)) (F : Def3 K "_law_lag" "_law_lag" (topS 46) [] [] f fd) : FnG P w K mg base CX0 2 f fd ["_law_box_here"] (lift ⟨K, P, w⟩ 1 sp__law_lag) := by
  have nd := sc__law_lag.nd
  refine F.ok3 sc__law_lag fun cdv A outer s H E hr => ⟨t__law_lag, ?_, pure__law_lag⟩
  exact (ss_one (s_ret (e_at hr (e_lst (a_cons e_int (a_cons e_int (a_cons e_int (a_cons e_int (a_cons e_int (a_cons e_int (a_cons e_int (a_cons (e_op o_mul (e_cal lf0 c__law_take hr (a_cons (e_var 0) (a_cons (e_op o_pow e_int e_int) a_nil))) (e_op o_pow e_int e_int)) a_nil))))))))) (e_cal lf0 c__law_take hr (a_cons (e_var 0) (a_cons e_int a_nil))))))
theorem sc__law_model : FnScope ["_law_box_here", "_law_many", "_law_most", "_law_marks", "_law_order", "_law_cords", "_law_caps", "_law_k", "_law_one", "_law_other", "_law_lag_here", "_law_event"] ["_law_box_here", "_law_many", "_law_most"] (defScope (topS 47)) := ⟨rfl, rfl, rfl, by decide +kernel, rfl, by decide +kernel, by decide +kernel⟩
theorem ok__law_model {f : Addr} {fd : FuncData}  (T : Bl K mg) (c__law_names : Cal3 P w K mg base CX0 2 "_law_names" 2 [] (allPos 2) [] 2 (lift ⟨K, P, w⟩ 2 sp__law_names)) (c__law_mixed : Cal3 P w K mg base CX0 2 "_law_mixed" 2 [] (allPos 2) [] 2 (lift ⟨K, P, w⟩ 2 sp__law_mixed)) (c__law_take : Cal3 P w K mg base CX0 1 "_law_take" 2 [] (allPos 2) [] 2 (lift ⟨K, P, w⟩ 2 sp__law_take)) (c__law_lag : Cal3 P w K mg base CX0 2 "_law_lag" 1 [] (allPos 1) [] 1 (lift ⟨K, P, w⟩ 1 sp__law_lag)) (F : Def3 K "_law_model" "_law_model" (topS 47) [] [] f fd) : FnG P w K mg base CX0 3 f fd ["_law_box_here", "_law_many", "_law_most"] (lift ⟨K, P, w⟩ 3 sp__law_model) := by
  have nd := sc__law_model.nd
  refine F.ok3 sc__law_model fun cdv A outer s H E hr => ⟨t__law_model, ?_, pure__law_model⟩
  exact (ss_cons (s_set (i := 3) nd (e_cal lf0 c__law_names hr (a_cons (e_var 0) (a_cons (e_var 1) a_nil)))) (ss_cons (s_par3 (i := 4) (j := 5) (l := 6) rfl nd (a_cons (e_cal lf0 c__law_mixed hr (a_cons (e_var 0) (a_cons (e_var 3) a_nil))) (a_cons (e_lstT a_nil) (a_cons e_dict0T a_nil)))) (ss_cons (s_for PassesOwn.never rfl (i_range1 T.b_range (a_cons (e_cal lf0 c__law_take hr (a_cons (e_var 0) (a_cons (e_op o_add (e_var 2) e_int) a_nil))) a_nil)) (g_name (i := 7) nd) (ss_cons (s_par2 (i := 8) (j := 9) rfl nd (a_cons (e_at hr (e_var 3) (e_cal lf0 c__law_take hr (a_cons (e_var 0) (a_cons (e_var 1) a_nil)))) (a_cons (e_at hr (e_var 3) (e_cal lf0 c__law_take hr (a_cons (e_var 0) (a_cons (e_var 1) a_nil)))) a_nil))) (ss_cons (s_set (i := 10) nd (e_cal lf0 c__law_lag hr (a_cons (e_var 0) a_nil))) (ss_cons (s_if (t_w (w_and (t_cmp o_eqS (e_var 10) e_int) (w_and1 (t_cmp o_ge (e_bm PySem.F.plainAttrs_list PySem.F.slot_list_index PySem.F.type_list_index m_index (e_var 4) (a_cons (e_var 8) a_nil)) (e_bm PySem.F.plainAttrs_list PySem.F.slot_list_index PySem.F.type_list_index m_index (e_var 4) (a_cons (e_var 9) a_nil)))))) (ss_one (s_set (i := 10) nd e_int)) ss_nil) (ss_one (s_expr (e_bm PySem.F.plainAttrs_list PySem.F.slot_list_append PySem.F.type_list_append m_append (e_var 5) (a_cons (e_tup (a_cons (e_var 8) (a_cons (e_var 9) (a_cons (e_var 10) a_nil)))) a_nil)))))))) (ss_cons (s_for PassesOwn.never rfl (i_any (e_cal lf0 c__law_mixed hr (a_cons (e_var 0) (a_cons (e_var 3) a_nil)))) (g_name (i := 11) nd) (ss_one (s_if (t_cmp o_eqS (e_cal lf0 c__law_take hr (a_cons (e_var 0) (a_cons e_int a_nil))) e_int) (ss_one (s_sub (st_any hr) (e_at hr (e_lst (a_cons e_int (a_cons e_int (a_cons e_int (a_cons e_int (a_cons e_int (a_cons (e_op o_mul (e_cal lf0 c__law_take hr (a_cons (e_var 0) (a_cons (e_op o_pow e_int e_int) a_nil))) (e_op o_pow e_int e_int)) a_nil))))))) (e_cal lf0 c__law_take hr (a_cons (e_var 0) (a_cons e_int a_nil)))) (e_var 6) (e_var 11))) ss_nil))) (ss_one (s_ret (e_lstT (a_cons (e_var 3) (a_cons (e_var 5) (a_cons (e_var 6) a_nil))))))))))
theorem sc_is_list : FnScope ["value"] ["value"] (defScope (topS 20)) := ⟨rfl, rfl, rfl, by decide +kernel, rfl, by decide +kernel, by decide +kernel⟩
theorem ok_is_list {f : Addr} {fd : FuncData}  (T : Bl K mg)  (F : Def3 K "is_list" "is_list" (topS 20) [] [] f fd) : FnG P w K mg base CX0 1 f fd ["value"] (lift ⟨K, P, w⟩ 1 sp_is_list) := by
  have nd := sc_is_list.nd
  refine F.ok3 sc_is_list fun cdv A outer s H E hr => ⟨t_is_list, ?_, pure_is_list⟩
  exact (ss_one (s_ret (e_callB c_isT T.b_isinstance (by decide +kernel) (a_cons (e_var 0) (a_cons (e_tup (a_cons (e_bty T.b_list (by decide +kernel)) (a_cons (e_bty T.b_tuple (by decide +kernel)) a_nil))) a_nil)))))
theorem sc_is_name : FnScope ["value", "sign"] ["value"] (defScope (topS 19)) := ⟨rfl, rfl, rfl, by decide +kernel, rfl, by decide +kernel, by decide +kernel⟩
theorem ok_is_name {f : Addr} {fd : FuncData}  (T : Bl K mg)  (F : Def3 K "is_name" "is_name" (topS 19) [] [] f fd) : FnG P w K mg base CX0 1 f fd ["value"] (lift ⟨K, P, w⟩ 1 sp_is_name) := by
  have nd := sc_is_name.nd
  refine F.ok3 sc_is_name fun cdv A outer s H E hr => ⟨t_is_name, ?_, pure_is_name⟩
  exact (ss_cons (s_if (t_w (w_or (t_not (t_val (e_callB c_isi T.b_isinstance (by decide +kernel) (a_cons (e_var 0) (a_cons (e_bty T.b_str (by decide +kernel)) a_nil))))) (w_or1 (t_not (t_chain o_le o_le e_int (e_callB (c_len) T.b_len PySem.boot_len (a_cons (e_var 0) a_nil)) (e_gint (T.k_MOST_LETTERS).choose_spec)))))) (ss_one (s_ret e_bl)) ss_nil) (ss_one (s_ret (e_callB (c_all rfl) T.b_all (by decide +kernel) (a_cons (e_lcG (own := [("sign", 1)]) (tt := vYes) (te := (vOp (gIn false) (vVar 1) (vC (.str "abcdefghijklmnopqrstuvwxyz")))) rfl nd (i_any (e_var 0)) (blkOk_by (N := ["value", "sign"]) (sc := defScope (topS 19)) (by decide +kernel)) (u_name 1 (fun _ _ _ _ _ => pg_name (i := 1) nd rfl (by first | exact Or.inl rfl | exact Or.inr rfl))) (fun j hj => hj) (fun _ _ _ _ _ => ts_nil) (fun _ _ _ _ _ => (e_cmp (o_in hr) (e_var 1) (e_gstr (T.k_LETTERS).choose_spec)))) a_nil)))))
theorem sc_need_events : FnScope ["events", "at", "event"] ["events"] (defScope (topS 24)) := ⟨rfl, rfl, rfl, by decide +kernel, rfl, by decide +kernel, by decide +kernel⟩
theorem ok_need_events {f : Addr} {fd : FuncData}  (T : Bl K mg) (c_is_list : Cal3 P w K mg base CX0 1 "is_list" 1 [] (allPos 1) [] 1 (lift ⟨K, P, w⟩ 1 sp_is_list)) (c_is_name : Cal3 P w K mg base CX0 1 "is_name" 1 [] (allPos 1) [] 1 (lift ⟨K, P, w⟩ 1 sp_is_name)) (F : Def3 K "need_events" "need_events" (topS 24) [] [] f fd) : FnG P w K mg base CX0 2 f fd ["events"] (lift ⟨K, P, w⟩ 1 sp_need_events) := by
  have nd := sc_need_events.nd
  refine F.ok3 sc_need_events fun cdv A outer s H E hr => ⟨t_need_events, ?_, pure_need_events⟩
  exact (ss_cons (s_if (t_w (w_or (t_not (t_val (e_cal lf0 c_is_list hr (a_cons (e_var 0) a_nil)))) (w_or1 (t_not (t_chain o_le o_le e_int (e_callB (c_len) T.b_len PySem.boot_len (a_cons (e_var 0) a_nil)) (e_gint (T.k_MOST_EVENTS).choose_spec)))))) (ss_one s_never) ss_nil) (ss_one (s_for PassesOwn.never rfl (i_enum T.b_enumerate (a_cons (e_var 0) a_nil)) (g_tup rfl (gs_cons (g_name (i := 1) nd) (gs_cons (g_name (i := 2) nd) gs_nil))) (ss_cons (s_if (t_not (t_val (e_cal lf0 c_is_name hr (a_cons (e_var 2) a_nil)))) (ss_one s_never) ss_nil) (ss_one (s_if (t_cmp (o_in hr) (e_var 2) (e_slice (e_var 0) p_none (p_some (e_var 1)))) (ss_one s_never) ss_nil))))))
theorem sc_need_event : FnScope ["events", "name"] ["events", "name"] (defScope (topS 25)) := ⟨rfl, rfl, rfl, by decide +kernel, rfl, by decide +kernel, by decide +kernel⟩
theorem ok_need_event {f : Addr} {fd : FuncData}  (T : Bl K mg) (c_is_name : Cal3 P w K mg base CX0 1 "is_name" 1 [] (allPos 1) [] 1 (lift ⟨K, P, w⟩ 1 sp_is_name)) (x_UnknownEvent : XMk P w K mg base 1 "UnknownEvent" "name") (F : Def3 K "need_event" "need_event" (topS 25) [] [] f fd) : FnG P w K mg base (L2.CX P w) 3 f fd ["events", "name"] (liftX ⟨K, P, w⟩ 2 spx_need_event) := by
  have nd := sc_need_event.nd
  refine F.okX sc_need_event fun cdv A outer s H E hr => ⟨tx_need_event, fun Z V => ?_, purex_need_event⟩
  exact (ss_one (s_if (t_w (w_or (t_not (t_val (e_cal lf0 c_is_name hr (a_cons (e_var 1) a_nil)))) (w_or1 (t_cmp (o_notIn hr) (e_var 1) (e_var 0))))) (ss_one (s_raise V x_UnknownEvent hr rfl (e_var 1))) ss_nil))
theorem sc_is_integer : FnScope ["value"] ["value"] (defScope (topS 17)) := ⟨rfl, rfl, rfl, by decide +kernel, rfl, by decide +kernel, by decide +kernel⟩
theorem ok_is_integer {f : Addr} {fd : FuncData}  (T : Bl K mg)  (F : Def3 K "is_integer" "is_integer" (topS 17) [] [] f fd) : FnG P w K mg base CX0 1 f fd ["value"] (lift ⟨K, P, w⟩ 1 sp_is_integer) := by
  have nd := sc_is_integer.nd
  refine F.ok3 sc_is_integer fun cdv A outer s H E hr => ⟨t_is_integer, ?_, pure_is_integer⟩
  exact (ss_one (s_ret (e_and (e_callB c_isi T.b_isinstance (by decide +kernel) (a_cons (e_var 0) (a_cons (e_bty T.b_int (by decide +kernel)) a_nil))) (e_one (e_not (e_callB c_isi T.b_isinstance (by decide +kernel) (a_cons (e_var 0) (a_cons (e_bty T.b_bool (by decide +kernel)) a_nil))))))))
theorem sc_is_count : FnScope ["value"] ["value"] (defScope (topS 18)) := ⟨rfl, rfl, rfl, by decide +kernel, rfl, by decide +kernel, by decide +kernel⟩
theorem ok_is_count {f : Addr} {fd : FuncData}  (T : Bl K mg) (c_is_integer : Cal3 P w K mg base CX0 1 "is_integer" 1 [] (allPos 1) [] 1 (lift ⟨K, P, w⟩ 1 sp_is_integer)) (F : Def3 K "is_count" "is_count" (topS 18) [] [] f fd) : FnG P w K mg base CX0 2 f fd ["value"] (lift ⟨K, P, w⟩ 1 sp_is_count) := by
  have nd := sc_is_count.nd
  refine F.ok3 sc_is_count fun cdv A outer s H E hr => ⟨t_is_count, ?_, pure_is_count⟩
  exact (ss_one (s_ret (e_and (e_cal lf0 c_is_integer hr (a_cons (e_var 0) a_nil)) (e_one (e_cmp o_ge (e_var 0) e_int)))))
theorem sc_need_ties : FnScope ["events", "ties", "tie"] ["events", "ties"] (defScope (topS 26)) := ⟨rfl, rfl, rfl, by decide +kernel, rfl, by decide +kernel, by decide +kernel⟩
theorem ok_need_ties {f : Addr} {fd : FuncData}  (T : Bl K mg) (c_is_list : Cal3 P w K mg base CX0 1 "is_list" 1 [] (allPos 1) [] 1 (lift ⟨K, P, w⟩ 1 sp_is_list)) (c0_need_event : Cal3 P w K mg base CX0 3 "need_event" 2 [] (allPos 2) [] 2 (lift ⟨K, P, w⟩ 2 sp_need_event)) (c_is_count : Cal3 P w K mg base CX0 2 "is_count" 1 [] (allPos 1) [] 1 (lift ⟨K, P, w⟩ 1 sp_is_count)) (F : Def3 K "need_ties" "need_ties" (topS 26) [] [] f fd) : FnG P w K mg base CX0 4 f fd ["events", "ties"] (lift ⟨K, P, w⟩ 2 sp_need_ties) := by
  have nd := sc_need_ties.nd
  refine F.ok3 sc_need_ties fun cdv A outer s H E hr => ⟨t_need_ties, ?_, pure_need_ties⟩
  exact (ss_cons (s_if (t_w (w_or (t_not (t_val (e_cal lf0 c_is_list hr (a_cons (e_var 1) a_nil)))) (w_or1 (t_cmp o_gt (e_callB (c_len) T.b_len PySem.boot_len (a_cons (e_var 1) a_nil)) (e_gint (T.k_MOST_TIES).choose_spec))))) (ss_one s_never) ss_nil) (ss_one (s_for PassesOwn.never rfl (i_any (e_var 1)) (g_name (i := 2) nd) (ss_cons (s_if (t_w (w_or (t_not (t_val (e_callB c_isi T.b_isinstance (by decide +kernel) (a_cons (e_var 2) (a_cons (e_bty T.b_tuple (by decide +kernel)) a_nil))))) (w_or1 (t_cmp o_neS (e_callB (c_len) T.b_len PySem.boot_len (a_cons (e_var 2) a_nil)) e_int)))) (ss_one s_never) ss_nil) (ss_cons (s_expr (e_cal lf0 c0_need_event hr (a_cons (e_var 0) (a_cons (e_at hr (e_var 2) e_int) a_nil)))) (ss_cons (s_expr (e_cal lf0 c0_need_event hr (a_cons (e_var 0) (a_cons (e_at hr (e_var 2) e_int) a_nil)))) (ss_one (s_if (t_not (t_val (e_cal lf0 c_is_count hr (a_cons (e_at hr (e_var 2) e_int) a_nil)))) (ss_one s_never) ss_nil))))))))
theorem sc_need_limits : FnScope ["events", "limits", "event", "limit"] ["events", "limits"] (defScope (topS 27)) := ⟨rfl, rfl, rfl, by decide +kernel, rfl, by decide +kernel, by decide +kernel⟩
theorem ok_need_limits {f : Addr} {fd : FuncData}  (T : Bl K mg) (c_is_name : Cal3 P w K mg base CX0 1 "is_name" 1 [] (allPos 1) [] 1 (lift ⟨K, P, w⟩ 1 sp_is_name)) (c_is_count : Cal3 P w K mg base CX0 2 "is_count" 1 [] (allPos 1) [] 1 (lift ⟨K, P, w⟩ 1 sp_is_count)) (F : Def3 K "need_limits" "need_limits" (topS 27) [] [] f fd) : FnG P w K mg base CX0 3 f fd ["events", "limits"] (lift ⟨K, P, w⟩ 2 sp_need_limits) := by
  have nd := sc_need_limits.nd
  refine F.ok3 sc_need_limits fun cdv A outer s H E hr => ⟨t_need_limits, ?_, pure_need_limits⟩
  exact (ss_cons (s_if (t_not (t_val (e_callB c_isi T.b_isinstance (by decide +kernel) (a_cons (e_var 1) (a_cons (e_bty T.b_dict (by decide +kernel)) a_nil))))) (ss_one s_never) ss_nil) (ss_one (s_for PassesOwn.never rfl (i_items (e_var 1)) (g_tup rfl (gs_cons (g_name (i := 2) nd) (gs_cons (g_name (i := 3) nd) gs_nil))) (ss_one (s_if (t_w (w_or (t_not (t_val (e_cal lf0 c_is_name hr (a_cons (e_var 2) a_nil)))) (w_or (t_cmp (o_notIn hr) (e_var 2) (e_var 0)) (w_or1 (t_not (t_val (e_cal lf0 c_is_count hr (a_cons (e_var 3) a_nil)))))))) (ss_one s_never) ss_nil)))))
theorem sc_reached : FnScope ["behind", "begin", "found", "waiting", "event"] ["behind", "begin"] (defScope (topS 29)) := ⟨rfl, rfl, rfl, by decide +kernel, rfl, by decide +kernel, by decide +kernel⟩
theorem ok_reached {f : Addr} {fd : FuncData}  (T : Bl K mg)  (F : Def3 K "reached" "reached" (topS 29) [] [] f fd) : FnG P w K mg base CX0 1 f fd ["behind", "begin"] (lift ⟨K, P, w⟩ 2 sp_reached) := by
  have nd := sc_reached.nd
  refine F.ok3 sc_reached fun cdv A outer s H E hr => ⟨t_reached, ?_, pure_reached⟩
  exact (ss_cons (s_set (i := 2) nd (e_lstT a_nil)) (ss_cons (s_set (i := 3) nd (e_callTy c_listT T.b_list (by decide +kernel) (a_cons (e_var 1) a_nil))) (ss_cons (s_while PassesOwn.never (t_cmp (o_neD hr) (e_var 3) (e_lst a_nil)) (ss_cons (s_set (i := 4) nd (e_bm0 PySem.F.plainAttrs_list PySem.F.slot_list_pop PySem.F.type_list_pop m_pop (e_var 3))) (ss_one (s_if (t_cmp (o_notIn hr) (e_var 4) (e_var 2)) (ss_cons (s_expr (e_bm PySem.F.plainAttrs_list PySem.F.slot_list_append PySem.F.type_list_append m_append (e_var 2) (a_cons (e_var 4) a_nil))) (ss_one (s_expr (e_bm PySem.F.plainAttrs_list PySem.F.slot_list_extend PySem.F.type_list_extend m_extend (e_var 3) (a_cons (e_at hr (e_var 0) (e_var 4)) a_nil))))) ss_nil)))) (ss_one (s_ret (e_var 2))))))
theorem sc_need_no_ring : FnScope ["events", "ties", "behind", "event", "earlier", "later", "lag", "found"] ["events", "ties"] (defScope (topS 28)) := ⟨rfl, rfl, rfl, by decide +kernel, rfl, by decide +kernel, by decide +kernel⟩
theorem ok_need_no_ring {f : Addr} {fd : FuncData}  (T : Bl K mg) (c_reached : Cal3 P w K mg base CX0 1 "reached" 2 [] (allPos 2) [] 2 (lift ⟨K, P, w⟩ 2 sp_reached)) (F : Def3 K "need_no_ring" "need_no_ring" (topS 28) [] [] f fd) : FnG P w K mg base CX0 2 f fd ["events", "ties"] (lift ⟨K, P, w⟩ 2 sp_need_no_ring) := by
  have nd := sc_need_no_ring.nd
  refine F.ok3 sc_need_no_ring fun cdv A outer s H E hr => ⟨t_need_no_ring, ?_, pure_need_no_ring⟩
  exact (ss_cons (s_set (i := 2) nd (e_dc (nn := false) (tr := false) (own := [("event", 3)]) (tt := vYes) (tk := (vVar 3)) (tv := (vLstT vNil)) hr rfl nd (i_any (e_var 0)) (blkOk_by (N := ["events", "ties", "behind", "event", "earlier", "later", "lag", "found"]) (sc := defScope (topS 28)) (by decide +kernel)) (u_name 3 (fun _ _ _ _ _ => pg_name (i := 3) nd rfl (by first | exact Or.inl rfl | exact Or.inr rfl))) (fun j hj => hj) (fun _ _ _ _ _ => ts_nil) (fun _ _ _ _ _ => (e_var 3)) (fun _ _ _ _ _ => (e_lstT a_nil)))) (ss_cons (s_for PassesOwn.never rfl (i_any (e_var 1)) (g_tup rfl (gs_cons (g_name (i := 4) nd) (gs_cons (g_name (i := 5) nd) (gs_cons (g_name (i := 6) nd) gs_nil)))) (ss_one (s_if (t_cmp o_eqS (e_var 6) e_int) (ss_one (s_expr (e_bm PySem.F.plainAttrs_list PySem.F.slot_list_append PySem.F.type_list_append m_append (e_at hr (e_var 2) (e_var 4)) (a_cons (e_var 5) a_nil)))) ss_nil))) (ss_cons (s_lcG (j := 7) (own := [("event", 3)]) (tt := (vB (vOp (gIn false) (vVar 3) (vCall 2 sp_reached (vCons (vVar 2) (vCons (vOp gAt (vVar 2) (vVar 3)) vNil)))))) (te := (vVar 3)) rfl nd (i_any (e_var 0)) (blkOk_by (N := ["events", "ties", "behind", "event", "earlier", "later", "lag", "found"]) (sc := defScope (topS 28)) (by decide +kernel)) (u_name 3 (fun _ _ _ _ _ => pg_name (i := 3) nd rfl (by first | exact Or.inl rfl | exact Or.inr rfl))) (fun j hj => hj) (fun _ _ _ _ _ => ts_one (t_cmp (o_in hr) (e_var 3) (e_cal lf0 c_reached hr (a_cons (e_var 2) (a_cons (e_at hr (e_var 2) (e_var 3)) a_nil))))) (fun _ _ _ _ _ => (e_var 3)) (sw_true rfl rfl rfl (by decide +kernel))) (ss_one (s_if (t_cmp o_gt (e_callB (c_len) T.b_len PySem.boot_len (a_cons (e_var 7) a_nil)) e_int) (ss_one s_never) ss_nil)))))
theorem sc_Plan___init__ : FnScope ["self", "events", "ties", "limits", "event"] ["self", "events", "ties", "limits"] (defScope (inClass (topS 30) 0)) := ⟨rfl, rfl, rfl, by decide +kernel, rfl, by decide +kernel, by decide +kernel⟩
theorem ok_Plan___init__ {f : Addr} {fd : FuncData} {e17_0 : Addr} (T : Bl K mg) (c_need_events : Cal3 P w K mg base CX0 2 "need_events" 1 [] (allPos 1) [] 1 (lift ⟨K, P, w⟩ 1 sp_need_events)) (c_need_ties : Cal3 P w K mg base CX0 4 "need_ties" 2 [] (allPos 2) [] 2 (lift ⟨K, P, w⟩ 2 sp_need_ties)) (c_need_limits : Cal3 P w K mg base CX0 3 "need_limits" 2 [] (allPos 2) [] 2 (lift ⟨K, P, w⟩ 2 sp_need_limits)) (c_need_no_ring : Cal3 P w K mg base CX0 2 "need_no_ring" 2 [] (allPos 2) [] 2 (lift ⟨K, P, w⟩ 2 sp_need_no_ring)) (F : Def3 K "__init__" "Plan.__init__" (inClass (topS 30) 0) [(.ref e17_0 : V)] [("limits", (.non : V))] f fd) : FnG P w K mg base CX0 5 f fd ["self", "events", "ties", "limits"] (lift ⟨K, P, w⟩ 4 sp_Plan___init__) := by
  have nd := sc_Plan___init__.nd
  refine F.ok3 sc_Plan___init__ fun cdv A outer s H E hr => ⟨t_Plan___init__, ?_, pure_Plan___init__⟩
  exact (ss_cons (s_expr (e_cal lf0 c_need_events hr (a_cons (e_var 1) a_nil))) (ss_cons (s_expr (e_cal lf0 c_need_ties hr (a_cons (e_var 1) (a_cons (e_var 2) a_nil)))) (ss_cons (s_if (t_cmp o_notN (e_var 3) e_non) (ss_one (s_expr (e_cal lf0 c_need_limits hr (a_cons (e_var 1) (a_cons (e_var 3) a_nil))))) ss_nil) (ss_cons (s_expr (e_cal lf0 c_need_no_ring hr (a_cons (e_var 1) (a_cons (e_var 2) a_nil)))) (ss_cons (s_fld T.f_Plan_own_events (e_callTy c_list T.b_list (by decide +kernel) (a_cons (e_var 1) a_nil)) (e_var 0)) (ss_cons (s_fld T.f_Plan_own_ties (e_callTy c_list T.b_list (by decide +kernel) (a_cons (e_var 2) a_nil)) (e_var 0)) (ss_one (s_fld T.f_Plan_own_limits (e_dc (nn := false) (tr := false) (own := [("event", 4)]) (tt := (vAnd (vB (vOp gNotN (vVar 3) (vC .non))) (vB (vOp (gIn false) (vVar 4) (vVar 3))))) (tk := (vVar 4)) (tv := (vOp gAt (vVar 3) (vVar 4))) hr rfl nd (i_any (e_var 1)) (blkOk_by (N := ["self", "events", "ties", "limits", "event"]) (sc := defScope (inClass (topS 30) 0)) (by decide +kernel)) (u_name 4 (fun _ _ _ _ _ => pg_name (i := 4) nd rfl (by first | exact Or.inl rfl | exact Or.inr rfl))) (fun j hj => hj) (fun _ _ _ _ _ => ts_one (t_w (w_and (t_cmp o_notN (e_var 3) e_non) (w_and1 (t_cmp (o_in hr) (e_var 4) (e_var 3)))))) (fun _ _ _ _ _ => (e_var 4)) (fun _ _ _ _ _ => (e_at hr (e_var 3) (e_var 4)))) (e_var 0)))))))))
theorem sc__law_plan : FnScope ["_law_model_here"] ["_law_model_here"] (defScope (topS 48)) := ⟨rfl, rfl, rfl, by decide +kernel, rfl, by decide +kernel, by decide +kernel⟩
theorem ok__law_plan {f : Addr} {fd : FuncData}  (T : Bl K mg) (k_Plan___init____3_limits : Mak3 P w K mg base CX0 5 "Plan" 2 ["limits"] [.pos 0, .pos 1, .pos 2, .kw 0] [] 4 (lift ⟨K, P, w⟩ 4 sp_Plan___init__)) (F : Def3 K "_law_plan" "_law_plan" (topS 48) [] [] f fd) : FnG P w K mg base CX0 7 f fd ["_law_model_here"] (lift ⟨K, P, w⟩ 1 spg__law_plan) := by
  have nd := sc__law_plan.nd
  refine F.ok3 sc__law_plan fun cdv A outer s H E hr => ⟨tg__law_plan, ?_, pureg__law_plan⟩
  exact (ss_one (s_ret (e_makK lf0 k_Plan___init____3_limits hr (a_cons (e_at hr (e_var 0) e_int) (a_cons (e_at hr (e_var 0) e_int) a_nil)) (k_cons (e_at hr (e_var 0) e_int) k_nil))))
theorem sc_need_plan : FnScope ["value"] ["value"] (defScope (topS 31)) := ⟨rfl, rfl, rfl, by decide +kernel, rfl, by decide +kernel, by decide +kernel⟩
theorem ok_need_plan {f : Addr} {fd : FuncData}  (T : Bl K mg) (x_InvalidPlan : XMk P w K mg base 1 "InvalidPlan" "value") (F : Def3 K "need_plan" "need_plan" (topS 31) [] [] f fd) : FnG P w K mg base (L2.CX P w) 3 f fd ["value"] (liftX ⟨K, P, w⟩ 1 spx_need_plan) := by
  have nd := sc_need_plan.nd
  refine F.okX sc_need_plan fun cdv A outer s H E hr => ⟨tx_need_plan, fun Z V => ?_, purex_need_plan⟩
  exact (ss_one (s_if (t_not (t_val (e_callB (c_isC (ns := ["Table"]) T.c_Plan (by intro n hn; simp only [List.mem_cons, List.not_mem_nil, or_false] at hn; rcases hn with rfl <;> first | exact T.a_Table_Plan)) T.b_isinstance (by decide +kernel) (a_cons (e_var 0) (a_cons (e_gcls T.c_Plan) a_nil))))) (ss_one (s_raise V x_InvalidPlan hr rfl (e_var 0))) ss_nil))
theorem sc_Plan_events : FnScope ["self"] ["self"] (defScope (inClass (topS 30) 1)) := ⟨rfl, rfl, rfl, by decide +kernel, rfl, by decide +kernel, by decide +kernel⟩
theorem ok_Plan_events {f : Addr} {fd : FuncData}  (T : Bl K mg)  (F : Def3 K "events" "Plan.events" (inClass (topS 30) 1) [] [] f fd) : FnG P w K mg base CX0 1 f fd ["self"] (lift ⟨K, P, w⟩ 1 spg_Plan_events) := by
  have nd := sc_Plan_events.nd
  refine F.ok3 sc_Plan_events fun cdv A outer s H E hr => ⟨tg_Plan_events, ?_, pureg_Plan_events⟩
  exact (ss_one (s_ret (e_callTy c_list T.b_list (by decide +kernel) (a_cons (e_fld T.f_Plan_own_events (e_var 0)) a_nil))))
theorem sc_Plan_ties : FnScope ["self"] ["self"] (defScope (inClass (topS 30) 2)) := ⟨rfl, rfl, rfl, by decide +kernel, rfl, by decide +kernel, by decide +kernel⟩
theorem ok_Plan_ties {f : Addr} {fd : FuncData}  (T : Bl K mg)  (F : Def3 K "ties" "Plan.ties" (inClass (topS 30) 2) [] [] f fd) : FnG P w K mg base CX0 1 f fd ["self"] (lift ⟨K, P, w⟩ 1 spg_Plan_ties) := by
  have nd := sc_Plan_ties.nd
  refine F.ok3 sc_Plan_ties fun cdv A outer s H E hr => ⟨tg_Plan_ties, ?_, pureg_Plan_ties⟩
  exact (ss_one (s_ret (e_callTy c_list T.b_list (by decide +kernel) (a_cons (e_fld T.f_Plan_own_ties (e_var 0)) a_nil))))
theorem sc_Plan_limits : FnScope ["self"] ["self"] (defScope (inClass (topS 30) 3)) := ⟨rfl, rfl, rfl, by decide +kernel, rfl, by decide +kernel, by decide +kernel⟩
theorem ok_Plan_limits {f : Addr} {fd : FuncData}  (T : Bl K mg)  (F : Def3 K "limits" "Plan.limits" (inClass (topS 30) 3) [] [] f fd) : FnG P w K mg base CX0 1 f fd ["self"] (lift ⟨K, P, w⟩ 1 spg_Plan_limits) := by
  have nd := sc_Plan_limits.nd
  refine F.ok3 sc_Plan_limits fun cdv A outer s H E hr => ⟨tg_Plan_limits, ?_, pureg_Plan_limits⟩
  exact (ss_one (s_ret (e_callTy (c_dict (trk := false) rfl) T.b_dict (by decide +kernel) (a_cons (e_fld T.f_Plan_own_limits (e_var 0)) a_nil))))
theorem sc_rows_of : FnScope ["plan", "found", "index", "earlier", "later", "lag", "event", "limit"] ["plan"] (defScope (topS 36)) := ⟨rfl, rfl, rfl, by decide +kernel, rfl, by decide +kernel, by decide +kernel⟩
theorem ok_rows_of {f : Addr} {fd : FuncData}  (T : Bl K mg) (m_Plan_ties : Met3 P w K mg base CX0 1 "Plan" "ties" 0 [] (allPos 1) [] 1 (lift ⟨K, P, w⟩ 1 spg_Plan_ties)) (m_Plan_limits : Met3 P w K mg base CX0 1 "Plan" "limits" 0 [] (allPos 1) [] 1 (lift ⟨K, P, w⟩ 1 spg_Plan_limits)) (m_Plan_events : Met3 P w K mg base CX0 1 "Plan" "events" 0 [] (allPos 1) [] 1 (lift ⟨K, P, w⟩ 1 spg_Plan_events)) (F : Def3 K "rows_of" "rows_of" (topS 36) [] [] f fd) : FnG P w K mg base CX0 2 f fd ["plan"] (lift ⟨K, P, w⟩ 1 spg_rows_of) := by
  have nd := sc_rows_of.nd
  refine F.ok3 sc_rows_of fun cdv A outer s H E hr => ⟨tg_rows_of, ?_, pureg_rows_of⟩
  exact (ss_cons (s_lcT (j := 1) (own := [("index", 2), ("earlier", 3), ("later", 4), ("lag", 5)]) (tt := vYes) (te := (vTup (vCons (vVar 3) (vCons (vVar 4) (vCons (vVar 5) (vCons (vTup (vCons (vC (.str "tie")) (vCons (vVar 2) vNil))) vNil)))))) rfl nd (i_enum T.b_enumerate (a_cons (e_metA0 lf0 m_Plan_ties hr (e_var 0)) a_nil)) (blkOk_by (N := ["plan", "found", "index", "earlier", "later", "lag", "event", "limit"]) (sc := defScope (topS 36)) (by decide +kernel)) (u_tup rfl (us_cons (u_name 2 (fun _ _ _ _ _ => pg_name (i := 2) nd rfl (by first | exact Or.inl rfl | exact Or.inr rfl))) (us_cons (u_tup rfl (us_cons (u_name 3 (fun _ _ _ _ _ => pg_name (i := 3) nd rfl (by first | exact Or.inl rfl | exact Or.inr rfl))) (us_cons (u_name 4 (fun _ _ _ _ _ => pg_name (i := 4) nd rfl (by first | exact Or.inl rfl | exact Or.inr rfl))) (us_cons (u_name 5 (fun _ _ _ _ _ => pg_name (i := 5) nd rfl (by first | exact Or.inl rfl | exact Or.inr rfl))) us_nil)))) us_nil))) (fun j hj => hj) (fun _ _ _ _ _ => ts_nil) (fun _ _ _ _ _ => (e_tup (a_cons (e_var 3) (a_cons (e_var 4) (a_cons (e_var 5) (a_cons (e_tup (a_cons (e_gstr (T.k_TIE).choose_spec) (a_cons (e_var 2) a_nil))) a_nil)))))) (sw_true rfl rfl rfl (by decide +kernel))) (ss_cons (s_aug (i := 1) nd (e_lcG (own := [("event", 6), ("limit", 7)]) (tt := vYes) (te := (vTup (vCons (vC .non) (vCons (vVar 6) (vCons (vVar 7) (vCons (vTup (vCons (vC (.str "limit")) (vCons (vVar 6) vNil))) vNil)))))) rfl nd (i_items (e_metA0 lf0 m_Plan_limits hr (e_var 0))) (blkOk_by (N := ["plan", "found", "index", "earlier", "later", "lag", "event", "limit"]) (sc := defScope (topS 36)) (by decide +kernel)) (u_tup rfl (us_cons (u_name 6 (fun _ _ _ _ _ => pg_name (i := 6) nd rfl (by first | exact Or.inl rfl | exact Or.inr rfl))) (us_cons (u_name 7 (fun _ _ _ _ _ => pg_name (i := 7) nd rfl (by first | exact Or.inl rfl | exact Or.inr rfl))) us_nil))) (fun j hj => hj) (fun _ _ _ _ _ => ts_nil) (fun _ _ _ _ _ => (e_tup (a_cons e_non (a_cons (e_var 6) (a_cons (e_var 7) (a_cons (e_tup (a_cons (e_gstr (T.k_HOLD).choose_spec) (a_cons (e_var 6) a_nil))) a_nil))))))) ip_iadd) (ss_one (s_ret (e_op o_add (e_var 1) (e_lcG (own := [("event", 6)]) (tt := vYes) (te := (vTup (vCons (vVar 6) (vCons (vC .non) (vCons (vC (.int 0)) (vCons (vTup (vCons (vC (.str "none")) (vCons (vVar 6) vNil))) vNil)))))) rfl nd (i_any (e_metA0 lf0 m_Plan_events hr (e_var 0))) (blkOk_by (N := ["plan", "found", "index", "earlier", "later", "lag", "event", "limit"]) (sc := defScope (topS 36)) (by decide +kernel)) (u_name 6 (fun _ _ _ _ _ => pg_name (i := 6) nd rfl (by first | exact Or.inl rfl | exact Or.inr rfl))) (fun j hj => hj) (fun _ _ _ _ _ => ts_nil) (fun _ _ _ _ _ => (e_tup (a_cons (e_var 6) (a_cons e_non (a_cons e_int (a_cons (e_tup (a_cons (e_gstr (T.k_NONE).choose_spec) (a_cons (e_var 6) a_nil))) a_nil))))))))))))
theorem sc_leads_of : FnScope ["nodes", "rows", "leads", "node", "steps", "earlier", "later", "lag", "name", "middle", "lead"] ["nodes", "rows"] (defScope (topS 37)) := ⟨rfl, rfl, rfl, by decide +kernel, rfl, by decide +kernel, by decide +kernel⟩
theorem ok_leads_of {f : Addr} {fd : FuncData}  (T : Bl K mg)  (F : Def3 K "leads_of" "leads_of" (topS 37) [] [] f fd) : FnG P w K mg base CX0 1 f fd ["nodes", "rows"] (lift ⟨K, P, w⟩ 2 sp_leads_of) := by
  have nd := sc_leads_of.nd
  refine F.ok3 sc_leads_of fun cdv A outer s H E hr => ⟨t_leads_of, ?_, pure_leads_of⟩
  exact (ss_cons (s_dc (j := 2) (nn := true) (tr := true) (own := [("node", 3)]) (tt := vYes) (tk := (vTup (vCons (vVar 3) (vCons (vVar 3) vNil)))) (tv := (vC (.int 0))) hr rfl nd (i_any (e_var 0)) (blkOk_by (N := ["nodes", "rows", "leads", "node", "steps", "earlier", "later", "lag", "name", "middle", "lead"]) (sc := defScope (topS 37)) (by decide +kernel)) (u_name 3 (fun _ _ _ _ _ => pg_name (i := 3) nd rfl (by first | exact Or.inl rfl | exact Or.inr rfl))) (fun j hj => hj) (fun _ _ _ _ _ => ts_nil) (fun _ _ _ _ _ => (e_tup (a_cons (e_var 3) (a_cons (e_var 3) a_nil)))) (fun _ _ _ _ _ => e_int) (sw_dict rfl rfl rfl (by decide +kernel))) (ss_cons (s_set (i := 4) nd e_dict0N) (ss_cons (s_for PassesOwn.never rfl (i_any (e_var 1)) (g_tup rfl (gs_cons (g_name (i := 5) nd) (gs_cons (g_name (i := 6) nd) (gs_cons (g_name (i := 7) nd) (gs_cons (g_name (i := 8) nd) gs_nil))))) (ss_one (s_if (t_w (w_or (t_cmp (o_notIn hr) (e_tup (a_cons (e_var 5) (a_cons (e_var 6) a_nil))) (e_var 2)) (w_or1 (t_cmp o_lt (e_var 7) (e_at hr (e_var 2) (e_tup (a_cons (e_var 5) (a_cons (e_var 6) a_nil)))))))) (ss_cons (s_sub (st_any hr) (e_var 7) (e_var 2) (e_tup (a_cons (e_var 5) (a_cons (e_var 6) a_nil)))) (ss_one (s_sub (st_any hr) (e_var 8) (e_var 4) (e_tup (a_cons (e_var 5) (a_cons (e_var 6) a_nil)))))) ss_nil))) (ss_cons (s_for PassesOwn.never rfl (i_any (e_var 0)) (g_name (i := 9) nd) (ss_one (s_for PassesOwn.never rfl (i_any (e_var 0)) (g_name (i := 5) nd) (ss_one (s_for PassesOwn.never rfl (i_any (e_var 0)) (g_name (i := 6) nd) (ss_one (s_if (t_w (w_and (t_cmp (o_in hr) (e_tup (a_cons (e_var 5) (a_cons (e_var 9) a_nil))) (e_var 2)) (w_and1 (t_cmp (o_in hr) (e_tup (a_cons (e_var 9) (a_cons (e_var 6) a_nil))) (e_var 2))))) (ss_cons (s_set (i := 10) nd (e_op o_add (e_at hr (e_var 2) (e_tup (a_cons (e_var 5) (a_cons (e_var 9) a_nil)))) (e_at hr (e_var 2) (e_tup (a_cons (e_var 9) (a_cons (e_var 6) a_nil)))))) (ss_one (s_if (t_w (w_or (t_cmp (o_notIn hr) (e_tup (a_cons (e_var 5) (a_cons (e_var 6) a_nil))) (e_var 2)) (w_or1 (t_cmp o_lt (e_var 10) (e_at hr (e_var 2) (e_tup (a_cons (e_var 5) (a_cons (e_var 6) a_nil)))))))) (ss_cons (s_sub (st_any hr) (e_var 10) (e_var 2) (e_tup (a_cons (e_var 5) (a_cons (e_var 6) a_nil)))) (ss_one (s_sub (st_any hr) (e_var 9) (e_var 4) (e_tup (a_cons (e_var 5) (a_cons (e_var 6) a_nil)))))) ss_nil))) ss_nil))))))) (ss_one (s_ret (e_tup (a_cons (e_var 2) (a_cons (e_var 4) a_nil)))))))))
theorem sc_Table___init__ : FnScope ["self", "plan"] ["self", "plan"] (defScope (inClass (topS 39) 0)) := ⟨rfl, rfl, rfl, by decide +kernel, rfl, by decide +kernel, by decide +kernel⟩
theorem ok_Table___init__ {f : Addr} {fd : FuncData}  (T : Bl K mg) (c_need_plan : Cal3 P w K mg base (L2.CX P w) 3 "need_plan" 1 [] (allPos 1) [] 1 (liftX ⟨K, P, w⟩ 1 spx_need_plan)) (m_Plan_events : Met3 P w K mg base CX0 1 "Plan" "events" 0 [] (allPos 1) [] 1 (lift ⟨K, P, w⟩ 1 spg_Plan_events)) (c_leads_of : Cal3 P w K mg base CX0 1 "leads_of" 2 [] (allPos 2) [] 2 (lift ⟨K, P, w⟩ 2 sp_leads_of)) (c_rows_of : Cal3 P w K mg base CX0 2 "rows_of" 1 [] (allPos 1) [] 1 (lift ⟨K, P, w⟩ 1 spg_rows_of)) (F : Def3 K "__init__" "Table.__init__" (inClass (topS 39) 0) [] [] f fd) : FnG P w K mg base (L2.CX P w) 4 f fd ["self", "plan"] (liftX ⟨K, P, w⟩ 2 spx_Table___init__) := by
  have nd := sc_Table___init__.nd
  refine F.okX sc_Table___init__ fun cdv A outer s H E hr => ⟨tx_Table___init__, fun Z V => ?_, purex_Table___init__⟩
  exact (ss_cons (s_expr (e_calX V c_need_plan hr (a_cons (e_var 1) a_nil))) (ss_cons (s_fld T.f_Table_row_of_events (e_metA0 lf0 m_Plan_events hr (e_var 1)) (e_var 0)) (ss_one (s_fld2 T.f_Table_leads T.f_Table_steps rfl (e_cal lf0 c_leads_of hr (a_cons (e_lst (a_cons e_non (a_star (e_fld T.f_Table_row_of_events (e_var 0)) a_nil))) (a_cons (e_cal lf0 c_rows_of hr (a_cons (e_var 1) a_nil)) a_nil))) (e_var 0) (e_var 0)))))
theorem sc_Table_lead : FnScope ["self", "earlier", "later"] ["self", "earlier", "later"] (defScope (inClass (topS 39) 2)) := ⟨rfl, rfl, rfl, by decide +kernel, rfl, by decide +kernel, by decide +kernel⟩
theorem ok_Table_lead {f : Addr} {fd : FuncData}  (T : Bl K mg) (c_need_event : Cal3 P w K mg base (L2.CX P w) 3 "need_event" 2 [] (allPos 2) [] 2 (liftX ⟨K, P, w⟩ 2 spx_need_event)) (F : Def3 K "lead" "Table.lead" (inClass (topS 39) 2) [] [] f fd) : FnG P w K mg base (L2.CX P w) 4 f fd ["self", "earlier", "later"] (liftX ⟨K, P, w⟩ 3 spx_Table_lead) := by
  have nd := sc_Table_lead.nd
  refine F.okX sc_Table_lead fun cdv A outer s H E hr => ⟨tx_Table_lead, fun Z V => ?_, purex_Table_lead⟩
  exact (ss_cons (s_expr (e_calX V c_need_event hr (a_cons (e_fld T.f_Table_row_of_events (e_var 0)) (a_cons (e_var 1) a_nil)))) (ss_cons (s_expr (e_calX V c_need_event hr (a_cons (e_fld T.f_Table_row_of_events (e_var 0)) (a_cons (e_var 2) a_nil)))) (ss_one (s_ret (e_get1 hr (e_fld T.f_Table_leads (e_var 0)) (e_tup (a_cons (e_var 1) (a_cons (e_var 2) a_nil))))))))
theorem sc_chain_of : FnScope ["steps", "earlier", "later", "step"] ["steps", "earlier", "later"] (defScope (topS 38)) := ⟨rfl, rfl, rfl, by decide +kernel, rfl, by decide +kernel, by decide +kernel⟩
theorem ok_chain_of {f : Addr} {fd : FuncData} (T : Bl K mg) (hm : mg "chain_of" = some (.ref f)) (kp : PySem.W.keepIn K (.ref f) = true) (bd : Bd3 K fd ["steps", "earlier", "later"] 3 [] (allPos 3) []) (F : Def3 K "chain_of" "chain_of" (topS 38) [] [] f fd) : ∀ m, FnG P w K mg base CX0 (m + 1) f fd ["steps", "earlier", "later"] (lift ⟨K, P, w⟩ 3 (sp_chain_of m))
  | 0 => fng_no no_chain_of
  | m + 1 => by
    have c_chain_of : Cal3 P w K mg base CX0 (m + 1) "chain_of" 3 [] (allPos 3) [] 3 (lift ⟨K, P, w⟩ 3 (sp_chain_of m)) := ⟨⟨_, _, _, hm, kp, bd, ok_chain_of T hm kp bd F m⟩, rfl, rfl⟩
    have nd := sc_chain_of.nd
    refine F.ok3 (k := m + 1) sc_chain_of fun cdv A outer s H E hr => ⟨t_chain_of m, ?_, pure_chain_of m⟩
    exact (ss_cons (s_if (t_cmp o_eqS (e_var 1) (e_var 2)) (ss_one (s_ret (e_lst a_nil))) ss_nil) (ss_cons (s_set (i := 3) nd (e_at hr (e_var 0) (e_tup (a_cons (e_var 1) (a_cons (e_var 2) a_nil))))) (ss_cons (s_if (t_val (e_callB c_isi T.b_isinstance (by decide +kernel) (a_cons (e_var 3) (a_cons (e_bty T.b_tuple (by decide +kernel)) a_nil)))) (ss_one (s_ret (e_lst (a_cons (e_var 3) a_nil)))) ss_nil) (ss_one (s_ret (e_op o_add (e_cal lf0 c_chain_of hr (a_cons (e_var 0) (a_cons (e_var 1) (a_cons (e_var 3) a_nil))) (hk := Nat.le_refl _)) (e_cal lf0 c_chain_of hr (a_cons (e_var 0) (a_cons (e_var 3) (a_cons (e_var 2) a_nil))) (hk := Nat.le_refl _))))))))
theorem sc_Table_chain : FnScope ["self", "earlier", "later", "lead"] ["self", "earlier", "later"] (defScope (inClass (topS 39) 4)) := ⟨rfl, rfl, rfl, by decide +kernel, rfl, by decide +kernel, by decide +kernel⟩
theorem ok_Table_chain {f : Addr} {fd : FuncData}  (T : Bl K mg) (m_Table_lead : Met3 P w K mg base (L2.CX P w) 4 "Table" "lead" 2 [] (allPos 3) [] 3 (liftX ⟨K, P, w⟩ 3 spx_Table_lead)) (c_chain_of : Cal3 P w K mg base CX0 11 "chain_of" 3 [] (allPos 3) [] 3 (lift ⟨K, P, w⟩ 3 (sp_chain_of 10))) (F : Def3 K "chain" "Table.chain" (inClass (topS 39) 4) [] [] f fd) : FnG P w K mg base (L2.CX P w) 12 f fd ["self", "earlier", "later"] (liftX ⟨K, P, w⟩ 3 spx_Table_chain) := by
  have nd := sc_Table_chain.nd
  refine F.okX sc_Table_chain fun cdv A outer s H E hr => ⟨tx_Table_chain, fun Z V => ?_, purex_Table_chain⟩
  exact (ss_cons (s_set (i := 3) nd (e_metAX V m_Table_lead hr (e_var 0) (a_cons (e_var 1) (a_cons (e_var 2) a_nil)))) (ss_one (s_ret (e_if (t_cmp o_isN (e_var 3) e_non) e_non (e_cal lf0 c_chain_of hr (a_cons (e_fld T.f_Table_steps (e_var 0)) (a_cons (e_var 1) (a_cons (e_var 2) a_nil))))))))
theorem sc_Table_most : FnScope ["self", "event"] ["self", "event"] (defScope (inClass (topS 39) 3)) := ⟨rfl, rfl, rfl, by decide +kernel, rfl, by decide +kernel, by decide +kernel⟩
theorem ok_Table_most {f : Addr} {fd : FuncData}  (T : Bl K mg) (c_need_event : Cal3 P w K mg base (L2.CX P w) 3 "need_event" 2 [] (allPos 2) [] 2 (liftX ⟨K, P, w⟩ 2 spx_need_event)) (F : Def3 K "most" "Table.most" (inClass (topS 39) 3) [] [] f fd) : FnG P w K mg base (L2.CX P w) 4 f fd ["self", "event"] (liftX ⟨K, P, w⟩ 2 spx_Table_most) := by
  have nd := sc_Table_most.nd
  refine F.okX sc_Table_most fun cdv A outer s H E hr => ⟨tx_Table_most, fun Z V => ?_, purex_Table_most⟩
  exact (ss_cons (s_expr (e_calX V c_need_event hr (a_cons (e_fld T.f_Table_row_of_events (e_var 0)) (a_cons (e_var 1) a_nil)))) (ss_one (s_ret (e_get1 hr (e_fld T.f_Table_leads (e_var 0)) (e_tup (a_cons e_non (a_cons (e_var 1) a_nil)))))))
theorem sc_Table_least : FnScope ["self", "event", "count", "most", "other"] ["self", "event", "count"] (defScope (inClass (topS 39) 7)) := ⟨rfl, rfl, rfl, by decide +kernel, rfl, by decide +kernel, by decide +kernel⟩
theorem ok_Table_least {f : Addr} {fd : FuncData}  (T : Bl K mg) (m_Table_most : Met3 P w K mg base (L2.CX P w) 4 "Table" "most" 1 [] (allPos 2) [] 2 (liftX ⟨K, P, w⟩ 2 spx_Table_most)) (c_is_count : Cal3 P w K mg base CX0 2 "is_count" 1 [] (allPos 1) [] 1 (lift ⟨K, P, w⟩ 1 sp_is_count)) (x_InvalidInteger : XMk P w K mg base 1 "InvalidInteger" "value") (F : Def3 K "least" "Table.least" (inClass (topS 39) 7) [] [] f fd) : FnG P w K mg base (L2.CX P w) 5 f fd ["self", "event", "count"] (liftX ⟨K, P, w⟩ 3 spx_Table_least) := by
  have nd := sc_Table_least.nd
  refine F.okX sc_Table_least fun cdv A outer s H E hr => ⟨tx_Table_least, fun Z V => ?_, purex_Table_least⟩
  exact (ss_cons (s_set (i := 3) nd (e_metAX V m_Table_most hr (e_var 0) (a_cons (e_var 1) a_nil))) (ss_cons (s_if (t_not (t_val (e_cal lf0 c_is_count hr (a_cons (e_var 2) a_nil)))) (ss_one (s_raise V x_InvalidInteger hr rfl (e_var 2))) ss_nil) (ss_cons (s_if (t_w (w_and (t_cmp o_notN (e_var 3) e_non) (w_and1 (t_cmp o_gt (e_var 2) (e_var 3))))) (ss_one (s_ret e_non)) ss_nil) (ss_one (s_ret (e_dc (nn := false) (tr := true) (own := [("other", 4)]) (tt := vYes) (tk := (vVar 4)) (tv := (vCB gMax2 (vCons (vC (.int 0)) (vCons (vOp gSub (vVar 2) (vGet2 (vFld "Table" "leads" (vVar 0)) (vTup (vCons (vVar 4) (vCons (vVar 1) vNil))) (vVar 2))) vNil)))) hr rfl nd (i_any (e_fld T.f_Table_row_of_events (e_var 0))) (blkOk_by (N := ["self", "event", "count", "most", "other"]) (sc := defScope (inClass (topS 39) 7)) (by decide +kernel)) (u_name 4 (fun _ _ _ _ _ => pg_name (i := 4) nd rfl (by first | exact Or.inl rfl | exact Or.inr rfl))) (fun j hj => hj) (fun _ _ _ _ _ => ts_nil) (fun _ _ _ _ _ => (e_var 4)) (fun _ _ _ _ _ => (e_callB (c_max2 rfl) T.b_max (by decide +kernel) (a_cons e_int (a_cons (e_op o_sub (e_var 2) (e_get2 hr (e_fld T.f_Table_leads (e_var 0)) (e_tup (a_cons (e_var 4) (a_cons (e_var 1) a_nil))) (e_var 2))) a_nil))))))))))
theorem sc_Table_shown : FnScope ["self", "earlier", "later", "lead"] ["self", "earlier", "later"] (defScope (inClass (topS 39) 6)) := ⟨rfl, rfl, rfl, by decide +kernel, rfl, by decide +kernel, by decide +kernel⟩
theorem ok_Table_shown {f : Addr} {fd : FuncData}  (T : Bl K mg) (m_Table_lead : Met3 P w K mg base (L2.CX P w) 4 "Table" "lead" 2 [] (allPos 3) [] 3 (liftX ⟨K, P, w⟩ 3 spx_Table_lead)) (m_Table_least : Met3 P w K mg base (L2.CX P w) 5 "Table" "least" 2 [] (allPos 3) [] 3 (liftX ⟨K, P, w⟩ 3 spx_Table_least)) (F : Def3 K "shown" "Table.shown" (inClass (topS 39) 6) [] [] f fd) : FnG P w K mg base (L2.CX P w) 6 f fd ["self", "earlier", "later"] (liftX ⟨K, P, w⟩ 3 spx_Table_shown) := by
  have nd := sc_Table_shown.nd
  refine F.okX sc_Table_shown fun cdv A outer s H E hr => ⟨tx_Table_shown, fun Z V => ?_, purex_Table_shown⟩
  exact (ss_cons (s_set (i := 3) nd (e_metAX V m_Table_lead hr (e_var 0) (a_cons (e_var 1) (a_cons (e_var 2) a_nil)))) (ss_one (s_ret (e_if (t_cmp o_isN (e_var 3) e_non) e_non (e_metAX V m_Table_least hr (e_var 0) (a_cons (e_var 2) (a_cons (e_var 3) a_nil)))))))
theorem sc_Table_held : FnScope ["self", "event", "most"] ["self", "event"] (defScope (inClass (topS 39) 5)) := ⟨rfl, rfl, rfl, by decide +kernel, rfl, by decide +kernel, by decide +kernel⟩
theorem ok_Table_held {f : Addr} {fd : FuncData}  (T : Bl K mg) (m_Table_most : Met3 P w K mg base (L2.CX P w) 4 "Table" "most" 1 [] (allPos 2) [] 2 (liftX ⟨K, P, w⟩ 2 spx_Table_most)) (c_chain_of : Cal3 P w K mg base CX0 11 "chain_of" 3 [] (allPos 3) [] 3 (lift ⟨K, P, w⟩ 3 (sp_chain_of 10))) (F : Def3 K "held" "Table.held" (inClass (topS 39) 5) [] [] f fd) : FnG P w K mg base (L2.CX P w) 12 f fd ["self", "event"] (liftX ⟨K, P, w⟩ 2 spx_Table_held) := by
  have nd := sc_Table_held.nd
  refine F.okX sc_Table_held fun cdv A outer s H E hr => ⟨tx_Table_held, fun Z V => ?_, purex_Table_held⟩
  exact (ss_cons (s_set (i := 2) nd (e_metAX V m_Table_most hr (e_var 0) (a_cons (e_var 1) a_nil))) (ss_one (s_ret (e_if (t_cmp o_isN (e_var 2) e_non) e_non (e_cal lf0 c_chain_of hr (a_cons (e_fld T.f_Table_steps (e_var 0)) (a_cons e_non (a_cons (e_var 1) a_nil))))))))
theorem sc__law_told : FnScope ["_law_table", "_law_way", "_law_one", "_law_other", "e"] ["_law_table", "_law_way", "_law_one", "_law_other"] (defScope (topS 49)) := ⟨rfl, rfl, rfl, by decide +kernel, rfl, by decide +kernel, by decide +kernel⟩
theorem ok__law_told {f : Addr} {fd : FuncData}  (T : Bl K mg) (k_Table___init__ : Mak3 P w K mg base (L2.CX P w) 4 "Table" 1 [] (allPos 2) [] 2 (liftX ⟨K, P, w⟩ 2 spx_Table___init__)) (m_Table_lead : Met3 P w K mg base (L2.CX P w) 4 "Table" "lead" 2 [] (allPos 3) [] 3 (liftX ⟨K, P, w⟩ 3 spx_Table_lead)) (m_Table_chain : Met3 P w K mg base (L2.CX P w) 12 "Table" "chain" 2 [] (allPos 3) [] 3 (liftX ⟨K, P, w⟩ 3 spx_Table_chain)) (m_Table_shown : Met3 P w K mg base (L2.CX P w) 6 "Table" "shown" 2 [] (allPos 3) [] 3 (liftX ⟨K, P, w⟩ 3 spx_Table_shown)) (m_Table_least : Met3 P w K mg base (L2.CX P w) 5 "Table" "least" 2 [] (allPos 3) [] 3 (liftX ⟨K, P, w⟩ 3 spx_Table_least)) (m_Table_most : Met3 P w K mg base (L2.CX P w) 4 "Table" "most" 1 [] (allPos 2) [] 2 (liftX ⟨K, P, w⟩ 2 spx_Table_most)) (m_Table_held : Met3 P w K mg base (L2.CX P w) 12 "Table" "held" 1 [] (allPos 2) [] 2 (liftX ⟨K, P, w⟩ 2 spx_Table_held)) (F : Def3 K "_law_told" "_law_told" (topS 49) [] [] f fd) : FnG P w K mg base CX0 13 f fd ["_law_table", "_law_way", "_law_one", "_law_other"] (lift ⟨K, P, w⟩ 4 sp__law_told) := by
  have nd := sc__law_told.nd
  refine F.ok3 sc__law_told fun cdv A outer s H E hr => ⟨t__law_told, ?_, pure__law_told⟩
  exact (ss_cons (s_try (Xz.no _ _) nd (fun pn0 xe0 po0 Y0 U0 => (ss_cons (s_if (t_cmp o_eqS (e_var 1) e_str) (ss_one (s_expr (e_makX U0 k_Table___init__ hr (a_cons (e_var 2) a_nil)))) ss_nil) (ss_cons (s_if (t_cmp o_eqS (e_var 1) e_str) (ss_one (s_expr (e_metAX U0 m_Table_lead hr (e_var 0) (a_cons (e_var 2) (a_cons (e_var 3) a_nil))))) ss_nil) (ss_cons (s_if (t_cmp o_eqS (e_var 1) e_str) (ss_one (s_expr (e_metAX U0 m_Table_chain hr (e_var 0) (a_cons (e_var 2) (a_cons (e_var 3) a_nil))))) ss_nil) (ss_cons (s_if (t_cmp o_eqS (e_var 1) e_str) (ss_one (s_expr (e_metAX U0 m_Table_shown hr (e_var 0) (a_cons (e_var 2) (a_cons (e_var 3) a_nil))))) ss_nil) (ss_cons (s_if (t_cmp o_eqS (e_var 1) e_str) (ss_one (s_expr (e_metAX U0 m_Table_least hr (e_var 0) (a_cons (e_var 2) (a_cons (e_var 3) a_nil))))) ss_nil) (ss_cons (s_if (t_cmp o_eqS (e_var 1) e_str) (ss_one (s_expr (e_metAX U0 m_Table_most hr (e_var 0) (a_cons (e_var 2) a_nil)))) ss_nil) (ss_one (s_if (t_cmp o_eqS (e_var 1) e_str) (ss_one (s_expr (e_metAX U0 m_Table_held hr (e_var 0) (a_cons (e_var 2) a_nil)))) ss_nil))))))))) (.named (i := 4) ⟨rfl, by decide⟩ T.h_InvalidPlan ⟨rfl, rfl⟩ (fun a o C dd pn n fs gs z hv hC hy => (by have hn : n = "InvalidPlan" := (by simpa using hy); subst hn; exact (ss_one (s_ret (e_lst (a_cons e_str (a_cons (e_xf z hv hC T.xf_InvalidPlan_value (e_var 4)) a_nil))))))) (.named (i := 4) ⟨rfl, by decide⟩ T.h_UnknownEvent ⟨rfl, rfl⟩ (fun a o C dd pn n fs gs z hv hC hy => (by have hn : n = "UnknownEvent" := (by simpa using hy); subst hn; exact (ss_one (s_ret (e_lst (a_cons e_str (a_cons (e_xf z hv hC T.xf_UnknownEvent_name (e_var 4)) a_nil))))))) (.named (i := 4) ⟨rfl, by decide⟩ T.h_InvalidInteger ⟨rfl, rfl⟩ (fun a o C dd pn n fs gs z hv hC hy => (by have hn : n = "InvalidInteger" := (by simpa using hy); subst hn; exact (ss_one (s_ret (e_lst (a_cons e_str (a_cons (e_xf z hv hC T.xf_InvalidInteger_value (e_var 4)) a_nil))))))) .nil)))) (ss_one (s_ret (e_lst (a_cons e_str (a_cons e_non a_nil))))))
theorem sc_law : FnScope ["_law_script", "_law_k", "_law_box_here", "_law_model_here", "_law_sheet", "_law_marks", "_law_table", "_law_odd", "_law_turn", "_law_good", "_law_bad", "_law_way", "_law_worse", "_law_due"] ["_law_script"] (defScope (topS 50)) := ⟨rfl, rfl, rfl, by decide +kernel, rfl, by decide +kernel, by decide +kernel⟩
theorem ok_law {f : Addr} {fd : FuncData}  (T : Bl K mg) (c__law_box : Cal3 P w K mg base CX0 1 "_law_box" 1 [] (allPos 1) [] 1 (lift ⟨K, P, w⟩ 1 sp__law_box)) (c__law_cell : Cal3 P w K mg base CX0 1 "_law_cell" 2 [] (allPos 2) [] 2 (lift ⟨K, P, w⟩ 2 sp__law_cell)) (c__law_model : Cal3 P w K mg base CX0 3 "_law_model" 3 [] (allPos 3) [] 3 (lift ⟨K, P, w⟩ 3 sp__law_model)) (c__law_take : Cal3 P w K mg base CX0 1 "_law_take" 2 [] (allPos 2) [] 2 (lift ⟨K, P, w⟩ 2 sp__law_take)) (c__law_plan : Cal3 P w K mg base CX0 7 "_law_plan" 1 [] (allPos 1) [] 1 (lift ⟨K, P, w⟩ 1 spg__law_plan)) (k_Table___init__ : Mak3 P w K mg base (L2.CX P w) 4 "Table" 1 [] (allPos 2) [] 2 (liftX ⟨K, P, w⟩ 2 spx_Table___init__)) (c__law_told : Cal3 P w K mg base CX0 13 "_law_told" 4 [] (allPos 4) [] 4 (lift ⟨K, P, w⟩ 4 sp__law_told)) (F : Def3 K "law" "law" (topS 50) [] [] f fd) : FnG P w K mg base CX0 14 f fd ["_law_script"] (lift ⟨K, P, w⟩ 1 sp_law) := by
  have nd := sc_law.nd
  refine F.ok3 sc_law fun cdv A outer s H E hr => ⟨t_law, ?_, pure_law⟩
  exact (ss_cons (s_for PassesOwn.never rfl (i_range1 T.b_range (a_cons (e_callB (c_max2 rfl) T.b_max (by decide +kernel) (a_cons e_int (a_cons (e_callB (c_min2 rfl) T.b_min (by decide +kernel) (a_cons e_int (a_cons (e_callB (c_len) T.b_len PySem.boot_len (a_cons (e_var 0) a_nil)) a_nil))) a_nil))) a_nil)) (g_name (i := 1) nd) (ss_cons (s_set (i := 2) nd (e_cal lf0 c__law_box hr (a_cons (e_cal lf0 c__law_cell hr (a_cons (e_var 0) (a_cons (e_var 1) a_nil))) a_nil))) (ss_cons (s_set (i := 3) nd (e_cal lf0 c__law_model hr (a_cons (e_var 2) (a_cons (e_op o_add e_int (e_cal lf0 c__law_take hr (a_cons (e_var 2) (a_cons e_int a_nil)))) (a_cons e_int a_nil))))) (ss_cons (s_par2 (i := 4) (j := 5) rfl nd (a_cons (e_cal lf0 c__law_plan hr (a_cons (e_var 3) a_nil)) (a_cons (e_at hr (e_var 3) e_int) a_nil))) (ss_cons (s_set (i := 6) nd (e_mak lfX0 k_Table___init__ hr (a_cons (e_var 4) a_nil))) (ss_cons (s_set (i := 7) nd (e_at hr (e_lst (a_cons e_non (a_cons e_int (a_cons e_str (a_cons (e_lst a_nil) (a_cons (e_var 6) (a_cons e_dict0 (a_cons e_bl (a_cons (e_lst (a_cons (e_var 4) a_nil)) a_nil))))))))) (e_cal lf0 c__law_take hr (a_cons (e_var 2) (a_cons e_int a_nil))))) (ss_cons (s_if (t_cmp (o_neX hr) (e_cal lf0 c__law_told hr (a_cons (e_var 6) (a_cons e_str (a_cons (e_var 7) (a_cons e_non a_nil))))) (e_lst (a_cons e_str (a_cons (e_var 7) a_nil)))) (ss_one (s_ret e_bl)) ss_nil) (ss_cons (s_if (t_cmp (o_neX hr) (e_cal lf0 c__law_told hr (a_cons (e_var 6) (a_cons e_str (a_cons (e_var 4) (a_cons e_non a_nil))))) (e_lst (a_cons e_str (a_cons e_non a_nil)))) (ss_one (s_ret e_bl)) ss_nil) (ss_one (s_for PassesOwn.never rfl (i_range1 T.b_range (a_cons e_int a_nil)) (g_name (i := 8) nd) (ss_cons (s_set (i := 9) nd (e_at hr (e_var 5) (e_cal lf0 c__law_take hr (a_cons (e_var 2) (a_cons (e_callB (c_len) T.b_len PySem.boot_len (a_cons (e_var 5) a_nil)) a_nil))))) (ss_cons (s_set (i := 10) nd (e_at hr (e_lst (a_cons e_non (a_cons e_int (a_cons e_str (a_cons e_str (a_cons e_str (a_cons (e_lst a_nil) (a_cons (e_tup (a_cons e_str a_nil)) (a_cons e_dict0 (a_cons (e_callTy c_list T.b_list (by decide +kernel) (a_cons (e_var 5) a_nil)) (a_cons e_bl a_nil))))))))))) (e_cal lf0 c__law_take hr (a_cons (e_var 2) (a_cons e_int a_nil))))) (ss_cons (s_if (t_cmp (o_inX hr) (e_var 10) (e_var 5)) (ss_one s_cont) ss_nil) (ss_one (s_for PassesOwn.never rfl (i_any (e_lst (a_cons e_str (a_cons e_str (a_cons e_str (a_cons e_str (a_cons e_str (a_cons e_str a_nil)))))))) (g_name (i := 11) nd) (ss_cons (s_set (i := 12) nd (e_at hr (e_lst (a_cons e_non (a_cons (e_un u_neg e_int) (a_cons e_bl (a_cons e_str (a_cons (e_lst a_nil) (a_cons (e_var 9) a_nil))))))) (e_cal lf0 c__law_take hr (a_cons (e_var 2) (a_cons e_int a_nil))))) (ss_cons (s_if (t_cmp (o_neX hr) (e_cal lf0 c__law_told hr (a_cons (e_var 6) (a_cons (e_var 11) (a_cons (e_var 10) (a_cons (e_var 12) a_nil))))) (e_lst (a_cons e_str (a_cons (e_var 10) a_nil)))) (ss_one (s_ret e_bl)) ss_nil) (ss_cons (s_set (i := 13) nd (e_if (t_cmp o_eqS (e_var 11) e_str) (e_lst (a_cons e_str (a_cons (e_var 12) a_nil))) (e_lst (a_cons e_str (a_cons (e_var 12) a_nil))))) (ss_cons (s_if (t_w (w_or (t_cmp (o_in hr) (e_var 11) (e_tup (a_cons e_str (a_cons e_str a_nil)))) (w_or1 (t_w (w_and (t_cmp (o_eqD hr) (e_var 12) (e_var 9)) (w_and1 (t_cmp o_neS (e_var 11) e_str))))))) (ss_one (s_set (i := 13) nd (e_lst (a_cons e_str (a_cons e_non a_nil))))) ss_nil) (ss_cons (s_if (t_cmp o_neS (e_callB (c_repr hr) T.b_repr (by decide +kernel) (a_cons (e_cal lf0 c__law_told hr (a_cons (e_var 6) (a_cons (e_var 11) (a_cons (e_var 9) (a_cons (e_var 12) a_nil))))) a_nil)) (e_callB (c_repr hr) T.b_repr (by decide +kernel) (a_cons (e_var 13) a_nil))) (ss_one (s_ret e_bl)) ss_nil) (ss_one (s_if (t_w (w_and (t_cmp (o_in hr) (e_var 11) (e_tup (a_cons e_str (a_cons e_str (a_cons e_str a_nil))))) (w_and1 (t_cmp (o_neX hr) (e_cal lf0 c__law_told hr (a_cons (e_var 6) (a_cons (e_var 11) (a_cons (e_var 9) (a_cons (e_var 10) a_nil))))) (e_lst (a_cons e_str (a_cons (e_var 10) a_nil))))))) (ss_one (s_ret e_bl)) ss_nil)))))))))))))))))))))) (ss_one (s_ret e_bl)))
end
theorem all_mk {l : PySem.W.OpenLaw} {w : World} {K : PySem.W.Frag} {h : Heap} {mg : Str → Option Value} {fa C_Plan C_Table X_InvalidInteger X_InvalidPlan X_MissingError X_PlanError X_UnknownEvent fI_InvalidInteger fI_InvalidPlan fI_UnknownEvent f0 f1 f2 f3 f4 f5 f6 f7 f8 f9 f10 f11 f12 f13 f14 f15 f16 f17 dT17 kD17 e17_0 f18 f19 f20 f21 f22 f23 f24 f25 f26 f27 f28 f29 f30 f31 f32 f33 f34 : Addr} (X : K.In h) (G : h.Ns mainGlobals mg) (hfa : mg "law" = some (.ref fa))
    {xod_InvalidInteger xan_InvalidInteger xod_InvalidPlan xan_InvalidPlan xod_UnknownEvent xan_UnknownEvent od0 an0 od1 an1 od2 an2 od3 an3 od4 an4 od5 an5 od6 an6 od7 an7 od8 an8 od9 an9 od10 an10 od11 an11 od12 an12 od13 an13 od14 an14 od15 an15 od16 an16 od17 an17 dod17 od18 an18 od19 an19 od20 an20 od21 an21 od22 an22 od23 an23 od24 an24 od25 an25 od26 an26 od27 an27 od28 an28 od29 an29 od30 an30 od31 an31 od32 an32 od33 an33 od34 an34 : Option Addr} {xsl_InvalidInteger xsl_InvalidPlan xsl_UnknownEvent sl0 sl1 sl2 sl3 sl4 sl5 sl6 sl7 sl8 sl9 sl10 sl11 sl12 sl13 sl14 sl15 sl16 sl17 dsl17 sl18 sl19 sl20 sl21 sl22 sl23 sl24 sl25 sl26 sl27 sl28 sl29 sl30 sl31 sl32 sl33 sl34 : Array (Option Value)} {xoc_InvalidInteger xdc_InvalidInteger xpm_InvalidInteger xcd_InvalidInteger xct_InvalidInteger xkV_InvalidInteger xoc_InvalidPlan xdc_InvalidPlan xpm_InvalidPlan xcd_InvalidPlan xct_InvalidPlan xkV_InvalidPlan xoc_UnknownEvent xdc_UnknownEvent xpm_UnknownEvent xcd_UnknownEvent xct_UnknownEvent xkV_UnknownEvent oc0 dc0 pm0 cd0 ct0 kV0 oc1 dc1 pm1 cd1 ct1 kV1 oc2 dc2 pm2 cd2 ct2 kV2 oc3 dc3 pm3 cd3 ct3 kV3 oc4 dc4 pm4 cd4 ct4 kV4 oc5 dc5 pm5 cd5 ct5 kV5 oc6 dc6 pm6 cd6 ct6 kV6 oc7 dc7 pm7 cd7 ct7 kV7 oc8 dc8 pm8 cd8 ct8 kV8 oc9 dc9 pm9 cd9 ct9 kV9 oc10 dc10 pm10 cd10 ct10 kV10 oc11 dc11 pm11 cd11 ct11 kV11 oc12 dc12 pm12 cd12 ct12 kV12 oc13 dc13 pm13 cd13 ct13 kV13 oc14 dc14 pm14 cd14 ct14 kV14 oc15 dc15 pm15 cd15 ct15 kV15 oc16 dc16 pm16 cd16 ct16 kV16 oc17 dc17 pm17 cd17 ct17 dcl17 oc18 dc18 pm18 cd18 ct18 kV18 oc19 dc19 pm19 cd19 ct19 kV19 oc20 dc20 pm20 cd20 ct20 kV20 oc21 dc21 pm21 cd21 ct21 kV21 oc22 dc22 pm22 cd22 ct22 kV22 oc23 dc23 pm23 cd23 ct23 kV23 oc24 dc24 pm24 cd24 ct24 kV24 oc25 dc25 pm25 cd25 ct25 kV25 oc26 dc26 pm26 cd26 ct26 kV26 oc27 dc27 pm27 cd27 ct27 kV27 oc28 dc28 pm28 cd28 ct28 kV28 oc29 dc29 pm29 cd29 ct29 kV29 oc30 dc30 pm30 cd30 ct30 kV30 oc31 dc31 pm31 cd31 ct31 kV31 oc32 dc32 pm32 cd32 ct32 kV32 oc33 dc33 pm33 cd33 ct33 kV33 oc34 dc34 pm34 cd34 ct34 kV34 : Value} {dn17 : Nat} {tk_HOLD tk_LETTERS tk_MOST_EVENTS tk_MOST_LETTERS tk_MOST_TIES tk_NONE tk_TIE : Tok}
    {nm_InvalidInteger q_InvalidInteger : Str} {N_InvalidInteger : Addr} {bs_InvalidInteger sub_InvalidInteger : List Value} {sn_InvalidInteger : List Str} {ab_InvalidInteger : Bool} {col_InvalidInteger : Option Bool} {dd_InvalidInteger : Option Addr} {p0_InvalidInteger p1_InvalidInteger p2_InvalidInteger p3_InvalidInteger p5_InvalidInteger : Option Value}
    {nm_InvalidPlan q_InvalidPlan : Str} {N_InvalidPlan : Addr} {bs_InvalidPlan sub_InvalidPlan : List Value} {sn_InvalidPlan : List Str} {ab_InvalidPlan : Bool} {col_InvalidPlan : Option Bool} {dd_InvalidPlan : Option Addr} {p0_InvalidPlan p1_InvalidPlan p2_InvalidPlan p3_InvalidPlan p5_InvalidPlan : Option Value}
    {nm_UnknownEvent q_UnknownEvent : Str} {N_UnknownEvent : Addr} {bs_UnknownEvent sub_UnknownEvent : List Value} {sn_UnknownEvent : List Str} {ab_UnknownEvent : Bool} {col_UnknownEvent : Option Bool} {dd_UnknownEvent : Option Addr} {p0_UnknownEvent p1_UnknownEvent p2_UnknownEvent p3_UnknownEvent p5_UnknownEvent : Option Value}
    (at_Plan : PySem.W.nsIn K mainGlobals "Plan" = some (some (.ref C_Plan)))
    (pg_Plan : PySem.W.plainGet K C_Plan Str.empty = true)
    (hd_Plan : PySem.W.hasDictIn K C_Plan = true)
    (po_Plan : PySem.W.plainOver K C_Plan = true)
    (sa_Plan : PySem.W.findIn K (.ref C_Plan) "__setattr__" = some (some (.builtin "object.__setattr__")))
    (kp_Plan : PySem.W.keepIn K (.ref C_Plan) = true)
    (ci_Plan : PySem.W.isClsIn K C_Plan = true)
    (ti_Plan : PySem.W.typeIn K (.ref C_Plan) = some (.type "type"))
    (ca_Plan : PySem.W.findIn K (.ref C_Plan) "__class__" = some (some (.builtin "object.__class__")))
    (cg_Plan : PySem.W.specialIn K (.builtin "object.__class__") "__get__" = some (some (.builtin "getset_descriptor.__get__")))
    (ct_Plan : PySem.W.takesIn K (.builtin "object.__class__") = some true)
    (cm_Plan : PySem.W.mroIn K C_Plan (.type "object") = some true)
    (mk_Plan : PySem.W.makesIn K C_Plan = true)
    (at_Table : PySem.W.nsIn K mainGlobals "Table" = some (some (.ref C_Table)))
    (pg_Table : PySem.W.plainGet K C_Table Str.empty = true)
    (hd_Table : PySem.W.hasDictIn K C_Table = true)
    (po_Table : PySem.W.plainOver K C_Table = true)
    (sa_Table : PySem.W.findIn K (.ref C_Table) "__setattr__" = some (some (.builtin "object.__setattr__")))
    (kp_Table : PySem.W.keepIn K (.ref C_Table) = true)
    (ci_Table : PySem.W.isClsIn K C_Table = true)
    (ti_Table : PySem.W.typeIn K (.ref C_Table) = some (.type "type"))
    (ca_Table : PySem.W.findIn K (.ref C_Table) "__class__" = some (some (.builtin "object.__class__")))
    (cg_Table : PySem.W.specialIn K (.builtin "object.__class__") "__get__" = some (some (.builtin "getset_descriptor.__get__")))
    (ct_Table : PySem.W.takesIn K (.builtin "object.__class__") = some true)
    (cm_Table : PySem.W.mroIn K C_Table (.type "object") = some true)
    (mk_Table : PySem.W.makesIn K C_Table = true)
    (nf_Plan_own_events : PySem.W.findIn K (.ref C_Plan) "own_events" = some none)
    (nf_Plan_own_limits : PySem.W.findIn K (.ref C_Plan) "own_limits" = some none)
    (nf_Plan_own_ties : PySem.W.findIn K (.ref C_Plan) "own_ties" = some none)
    (nf_Table_leads : PySem.W.findIn K (.ref C_Table) "leads" = some none)
    (nf_Table_row_of_events : PySem.W.findIn K (.ref C_Table) "row_of_events" = some none)
    (nf_Table_steps : PySem.W.findIn K (.ref C_Table) "steps" = some none)
    (an_Table_Plan : (Value.ref C_Table == Value.ref C_Plan) = false)
    (as_Table_Plan : PySem.W.subIn K (.ref C_Table) (.ref C_Plan) = some false)
    (at_InvalidInteger : PySem.W.nsIn K mainGlobals "InvalidInteger" = some (some (.ref X_InvalidInteger)))
    (at_InvalidPlan : PySem.W.nsIn K mainGlobals "InvalidPlan" = some (some (.ref X_InvalidPlan)))
    (at_MissingError : PySem.W.nsIn K mainGlobals "MissingError" = some (some (.ref X_MissingError)))
    (at_PlanError : PySem.W.nsIn K mainGlobals "PlanError" = some (some (.ref X_PlanError)))
    (at_UnknownEvent : PySem.W.nsIn K mainGlobals "UnknownEvent" = some (some (.ref X_UnknownEvent)))
    (bg_MissingError : PySem.W.specialIn K (.ref X_MissingError) "__getattribute__" = some (some (.builtin "type.__getattribute__")))
    (br_MissingError : PySem.W.readsIn K X_MissingError (.type "type") = true)
    (bi_MissingError : PySem.W.findCls K (.ref X_MissingError) (.type "type") "__init__" = some (.val (.builtin "KeyError.__init__")))
    (bg_PlanError : PySem.W.specialIn K (.ref X_PlanError) "__getattribute__" = some (some (.builtin "type.__getattribute__")))
    (br_PlanError : PySem.W.readsIn K X_PlanError (.type "type") = true)
    (bi_PlanError : PySem.W.findCls K (.ref X_PlanError) (.type "type") "__init__" = some (.val (.builtin "ValueError.__init__")))
    (ex_InvalidInteger : PySem.W.subIn K (.ref X_InvalidInteger) (.type "BaseException") = some true)
    (ex_InvalidPlan : PySem.W.subIn K (.ref X_InvalidPlan) (.type "BaseException") = some true)
    (ex_UnknownEvent : PySem.W.subIn K (.ref X_UnknownEvent) (.type "BaseException") = some true)
    (xl_InvalidInteger : K.lookup X_InvalidInteger = some (excClassObj nm_InvalidInteger q_InvalidInteger X_InvalidInteger N_InvalidInteger bs_InvalidInteger [.ref X_PlanError, .type "ValueError", .type "Exception", .type "BaseException", .type "object"] true sn_InvalidInteger sub_InvalidInteger ab_InvalidInteger col_InvalidInteger dd_InvalidInteger p0_InvalidInteger p1_InvalidInteger p2_InvalidInteger p3_InvalidInteger p5_InvalidInteger "ValueError.__new__"))
    (sa_InvalidInteger : PySem.W.findIn K (.ref X_InvalidInteger) "__setattr__" = some (some (.builtin "object.__setattr__")))
    (ty_InvalidInteger : PySem.W.typeIn K (.ref X_InvalidInteger) = some (.type "type"))
    (kp_InvalidInteger : PySem.W.keepIn K (.ref X_InvalidInteger) = true)
    (in_InvalidInteger : PySem.W.findIn K (.ref X_InvalidInteger) "__init__" = some (some (.ref fI_InvalidInteger)))
    (ti_InvalidInteger : PySem.W.typeIn K (.ref fI_InvalidInteger) = some (.type "function"))
    (nf_InvalidInteger_value : PySem.W.findIn K (.ref X_InvalidInteger) "value" = some none)
    (lI_InvalidInteger : K.lookup fI_InvalidInteger = some ⟨xoc_InvalidInteger, xod_InvalidInteger, .func (PySem.W.fnOf "__init__" "InvalidInteger.__init__" (defArgs (inClass (topS 4) 0)) (defBody (inClass (topS 4) 0)) (defScope (inClass (topS 4) 0)) .none xkV_InvalidInteger xdc_InvalidInteger xpm_InvalidInteger xan_InvalidInteger xcd_InvalidInteger xct_InvalidInteger), xsl_InvalidInteger⟩)
    (cI_InvalidInteger : PySem.W.codeIn K xcd_InvalidInteger "InvalidInteger.__init__" = true)
    (kI_InvalidInteger : PySem.W.keepIn K (.ref fI_InvalidInteger) = true)
    (xl_InvalidPlan : K.lookup X_InvalidPlan = some (excClassObj nm_InvalidPlan q_InvalidPlan X_InvalidPlan N_InvalidPlan bs_InvalidPlan [.ref X_PlanError, .type "ValueError", .type "Exception", .type "BaseException", .type "object"] true sn_InvalidPlan sub_InvalidPlan ab_InvalidPlan col_InvalidPlan dd_InvalidPlan p0_InvalidPlan p1_InvalidPlan p2_InvalidPlan p3_InvalidPlan p5_InvalidPlan "ValueError.__new__"))
    (sa_InvalidPlan : PySem.W.findIn K (.ref X_InvalidPlan) "__setattr__" = some (some (.builtin "object.__setattr__")))
    (ty_InvalidPlan : PySem.W.typeIn K (.ref X_InvalidPlan) = some (.type "type"))
    (kp_InvalidPlan : PySem.W.keepIn K (.ref X_InvalidPlan) = true)
    (in_InvalidPlan : PySem.W.findIn K (.ref X_InvalidPlan) "__init__" = some (some (.ref fI_InvalidPlan)))
    (ti_InvalidPlan : PySem.W.typeIn K (.ref fI_InvalidPlan) = some (.type "function"))
    (nf_InvalidPlan_value : PySem.W.findIn K (.ref X_InvalidPlan) "value" = some none)
    (lI_InvalidPlan : K.lookup fI_InvalidPlan = some ⟨xoc_InvalidPlan, xod_InvalidPlan, .func (PySem.W.fnOf "__init__" "InvalidPlan.__init__" (defArgs (inClass (topS 12) 0)) (defBody (inClass (topS 12) 0)) (defScope (inClass (topS 12) 0)) .none xkV_InvalidPlan xdc_InvalidPlan xpm_InvalidPlan xan_InvalidPlan xcd_InvalidPlan xct_InvalidPlan), xsl_InvalidPlan⟩)
    (cI_InvalidPlan : PySem.W.codeIn K xcd_InvalidPlan "InvalidPlan.__init__" = true)
    (kI_InvalidPlan : PySem.W.keepIn K (.ref fI_InvalidPlan) = true)
    (xl_UnknownEvent : K.lookup X_UnknownEvent = some (excClassObj nm_UnknownEvent q_UnknownEvent X_UnknownEvent N_UnknownEvent bs_UnknownEvent [.ref X_MissingError, .type "KeyError", .type "LookupError", .type "Exception", .type "BaseException", .type "object"] true sn_UnknownEvent sub_UnknownEvent ab_UnknownEvent col_UnknownEvent dd_UnknownEvent p0_UnknownEvent p1_UnknownEvent p2_UnknownEvent p3_UnknownEvent p5_UnknownEvent "LookupError.__new__"))
    (sa_UnknownEvent : PySem.W.findIn K (.ref X_UnknownEvent) "__setattr__" = some (some (.builtin "object.__setattr__")))
    (ty_UnknownEvent : PySem.W.typeIn K (.ref X_UnknownEvent) = some (.type "type"))
    (kp_UnknownEvent : PySem.W.keepIn K (.ref X_UnknownEvent) = true)
    (in_UnknownEvent : PySem.W.findIn K (.ref X_UnknownEvent) "__init__" = some (some (.ref fI_UnknownEvent)))
    (ti_UnknownEvent : PySem.W.typeIn K (.ref fI_UnknownEvent) = some (.type "function"))
    (nf_UnknownEvent_name : PySem.W.findIn K (.ref X_UnknownEvent) "name" = some none)
    (lI_UnknownEvent : K.lookup fI_UnknownEvent = some ⟨xoc_UnknownEvent, xod_UnknownEvent, .func (PySem.W.fnOf "__init__" "UnknownEvent.__init__" (defArgs (inClass (topS 13) 0)) (defBody (inClass (topS 13) 0)) (defScope (inClass (topS 13) 0)) .none xkV_UnknownEvent xdc_UnknownEvent xpm_UnknownEvent xan_UnknownEvent xcd_UnknownEvent xct_UnknownEvent), xsl_UnknownEvent⟩)
    (cI_UnknownEvent : PySem.W.codeIn K xcd_UnknownEvent "UnknownEvent.__init__" = true)
    (kI_UnknownEvent : PySem.W.keepIn K (.ref fI_UnknownEvent) = true)
    (ga_InvalidInteger : PySem.W.findIn K (.ref X_InvalidInteger) "__getattribute__" = some (some (.builtin "BaseException.__getattribute__")))
    (gg_InvalidInteger : PySem.W.findIn K (.ref X_InvalidInteger) "__getattr__" = some none)
    (hd_InvalidInteger : PySem.W.hasDictIn K X_InvalidInteger = true)
    (ga_InvalidPlan : PySem.W.findIn K (.ref X_InvalidPlan) "__getattribute__" = some (some (.builtin "BaseException.__getattribute__")))
    (gg_InvalidPlan : PySem.W.findIn K (.ref X_InvalidPlan) "__getattr__" = some none)
    (hd_InvalidPlan : PySem.W.hasDictIn K X_InvalidPlan = true)
    (ga_UnknownEvent : PySem.W.findIn K (.ref X_UnknownEvent) "__getattribute__" = some (some (.builtin "BaseException.__getattribute__")))
    (gg_UnknownEvent : PySem.W.findIn K (.ref X_UnknownEvent) "__getattr__" = some none)
    (hd_UnknownEvent : PySem.W.hasDictIn K X_UnknownEvent = true)
    (hci_InvalidInteger : PySem.W.isClsIn K X_InvalidInteger = true)
    (hti_InvalidInteger : PySem.W.typeIn K (.ref X_InvalidInteger) = some (.type "type"))
    (em_InvalidInteger_InvalidInteger : PySem.W.subIn K (.ref X_InvalidInteger) (.ref X_InvalidInteger) = some true)
    (em_InvalidPlan_InvalidInteger : PySem.W.subIn K (.ref X_InvalidPlan) (.ref X_InvalidInteger) = some false)
    (em_UnknownEvent_InvalidInteger : PySem.W.subIn K (.ref X_UnknownEvent) (.ref X_InvalidInteger) = some false)
    (hci_InvalidPlan : PySem.W.isClsIn K X_InvalidPlan = true)
    (hti_InvalidPlan : PySem.W.typeIn K (.ref X_InvalidPlan) = some (.type "type"))
    (em_InvalidPlan_InvalidPlan : PySem.W.subIn K (.ref X_InvalidPlan) (.ref X_InvalidPlan) = some true)
    (em_InvalidInteger_InvalidPlan : PySem.W.subIn K (.ref X_InvalidInteger) (.ref X_InvalidPlan) = some false)
    (em_UnknownEvent_InvalidPlan : PySem.W.subIn K (.ref X_UnknownEvent) (.ref X_InvalidPlan) = some false)
    (hci_UnknownEvent : PySem.W.isClsIn K X_UnknownEvent = true)
    (hti_UnknownEvent : PySem.W.typeIn K (.ref X_UnknownEvent) = some (.type "type"))
    (em_UnknownEvent_UnknownEvent : PySem.W.subIn K (.ref X_UnknownEvent) (.ref X_UnknownEvent) = some true)
    (em_InvalidInteger_UnknownEvent : PySem.W.subIn K (.ref X_InvalidInteger) (.ref X_UnknownEvent) = some false)
    (em_InvalidPlan_UnknownEvent : PySem.W.subIn K (.ref X_InvalidPlan) (.ref X_UnknownEvent) = some false)
    (a0 : PySem.W.nsIn K mainGlobals "_law_box" = some (some (.ref f0)))
    (l0 : K.lookup f0 = some ⟨oc0, od0, .func (PySem.W.fnOf "_law_box" "_law_box" (defArgs (topS 42)) (defBody (topS 42)) (defScope (topS 42)) .none kV0 dc0 pm0 an0 cd0 ct0), sl0⟩)
    (c0 : PySem.W.codeIn K cd0 "_law_box" = true)
    (k0 : PySem.W.keepIn K (.ref f0) = true)
    (a1 : PySem.W.nsIn K mainGlobals "_law_cell" = some (some (.ref f1)))
    (l1 : K.lookup f1 = some ⟨oc1, od1, .func (PySem.W.fnOf "_law_cell" "_law_cell" (defArgs (topS 41)) (defBody (topS 41)) (defScope (topS 41)) .none kV1 dc1 pm1 an1 cd1 ct1), sl1⟩)
    (c1 : PySem.W.codeIn K cd1 "_law_cell" = true)
    (k1 : PySem.W.keepIn K (.ref f1) = true)
    (a2 : PySem.W.nsIn K mainGlobals "_law_take" = some (some (.ref f2)))
    (l2 : K.lookup f2 = some ⟨oc2, od2, .func (PySem.W.fnOf "_law_take" "_law_take" (defArgs (topS 43)) (defBody (topS 43)) (defScope (topS 43)) .none kV2 dc2 pm2 an2 cd2 ct2), sl2⟩)
    (c2 : PySem.W.codeIn K cd2 "_law_take" = true)
    (k2 : PySem.W.keepIn K (.ref f2) = true)
    (a3 : PySem.W.nsIn K mainGlobals "_law_mixed" = some (some (.ref f3)))
    (l3 : K.lookup f3 = some ⟨oc3, od3, .func (PySem.W.fnOf "_law_mixed" "_law_mixed" (defArgs (topS 44)) (defBody (topS 44)) (defScope (topS 44)) .none kV3 dc3 pm3 an3 cd3 ct3), sl3⟩)
    (c3 : PySem.W.codeIn K cd3 "_law_mixed" = true)
    (k3 : PySem.W.keepIn K (.ref f3) = true)
    (a4 : PySem.W.nsIn K mainGlobals "_law_names" = some (some (.ref f4)))
    (l4 : K.lookup f4 = some ⟨oc4, od4, .func (PySem.W.fnOf "_law_names" "_law_names" (defArgs (topS 45)) (defBody (topS 45)) (defScope (topS 45)) .none kV4 dc4 pm4 an4 cd4 ct4), sl4⟩)
    (c4 : PySem.W.codeIn K cd4 "_law_names" = true)
    (k4 : PySem.W.keepIn K (.ref f4) = true)
    (a5 : PySem.W.nsIn K mainGlobals "_law_lag" = some (some (.ref f5)))
    (l5 : K.lookup f5 = some ⟨oc5, od5, .func (PySem.W.fnOf "_law_lag" "_law_lag" (defArgs (topS 46)) (defBody (topS 46)) (defScope (topS 46)) .none kV5 dc5 pm5 an5 cd5 ct5), sl5⟩)
    (c5 : PySem.W.codeIn K cd5 "_law_lag" = true)
    (k5 : PySem.W.keepIn K (.ref f5) = true)
    (a6 : PySem.W.nsIn K mainGlobals "_law_model" = some (some (.ref f6)))
    (l6 : K.lookup f6 = some ⟨oc6, od6, .func (PySem.W.fnOf "_law_model" "_law_model" (defArgs (topS 47)) (defBody (topS 47)) (defScope (topS 47)) .none kV6 dc6 pm6 an6 cd6 ct6), sl6⟩)
    (c6 : PySem.W.codeIn K cd6 "_law_model" = true)
    (k6 : PySem.W.keepIn K (.ref f6) = true)
    (a7 : PySem.W.nsIn K mainGlobals "is_list" = some (some (.ref f7)))
    (l7 : K.lookup f7 = some ⟨oc7, od7, .func (PySem.W.fnOf "is_list" "is_list" (defArgs (topS 20)) (defBody (topS 20)) (defScope (topS 20)) .none kV7 dc7 pm7 an7 cd7 ct7), sl7⟩)
    (c7 : PySem.W.codeIn K cd7 "is_list" = true)
    (k7 : PySem.W.keepIn K (.ref f7) = true)
    (a8 : PySem.W.nsIn K mainGlobals "is_name" = some (some (.ref f8)))
    (l8 : K.lookup f8 = some ⟨oc8, od8, .func (PySem.W.fnOf "is_name" "is_name" (defArgs (topS 19)) (defBody (topS 19)) (defScope (topS 19)) .none kV8 dc8 pm8 an8 cd8 ct8), sl8⟩)
    (c8 : PySem.W.codeIn K cd8 "is_name" = true)
    (k8 : PySem.W.keepIn K (.ref f8) = true)
    (a9 : PySem.W.nsIn K mainGlobals "need_events" = some (some (.ref f9)))
    (l9 : K.lookup f9 = some ⟨oc9, od9, .func (PySem.W.fnOf "need_events" "need_events" (defArgs (topS 24)) (defBody (topS 24)) (defScope (topS 24)) .none kV9 dc9 pm9 an9 cd9 ct9), sl9⟩)
    (c9 : PySem.W.codeIn K cd9 "need_events" = true)
    (k9 : PySem.W.keepIn K (.ref f9) = true)
    (a10 : PySem.W.nsIn K mainGlobals "need_event" = some (some (.ref f10)))
    (l10 : K.lookup f10 = some ⟨oc10, od10, .func (PySem.W.fnOf "need_event" "need_event" (defArgs (topS 25)) (defBody (topS 25)) (defScope (topS 25)) .none kV10 dc10 pm10 an10 cd10 ct10), sl10⟩)
    (c10 : PySem.W.codeIn K cd10 "need_event" = true)
    (k10 : PySem.W.keepIn K (.ref f10) = true)
    (a11 : PySem.W.nsIn K mainGlobals "is_integer" = some (some (.ref f11)))
    (l11 : K.lookup f11 = some ⟨oc11, od11, .func (PySem.W.fnOf "is_integer" "is_integer" (defArgs (topS 17)) (defBody (topS 17)) (defScope (topS 17)) .none kV11 dc11 pm11 an11 cd11 ct11), sl11⟩)
    (c11 : PySem.W.codeIn K cd11 "is_integer" = true)
    (k11 : PySem.W.keepIn K (.ref f11) = true)
    (a12 : PySem.W.nsIn K mainGlobals "is_count" = some (some (.ref f12)))
    (l12 : K.lookup f12 = some ⟨oc12, od12, .func (PySem.W.fnOf "is_count" "is_count" (defArgs (topS 18)) (defBody (topS 18)) (defScope (topS 18)) .none kV12 dc12 pm12 an12 cd12 ct12), sl12⟩)
    (c12 : PySem.W.codeIn K cd12 "is_count" = true)
    (k12 : PySem.W.keepIn K (.ref f12) = true)
    (a13 : PySem.W.nsIn K mainGlobals "need_ties" = some (some (.ref f13)))
    (l13 : K.lookup f13 = some ⟨oc13, od13, .func (PySem.W.fnOf "need_ties" "need_ties" (defArgs (topS 26)) (defBody (topS 26)) (defScope (topS 26)) .none kV13 dc13 pm13 an13 cd13 ct13), sl13⟩)
    (c13 : PySem.W.codeIn K cd13 "need_ties" = true)
    (k13 : PySem.W.keepIn K (.ref f13) = true)
    (a14 : PySem.W.nsIn K mainGlobals "need_limits" = some (some (.ref f14)))
    (l14 : K.lookup f14 = some ⟨oc14, od14, .func (PySem.W.fnOf "need_limits" "need_limits" (defArgs (topS 27)) (defBody (topS 27)) (defScope (topS 27)) .none kV14 dc14 pm14 an14 cd14 ct14), sl14⟩)
    (c14 : PySem.W.codeIn K cd14 "need_limits" = true)
    (k14 : PySem.W.keepIn K (.ref f14) = true)
    (a15 : PySem.W.nsIn K mainGlobals "reached" = some (some (.ref f15)))
    (l15 : K.lookup f15 = some ⟨oc15, od15, .func (PySem.W.fnOf "reached" "reached" (defArgs (topS 29)) (defBody (topS 29)) (defScope (topS 29)) .none kV15 dc15 pm15 an15 cd15 ct15), sl15⟩)
    (c15 : PySem.W.codeIn K cd15 "reached" = true)
    (k15 : PySem.W.keepIn K (.ref f15) = true)
    (a16 : PySem.W.nsIn K mainGlobals "need_no_ring" = some (some (.ref f16)))
    (l16 : K.lookup f16 = some ⟨oc16, od16, .func (PySem.W.fnOf "need_no_ring" "need_no_ring" (defArgs (topS 28)) (defBody (topS 28)) (defScope (topS 28)) .none kV16 dc16 pm16 an16 cd16 ct16), sl16⟩)
    (c16 : PySem.W.codeIn K cd16 "need_no_ring" = true)
    (k16 : PySem.W.keepIn K (.ref f16) = true)
    (a17 : PySem.W.findIn K (.ref C_Plan) "__init__" = some (some (.ref f17)))
    (i17 : PySem.W.isFn K (.ref f17) = true)
    (l17 : K.lookup f17 = some ⟨oc17, od17, .func (PySem.W.fnOf "__init__" "Plan.__init__" (defArgs (inClass (topS 30) 0)) (defBody (inClass (topS 30) 0)) (defScope (inClass (topS 30) 0)) (.ref dT17) (.ref kD17) dc17 pm17 an17 cd17 ct17), sl17⟩)
    (c17 : PySem.W.codeIn K cd17 "Plan.__init__" = true)
    (k17 : PySem.W.keepIn K (.ref f17) = true)
    (dl17 : K.lookup dT17 = some ⟨dcl17, dod17, .seq #[.ref e17_0] dn17, dsl17⟩)
    (q17_limits : PySem.W.nsIn K kD17 "limits" = some (some .none))
    (a18 : PySem.W.nsIn K mainGlobals "_law_plan" = some (some (.ref f18)))
    (l18 : K.lookup f18 = some ⟨oc18, od18, .func (PySem.W.fnOf "_law_plan" "_law_plan" (defArgs (topS 48)) (defBody (topS 48)) (defScope (topS 48)) .none kV18 dc18 pm18 an18 cd18 ct18), sl18⟩)
    (c18 : PySem.W.codeIn K cd18 "_law_plan" = true)
    (k18 : PySem.W.keepIn K (.ref f18) = true)
    (a19 : PySem.W.nsIn K mainGlobals "need_plan" = some (some (.ref f19)))
    (l19 : K.lookup f19 = some ⟨oc19, od19, .func (PySem.W.fnOf "need_plan" "need_plan" (defArgs (topS 31)) (defBody (topS 31)) (defScope (topS 31)) .none kV19 dc19 pm19 an19 cd19 ct19), sl19⟩)
    (c19 : PySem.W.codeIn K cd19 "need_plan" = true)
    (k19 : PySem.W.keepIn K (.ref f19) = true)
    (a20 : PySem.W.findIn K (.ref C_Plan) "events" = some (some (.ref f20)))
    (i20 : PySem.W.isFn K (.ref f20) = true)
    (l20 : K.lookup f20 = some ⟨oc20, od20, .func (PySem.W.fnOf "events" "Plan.events" (defArgs (inClass (topS 30) 1)) (defBody (inClass (topS 30) 1)) (defScope (inClass (topS 30) 1)) .none kV20 dc20 pm20 an20 cd20 ct20), sl20⟩)
    (c20 : PySem.W.codeIn K cd20 "Plan.events" = true)
    (k20 : PySem.W.keepIn K (.ref f20) = true)
    (a21 : PySem.W.findIn K (.ref C_Plan) "ties" = some (some (.ref f21)))
    (i21 : PySem.W.isFn K (.ref f21) = true)
    (l21 : K.lookup f21 = some ⟨oc21, od21, .func (PySem.W.fnOf "ties" "Plan.ties" (defArgs (inClass (topS 30) 2)) (defBody (inClass (topS 30) 2)) (defScope (inClass (topS 30) 2)) .none kV21 dc21 pm21 an21 cd21 ct21), sl21⟩)
    (c21 : PySem.W.codeIn K cd21 "Plan.ties" = true)
    (k21 : PySem.W.keepIn K (.ref f21) = true)
    (a22 : PySem.W.findIn K (.ref C_Plan) "limits" = some (some (.ref f22)))
    (i22 : PySem.W.isFn K (.ref f22) = true)
    (l22 : K.lookup f22 = some ⟨oc22, od22, .func (PySem.W.fnOf "limits" "Plan.limits" (defArgs (inClass (topS 30) 3)) (defBody (inClass (topS 30) 3)) (defScope (inClass (topS 30) 3)) .none kV22 dc22 pm22 an22 cd22 ct22), sl22⟩)
    (c22 : PySem.W.codeIn K cd22 "Plan.limits" = true)
    (k22 : PySem.W.keepIn K (.ref f22) = true)
    (a23 : PySem.W.nsIn K mainGlobals "rows_of" = some (some (.ref f23)))
    (l23 : K.lookup f23 = some ⟨oc23, od23, .func (PySem.W.fnOf "rows_of" "rows_of" (defArgs (topS 36)) (defBody (topS 36)) (defScope (topS 36)) .none kV23 dc23 pm23 an23 cd23 ct23), sl23⟩)
    (c23 : PySem.W.codeIn K cd23 "rows_of" = true)
    (k23 : PySem.W.keepIn K (.ref f23) = true)
    (a24 : PySem.W.nsIn K mainGlobals "leads_of" = some (some (.ref f24)))
    (l24 : K.lookup f24 = some ⟨oc24, od24, .func (PySem.W.fnOf "leads_of" "leads_of" (defArgs (topS 37)) (defBody (topS 37)) (defScope (topS 37)) .none kV24 dc24 pm24 an24 cd24 ct24), sl24⟩)
    (c24 : PySem.W.codeIn K cd24 "leads_of" = true)
    (k24 : PySem.W.keepIn K (.ref f24) = true)
    (a25 : PySem.W.findIn K (.ref C_Table) "__init__" = some (some (.ref f25)))
    (i25 : PySem.W.isFn K (.ref f25) = true)
    (l25 : K.lookup f25 = some ⟨oc25, od25, .func (PySem.W.fnOf "__init__" "Table.__init__" (defArgs (inClass (topS 39) 0)) (defBody (inClass (topS 39) 0)) (defScope (inClass (topS 39) 0)) .none kV25 dc25 pm25 an25 cd25 ct25), sl25⟩)
    (c25 : PySem.W.codeIn K cd25 "Table.__init__" = true)
    (k25 : PySem.W.keepIn K (.ref f25) = true)
    (a26 : PySem.W.findIn K (.ref C_Table) "lead" = some (some (.ref f26)))
    (i26 : PySem.W.isFn K (.ref f26) = true)
    (l26 : K.lookup f26 = some ⟨oc26, od26, .func (PySem.W.fnOf "lead" "Table.lead" (defArgs (inClass (topS 39) 2)) (defBody (inClass (topS 39) 2)) (defScope (inClass (topS 39) 2)) .none kV26 dc26 pm26 an26 cd26 ct26), sl26⟩)
    (c26 : PySem.W.codeIn K cd26 "Table.lead" = true)
    (k26 : PySem.W.keepIn K (.ref f26) = true)
    (a27 : PySem.W.nsIn K mainGlobals "chain_of" = some (some (.ref f27)))
    (l27 : K.lookup f27 = some ⟨oc27, od27, .func (PySem.W.fnOf "chain_of" "chain_of" (defArgs (topS 38)) (defBody (topS 38)) (defScope (topS 38)) .none kV27 dc27 pm27 an27 cd27 ct27), sl27⟩)
    (c27 : PySem.W.codeIn K cd27 "chain_of" = true)
    (k27 : PySem.W.keepIn K (.ref f27) = true)
    (a28 : PySem.W.findIn K (.ref C_Table) "chain" = some (some (.ref f28)))
    (i28 : PySem.W.isFn K (.ref f28) = true)
    (l28 : K.lookup f28 = some ⟨oc28, od28, .func (PySem.W.fnOf "chain" "Table.chain" (defArgs (inClass (topS 39) 4)) (defBody (inClass (topS 39) 4)) (defScope (inClass (topS 39) 4)) .none kV28 dc28 pm28 an28 cd28 ct28), sl28⟩)
    (c28 : PySem.W.codeIn K cd28 "Table.chain" = true)
    (k28 : PySem.W.keepIn K (.ref f28) = true)
    (a29 : PySem.W.findIn K (.ref C_Table) "most" = some (some (.ref f29)))
    (i29 : PySem.W.isFn K (.ref f29) = true)
    (l29 : K.lookup f29 = some ⟨oc29, od29, .func (PySem.W.fnOf "most" "Table.most" (defArgs (inClass (topS 39) 3)) (defBody (inClass (topS 39) 3)) (defScope (inClass (topS 39) 3)) .none kV29 dc29 pm29 an29 cd29 ct29), sl29⟩)
    (c29 : PySem.W.codeIn K cd29 "Table.most" = true)
    (k29 : PySem.W.keepIn K (.ref f29) = true)
    (a30 : PySem.W.findIn K (.ref C_Table) "least" = some (some (.ref f30)))
    (i30 : PySem.W.isFn K (.ref f30) = true)
    (l30 : K.lookup f30 = some ⟨oc30, od30, .func (PySem.W.fnOf "least" "Table.least" (defArgs (inClass (topS 39) 7)) (defBody (inClass (topS 39) 7)) (defScope (inClass (topS 39) 7)) .none kV30 dc30 pm30 an30 cd30 ct30), sl30⟩)
    (c30 : PySem.W.codeIn K cd30 "Table.least" = true)
    (k30 : PySem.W.keepIn K (.ref f30) = true)
    (a31 : PySem.W.findIn K (.ref C_Table) "shown" = some (some (.ref f31)))
    (i31 : PySem.W.isFn K (.ref f31) = true)
    (l31 : K.lookup f31 = some ⟨oc31, od31, .func (PySem.W.fnOf "shown" "Table.shown" (defArgs (inClass (topS 39) 6)) (defBody (inClass (topS 39) 6)) (defScope (inClass (topS 39) 6)) .none kV31 dc31 pm31 an31 cd31 ct31), sl31⟩)
    (c31 : PySem.W.codeIn K cd31 "Table.shown" = true)
    (k31 : PySem.W.keepIn K (.ref f31) = true)
    (a32 : PySem.W.findIn K (.ref C_Table) "held" = some (some (.ref f32)))
    (i32 : PySem.W.isFn K (.ref f32) = true)
    (l32 : K.lookup f32 = some ⟨oc32, od32, .func (PySem.W.fnOf "held" "Table.held" (defArgs (inClass (topS 39) 5)) (defBody (inClass (topS 39) 5)) (defScope (inClass (topS 39) 5)) .none kV32 dc32 pm32 an32 cd32 ct32), sl32⟩)
    (c32 : PySem.W.codeIn K cd32 "Table.held" = true)
    (k32 : PySem.W.keepIn K (.ref f32) = true)
    (a33 : PySem.W.nsIn K mainGlobals "_law_told" = some (some (.ref f33)))
    (l33 : K.lookup f33 = some ⟨oc33, od33, .func (PySem.W.fnOf "_law_told" "_law_told" (defArgs (topS 49)) (defBody (topS 49)) (defScope (topS 49)) .none kV33 dc33 pm33 an33 cd33 ct33), sl33⟩)
    (c33 : PySem.W.codeIn K cd33 "_law_told" = true)
    (k33 : PySem.W.keepIn K (.ref f33) = true)
    (a34 : PySem.W.nsIn K mainGlobals "law" = some (some (.ref f34)))
    (l34 : K.lookup f34 = some ⟨oc34, od34, .func (PySem.W.fnOf "law" "law" (defArgs (topS 50)) (defBody (topS 50)) (defScope (topS 50)) .none kV34 dc34 pm34 an34 cd34 ct34), sl34⟩)
    (c34 : PySem.W.codeIn K cd34 "law" = true)
    (k34 : PySem.W.keepIn K (.ref f34) = true)
    (z_all : PySem.W.nsIn K mainGlobals "all" = some none)
    (z_bool : PySem.W.nsIn K mainGlobals "bool" = some none)
    (z_dict : PySem.W.nsIn K mainGlobals "dict" = some none)
    (z_enumerate : PySem.W.nsIn K mainGlobals "enumerate" = some none)
    (z_int : PySem.W.nsIn K mainGlobals "int" = some none)
    (z_isinstance : PySem.W.nsIn K mainGlobals "isinstance" = some none)
    (z_len : PySem.W.nsIn K mainGlobals "len" = some none)
    (z_list : PySem.W.nsIn K mainGlobals "list" = some none)
    (z_max : PySem.W.nsIn K mainGlobals "max" = some none)
    (z_min : PySem.W.nsIn K mainGlobals "min" = some none)
    (z_range : PySem.W.nsIn K mainGlobals "range" = some none)
    (z_repr : PySem.W.nsIn K mainGlobals "repr" = some none)
    (z_str : PySem.W.nsIn K mainGlobals "str" = some none)
    (z_tuple : PySem.W.nsIn K mainGlobals "tuple" = some none)
    (y_HOLD : PySem.W.nsIn K mainGlobals "HOLD" = some (some (.str "limit" tk_HOLD)))
    (y_LETTERS : PySem.W.nsIn K mainGlobals "LETTERS" = some (some (.str "abcdefghijklmnopqrstuvwxyz" tk_LETTERS)))
    (y_MOST_EVENTS : PySem.W.nsIn K mainGlobals "MOST_EVENTS" = some (some (.int 8 tk_MOST_EVENTS)))
    (y_MOST_LETTERS : PySem.W.nsIn K mainGlobals "MOST_LETTERS" = some (some (.int 8 tk_MOST_LETTERS)))
    (y_MOST_TIES : PySem.W.nsIn K mainGlobals "MOST_TIES" = some (some (.int 60 tk_MOST_TIES)))
    (y_NONE : PySem.W.nsIn K mainGlobals "NONE" = some (some (.str "none" tk_NONE)))
    (y_TIE : PySem.W.nsIn K mainGlobals "TIE" = some (some (.str "tie" tk_TIE)))
    : ∃ fd : FuncData, (∀ (s : Shared) (v : Value), BindsTo s fd ⟨[v], []⟩ [("_law_script", v)]) ∧ ∀ base : Heap, K.In base → base.Ns mainGlobals mg → BaseX base → FnG l.prog w K mg base CX0 14 fa fd ["_law_script"] (lift ⟨K, l.prog, w⟩ 1 sp_law) := by
  have e := hfa.symm.trans (PySem.W.mg_of X G a34)
  cases e
  have K_Plan : ClsK K "Plan" C_Plan := ⟨at_Plan, ⟨pg_Plan, hd_Plan, po_Plan, sa_Plan⟩, kp_Plan, (by rw [show (PySem.W.clsIn K C_Plan).isSome = true from ci_Plan, ti_Plan]; rfl), ca_Plan, cg_Plan, ct_Plan, cm_Plan⟩
  have K_Table : ClsK K "Table" C_Table := ⟨at_Table, ⟨pg_Table, hd_Table, po_Table, sa_Table⟩, kp_Table, (by rw [show (PySem.W.clsIn K C_Table).isSome = true from ci_Table, ti_Table]; rfl), ca_Table, cg_Table, ct_Table, cm_Table⟩
  have T : Bl K mg := ⟨PySem.W.mg_none_of X G z_all, PySem.W.mg_none_of X G z_bool, PySem.W.mg_none_of X G z_dict, PySem.W.mg_none_of X G z_enumerate, PySem.W.mg_none_of X G z_int, PySem.W.mg_none_of X G z_isinstance, PySem.W.mg_none_of X G z_len, PySem.W.mg_none_of X G z_list, PySem.W.mg_none_of X G z_max, PySem.W.mg_none_of X G z_min, PySem.W.mg_none_of X G z_range, PySem.W.mg_none_of X G z_repr, PySem.W.mg_none_of X G z_str, PySem.W.mg_none_of X G z_tuple, ⟨_, PySem.W.mg_of X G y_HOLD⟩, ⟨_, PySem.W.mg_of X G y_LETTERS⟩, ⟨_, PySem.W.mg_of X G y_MOST_EVENTS⟩, ⟨_, PySem.W.mg_of X G y_MOST_LETTERS⟩, ⟨_, PySem.W.mg_of X G y_MOST_TIES⟩, ⟨_, PySem.W.mg_of X G y_NONE⟩, ⟨_, PySem.W.mg_of X G y_TIE⟩, ⟨_, K_Plan, PySem.W.mg_of X G at_Plan⟩, ⟨_, K_Table, PySem.W.mg_of X G at_Table⟩, ⟨_, at_Plan, K_Plan.cl, nf_Plan_own_events⟩, ⟨_, at_Plan, K_Plan.cl, nf_Plan_own_limits⟩, ⟨_, at_Plan, K_Plan.cl, nf_Plan_own_ties⟩, ⟨_, at_Table, K_Table.cl, nf_Table_leads⟩, ⟨_, at_Table, K_Table.cl, nf_Table_row_of_events⟩, ⟨_, at_Table, K_Table.cl, nf_Table_steps⟩, ⟨_, _, K_Table, at_Plan, kit_of an_Table_Plan ci_Plan ti_Plan as_Table_Plan⟩, hc_of (PySem.W.mg_of X G at_InvalidInteger) (by intro n hn; simp only [List.mem_cons, List.not_mem_nil, or_false] at hn; rcases hn with rfl <;> first | exact ex1_of at_InvalidInteger (exm_of ex_InvalidInteger hci_InvalidInteger hti_InvalidInteger em_InvalidInteger_InvalidInteger)) (by intro n hn; simp only [List.mem_cons, List.not_mem_nil, or_false] at hn; rcases hn with rfl | rfl <;> first | exact ex1_of at_InvalidPlan (exm_of ex_InvalidInteger hci_InvalidInteger hti_InvalidInteger em_InvalidPlan_InvalidInteger) | exact ex1_of at_UnknownEvent (exm_of ex_InvalidInteger hci_InvalidInteger hti_InvalidInteger em_UnknownEvent_InvalidInteger)), hc_of (PySem.W.mg_of X G at_InvalidPlan) (by intro n hn; simp only [List.mem_cons, List.not_mem_nil, or_false] at hn; rcases hn with rfl <;> first | exact ex1_of at_InvalidPlan (exm_of ex_InvalidPlan hci_InvalidPlan hti_InvalidPlan em_InvalidPlan_InvalidPlan)) (by intro n hn; simp only [List.mem_cons, List.not_mem_nil, or_false] at hn; rcases hn with rfl | rfl <;> first | exact ex1_of at_InvalidInteger (exm_of ex_InvalidPlan hci_InvalidPlan hti_InvalidPlan em_InvalidInteger_InvalidPlan) | exact ex1_of at_UnknownEvent (exm_of ex_InvalidPlan hci_InvalidPlan hti_InvalidPlan em_UnknownEvent_InvalidPlan)), hc_of (PySem.W.mg_of X G at_UnknownEvent) (by intro n hn; simp only [List.mem_cons, List.not_mem_nil, or_false] at hn; rcases hn with rfl <;> first | exact ex1_of at_UnknownEvent (exm_of ex_UnknownEvent hci_UnknownEvent hti_UnknownEvent em_UnknownEvent_UnknownEvent)) (by intro n hn; simp only [List.mem_cons, List.not_mem_nil, or_false] at hn; rcases hn with rfl | rfl <;> first | exact ex1_of at_InvalidInteger (exm_of ex_UnknownEvent hci_UnknownEvent hti_UnknownEvent em_InvalidInteger_UnknownEvent) | exact ex1_of at_InvalidPlan (exm_of ex_UnknownEvent hci_UnknownEvent hti_UnknownEvent em_InvalidPlan_UnknownEvent)), xf_of at_InvalidInteger ga_InvalidInteger gg_InvalidInteger ex_InvalidInteger hd_InvalidInteger nf_InvalidInteger_value, xf_of at_InvalidPlan ga_InvalidPlan gg_InvalidPlan ex_InvalidPlan hd_InvalidPlan nf_InvalidPlan_value, xf_of at_UnknownEvent ga_UnknownEvent gg_UnknownEvent ex_UnknownEvent hd_UnknownEvent nf_UnknownEvent_name⟩
  have F0 : Def3 K "_law_box" "_law_box" (topS 42) [] [] _ _ := def_mk l0 c0 k0 dfl0 kwd0
  have F1 : Def3 K "_law_cell" "_law_cell" (topS 41) [] [] _ _ := def_mk l1 c1 k1 dfl0 kwd0
  have F2 : Def3 K "_law_take" "_law_take" (topS 43) [] [] _ _ := def_mk l2 c2 k2 dfl0 kwd0
  have F3 : Def3 K "_law_mixed" "_law_mixed" (topS 44) [] [] _ _ := def_mk l3 c3 k3 dfl0 kwd0
  have F4 : Def3 K "_law_names" "_law_names" (topS 45) [] [] _ _ := def_mk l4 c4 k4 dfl0 kwd0
  have F5 : Def3 K "_law_lag" "_law_lag" (topS 46) [] [] _ _ := def_mk l5 c5 k5 dfl0 kwd0
  have F6 : Def3 K "_law_model" "_law_model" (topS 47) [] [] _ _ := def_mk l6 c6 k6 dfl0 kwd0
  have F7 : Def3 K "is_list" "is_list" (topS 20) [] [] _ _ := def_mk l7 c7 k7 dfl0 kwd0
  have F8 : Def3 K "is_name" "is_name" (topS 19) [] [] _ _ := def_mk l8 c8 k8 dfl0 kwd0
  have F9 : Def3 K "need_events" "need_events" (topS 24) [] [] _ _ := def_mk l9 c9 k9 dfl0 kwd0
  have F10 : Def3 K "need_event" "need_event" (topS 25) [] [] _ _ := def_mk l10 c10 k10 dfl0 kwd0
  have F11 : Def3 K "is_integer" "is_integer" (topS 17) [] [] _ _ := def_mk l11 c11 k11 dfl0 kwd0
  have F12 : Def3 K "is_count" "is_count" (topS 18) [] [] _ _ := def_mk l12 c12 k12 dfl0 kwd0
  have F13 : Def3 K "need_ties" "need_ties" (topS 26) [] [] _ _ := def_mk l13 c13 k13 dfl0 kwd0
  have F14 : Def3 K "need_limits" "need_limits" (topS 27) [] [] _ _ := def_mk l14 c14 k14 dfl0 kwd0
  have F15 : Def3 K "reached" "reached" (topS 29) [] [] _ _ := def_mk l15 c15 k15 dfl0 kwd0
  have F16 : Def3 K "need_no_ring" "need_no_ring" (topS 28) [] [] _ _ := def_mk l16 c16 k16 dfl0 kwd0
  have F17 : Def3 K "__init__" "Plan.__init__" (inClass (topS 30) 0) [(.ref e17_0 : V)] [("limits", (.non : V))] _ _ := def_mk l17 c17 k17 (dfl1 dl17 rfl) (kwd1 fun q hq => by simp only [List.mem_cons, List.mem_nil_iff, or_false] at hq; rcases hq with rfl <;> first | exact ⟨_, q17_limits, rfl⟩)
  have F18 : Def3 K "_law_plan" "_law_plan" (topS 48) [] [] _ _ := def_mk l18 c18 k18 dfl0 kwd0
  have F19 : Def3 K "need_plan" "need_plan" (topS 31) [] [] _ _ := def_mk l19 c19 k19 dfl0 kwd0
  have F20 : Def3 K "events" "Plan.events" (inClass (topS 30) 1) [] [] _ _ := def_mk l20 c20 k20 dfl0 kwd0
  have F21 : Def3 K "ties" "Plan.ties" (inClass (topS 30) 2) [] [] _ _ := def_mk l21 c21 k21 dfl0 kwd0
  have F22 : Def3 K "limits" "Plan.limits" (inClass (topS 30) 3) [] [] _ _ := def_mk l22 c22 k22 dfl0 kwd0
  have F23 : Def3 K "rows_of" "rows_of" (topS 36) [] [] _ _ := def_mk l23 c23 k23 dfl0 kwd0
  have F24 : Def3 K "leads_of" "leads_of" (topS 37) [] [] _ _ := def_mk l24 c24 k24 dfl0 kwd0
  have F25 : Def3 K "__init__" "Table.__init__" (inClass (topS 39) 0) [] [] _ _ := def_mk l25 c25 k25 dfl0 kwd0
  have F26 : Def3 K "lead" "Table.lead" (inClass (topS 39) 2) [] [] _ _ := def_mk l26 c26 k26 dfl0 kwd0
  have F27 : Def3 K "chain_of" "chain_of" (topS 38) [] [] _ _ := def_mk l27 c27 k27 dfl0 kwd0
  have F28 : Def3 K "chain" "Table.chain" (inClass (topS 39) 4) [] [] _ _ := def_mk l28 c28 k28 dfl0 kwd0
  have F29 : Def3 K "most" "Table.most" (inClass (topS 39) 3) [] [] _ _ := def_mk l29 c29 k29 dfl0 kwd0
  have F30 : Def3 K "least" "Table.least" (inClass (topS 39) 7) [] [] _ _ := def_mk l30 c30 k30 dfl0 kwd0
  have F31 : Def3 K "shown" "Table.shown" (inClass (topS 39) 6) [] [] _ _ := def_mk l31 c31 k31 dfl0 kwd0
  have F32 : Def3 K "held" "Table.held" (inClass (topS 39) 5) [] [] _ _ := def_mk l32 c32 k32 dfl0 kwd0
  have F33 : Def3 K "_law_told" "_law_told" (topS 49) [] [] _ _ := def_mk l33 c33 k33 dfl0 kwd0
  have F34 : Def3 K "law" "law" (topS 50) [] [] _ _ := def_mk l34 c34 k34 dfl0 kwd0
  refine ⟨PySem.W.fnOf "law" "law" (defArgs (topS 50)) (defBody (topS 50)) (defScope (topS 50)) .none kV34 dc34 pm34 an34 cd34 ct34, fun s v => BindsTo.of_eq rfl, fun base _ _ BX => ?_⟩
  have xb_MissingError : XBase K mg "MissingError" "KeyError" "KeyError.__init__" := ⟨⟨_, PySem.W.mg_of X G at_MissingError, bg_MissingError, br_MissingError, bi_MissingError⟩, rfl, xini_KeyError⟩
  have xb_PlanError : XBase K mg "PlanError" "ValueError" "ValueError.__init__" := ⟨⟨_, PySem.W.mg_of X G at_PlanError, bg_PlanError, br_PlanError, bi_PlanError⟩, rfl, (XIni.of PySem.F.excBase_ValueError)⟩
  have O_InvalidInteger : OexG K X_InvalidInteger [.ref X_PlanError, .type "ValueError", .type "Exception", .type "BaseException", .type "object"] := ⟨⟨_, _, _, _, _, _, _, _, _, _, _, _, _, _, _, _, xl_InvalidInteger, (XNew.of PySem.F.excBase_ValueError), rfl⟩, rfl, rfl, rfl, fun self => pass_own rfl, sa_InvalidInteger, ex_InvalidInteger, ty_InvalidInteger, kp_InvalidInteger⟩
  have D_InvalidInteger : Def3 K "__init__" "InvalidInteger.__init__" (inClass (topS 4) 0) [] [] _ _ := def_mk lI_InvalidInteger cI_InvalidInteger kI_InvalidInteger dfl0 kwd0
  have x_InvalidInteger : XMk l.prog w K mg base 1 "InvalidInteger" "value" := xmk_of at_InvalidInteger (PySem.W.mg_of X G at_InvalidInteger) O_InvalidInteger in_InvalidInteger ti_InvalidInteger (D_InvalidInteger.bindA (ps := ["self", "value"]) 2 rfl fun _ _ _ _ _ _ us hl => match us, hl with | [_, _], _ => rfl) (xi_InvalidInteger xb_PlanError D_InvalidInteger O_InvalidInteger nf_InvalidInteger_value rfl)
  have O_InvalidPlan : OexG K X_InvalidPlan [.ref X_PlanError, .type "ValueError", .type "Exception", .type "BaseException", .type "object"] := ⟨⟨_, _, _, _, _, _, _, _, _, _, _, _, _, _, _, _, xl_InvalidPlan, (XNew.of PySem.F.excBase_ValueError), rfl⟩, rfl, rfl, rfl, fun self => pass_own rfl, sa_InvalidPlan, ex_InvalidPlan, ty_InvalidPlan, kp_InvalidPlan⟩
  have D_InvalidPlan : Def3 K "__init__" "InvalidPlan.__init__" (inClass (topS 12) 0) [] [] _ _ := def_mk lI_InvalidPlan cI_InvalidPlan kI_InvalidPlan dfl0 kwd0
  have x_InvalidPlan : XMk l.prog w K mg base 1 "InvalidPlan" "value" := xmk_of at_InvalidPlan (PySem.W.mg_of X G at_InvalidPlan) O_InvalidPlan in_InvalidPlan ti_InvalidPlan (D_InvalidPlan.bindA (ps := ["self", "value"]) 2 rfl fun _ _ _ _ _ _ us hl => match us, hl with | [_, _], _ => rfl) (xi_InvalidPlan xb_PlanError D_InvalidPlan O_InvalidPlan nf_InvalidPlan_value rfl)
  have O_UnknownEvent : OexG K X_UnknownEvent [.ref X_MissingError, .type "KeyError", .type "LookupError", .type "Exception", .type "BaseException", .type "object"] := ⟨⟨_, _, _, _, _, _, _, _, _, _, _, _, _, _, _, _, xl_UnknownEvent, (XNew.of PySem.F.excBase_LookupError), rfl⟩, rfl, rfl, rfl, fun self => pass_own rfl, sa_UnknownEvent, ex_UnknownEvent, ty_UnknownEvent, kp_UnknownEvent⟩
  have D_UnknownEvent : Def3 K "__init__" "UnknownEvent.__init__" (inClass (topS 13) 0) [] [] _ _ := def_mk lI_UnknownEvent cI_UnknownEvent kI_UnknownEvent dfl0 kwd0
  have x_UnknownEvent : XMk l.prog w K mg base 1 "UnknownEvent" "name" := xmk_of at_UnknownEvent (PySem.W.mg_of X G at_UnknownEvent) O_UnknownEvent in_UnknownEvent ti_UnknownEvent (D_UnknownEvent.bindA (ps := ["self", "name"]) 2 rfl fun _ _ _ _ _ _ us hl => match us, hl with | [_, _], _ => rfl) (xi_UnknownEvent xb_MissingError D_UnknownEvent O_UnknownEvent nf_UnknownEvent_name rfl)
  have g__law_box : FnG l.prog w K mg base CX0 1 _ _ ["_law_cell_here"] (lift ⟨K, l.prog, w⟩ 1 sp__law_box) := ok__law_box T  F0
  have c__law_box : Cal3 l.prog w K mg base CX0 1 "_law_box" 1 [] (allPos 1) [] 1 (lift ⟨K, l.prog, w⟩ 1 sp__law_box) := ⟨⟨_, _, _, PySem.W.mg_of X G a0, k0, F0.bindA (ps := ["_law_cell_here"]) 1 rfl fun _ _ _ _ _ _ us hl => match us, hl with | [_], _ => rfl, g__law_box⟩, rfl, rfl⟩
  have g__law_cell : FnG l.prog w K mg base CX0 1 _ _ ["_law_script", "_law_k"] (lift ⟨K, l.prog, w⟩ 2 sp__law_cell) := ok__law_cell T  F1
  have c__law_cell : Cal3 l.prog w K mg base CX0 1 "_law_cell" 2 [] (allPos 2) [] 2 (lift ⟨K, l.prog, w⟩ 2 sp__law_cell) := ⟨⟨_, _, _, PySem.W.mg_of X G a1, k1, F1.bindA (ps := ["_law_script", "_law_k"]) 2 rfl fun _ _ _ _ _ _ us hl => match us, hl with | [_, _], _ => rfl, g__law_cell⟩, rfl, rfl⟩
  have g__law_take : FnG l.prog w K mg base CX0 1 _ _ ["_law_box_here", "_law_many"] (lift ⟨K, l.prog, w⟩ 2 sp__law_take) := ok__law_take T  F2
  have c__law_take : Cal3 l.prog w K mg base CX0 1 "_law_take" 2 [] (allPos 2) [] 2 (lift ⟨K, l.prog, w⟩ 2 sp__law_take) := ⟨⟨_, _, _, PySem.W.mg_of X G a2, k2, F2.bindA (ps := ["_law_box_here", "_law_many"]) 2 rfl fun _ _ _ _ _ _ us hl => match us, hl with | [_, _], _ => rfl, g__law_take⟩, rfl, rfl⟩
  have g__law_mixed : FnG l.prog w K mg base CX0 2 _ _ ["_law_box_here", "_law_some"] (lift ⟨K, l.prog, w⟩ 2 sp__law_mixed) := ok__law_mixed T c__law_take F3
  have c__law_mixed : Cal3 l.prog w K mg base CX0 2 "_law_mixed" 2 [] (allPos 2) [] 2 (lift ⟨K, l.prog, w⟩ 2 sp__law_mixed) := ⟨⟨_, _, _, PySem.W.mg_of X G a3, k3, F3.bindA (ps := ["_law_box_here", "_law_some"]) 2 rfl fun _ _ _ _ _ _ us hl => match us, hl with | [_, _], _ => rfl, g__law_mixed⟩, rfl, rfl⟩
  have g__law_names : FnG l.prog w K mg base CX0 2 _ _ ["_law_box_here", "_law_many"] (lift ⟨K, l.prog, w⟩ 2 sp__law_names) := ok__law_names T c__law_take F4
  have c__law_names : Cal3 l.prog w K mg base CX0 2 "_law_names" 2 [] (allPos 2) [] 2 (lift ⟨K, l.prog, w⟩ 2 sp__law_names) := ⟨⟨_, _, _, PySem.W.mg_of X G a4, k4, F4.bindA (ps := ["_law_box_here", "_law_many"]) 2 rfl fun _ _ _ _ _ _ us hl => match us, hl with | [_, _], _ => rfl, g__law_names⟩, rfl, rfl⟩
  have g__law_lag : FnG l.prog w K mg base CX0 2 _ _ ["_law_box_here"] (lift ⟨K, l.prog, w⟩ 1 sp__law_lag) := ok__law_lag T c__law_take F5
  have c__law_lag : Cal3 l.prog w K mg base CX0 2 "_law_lag" 1 [] (allPos 1) [] 1 (lift ⟨K, l.prog, w⟩ 1 sp__law_lag) := ⟨⟨_, _, _, PySem.W.mg_of X G a5, k5, F5.bindA (ps := ["_law_box_here"]) 1 rfl fun _ _ _ _ _ _ us hl => match us, hl with | [_], _ => rfl, g__law_lag⟩, rfl, rfl⟩
  have g__law_model : FnG l.prog w K mg base CX0 3 _ _ ["_law_box_here", "_law_many", "_law_most"] (lift ⟨K, l.prog, w⟩ 3 sp__law_model) := ok__law_model T c__law_names c__law_mixed c__law_take c__law_lag F6
  have c__law_model : Cal3 l.prog w K mg base CX0 3 "_law_model" 3 [] (allPos 3) [] 3 (lift ⟨K, l.prog, w⟩ 3 sp__law_model) := ⟨⟨_, _, _, PySem.W.mg_of X G a6, k6, F6.bindA (ps := ["_law_box_here", "_law_many", "_law_most"]) 3 rfl fun _ _ _ _ _ _ us hl => match us, hl with | [_, _, _], _ => rfl, g__law_model⟩, rfl, rfl⟩
  have g_is_list : FnG l.prog w K mg base CX0 1 _ _ ["value"] (lift ⟨K, l.prog, w⟩ 1 sp_is_list) := ok_is_list T  F7
  have c_is_list : Cal3 l.prog w K mg base CX0 1 "is_list" 1 [] (allPos 1) [] 1 (lift ⟨K, l.prog, w⟩ 1 sp_is_list) := ⟨⟨_, _, _, PySem.W.mg_of X G a7, k7, F7.bindA (ps := ["value"]) 1 rfl fun _ _ _ _ _ _ us hl => match us, hl with | [_], _ => rfl, g_is_list⟩, rfl, rfl⟩
  have g_is_name : FnG l.prog w K mg base CX0 1 _ _ ["value"] (lift ⟨K, l.prog, w⟩ 1 sp_is_name) := ok_is_name T  F8
  have c_is_name : Cal3 l.prog w K mg base CX0 1 "is_name" 1 [] (allPos 1) [] 1 (lift ⟨K, l.prog, w⟩ 1 sp_is_name) := ⟨⟨_, _, _, PySem.W.mg_of X G a8, k8, F8.bindA (ps := ["value"]) 1 rfl fun _ _ _ _ _ _ us hl => match us, hl with | [_], _ => rfl, g_is_name⟩, rfl, rfl⟩
  have g_need_events : FnG l.prog w K mg base CX0 2 _ _ ["events"] (lift ⟨K, l.prog, w⟩ 1 sp_need_events) := ok_need_events T c_is_list c_is_name F9
  have c_need_events : Cal3 l.prog w K mg base CX0 2 "need_events" 1 [] (allPos 1) [] 1 (lift ⟨K, l.prog, w⟩ 1 sp_need_events) := ⟨⟨_, _, _, PySem.W.mg_of X G a9, k9, F9.bindA (ps := ["events"]) 1 rfl fun _ _ _ _ _ _ us hl => match us, hl with | [_], _ => rfl, g_need_events⟩, rfl, rfl⟩
  have g_need_event : FnG l.prog w K mg base (L2.CX l.prog w) 3 _ _ ["events", "name"] (liftX ⟨K, l.prog, w⟩ 2 spx_need_event) := ok_need_event T c_is_name x_UnknownEvent F10
  have g0_need_event : FnG l.prog w K mg base CX0 3 _ _ ["events", "name"] (lift ⟨K, l.prog, w⟩ 2 sp_need_event) := fng_calm g_need_event calm_need_event
  have c0_need_event : Cal3 l.prog w K mg base CX0 3 "need_event" 2 [] (allPos 2) [] 2 (lift ⟨K, l.prog, w⟩ 2 sp_need_event) := ⟨⟨_, _, _, PySem.W.mg_of X G a10, k10, F10.bindA (ps := ["events", "name"]) 2 rfl fun _ _ _ _ _ _ us hl => match us, hl with | [_, _], _ => rfl, g0_need_event⟩, rfl, rfl⟩
  have c_need_event : Cal3 l.prog w K mg base (L2.CX l.prog w) 3 "need_event" 2 [] (allPos 2) [] 2 (liftX ⟨K, l.prog, w⟩ 2 spx_need_event) := ⟨⟨_, _, _, PySem.W.mg_of X G a10, k10, F10.bindA (ps := ["events", "name"]) 2 rfl fun _ _ _ _ _ _ us hl => match us, hl with | [_, _], _ => rfl, g_need_event⟩, rfl, rfl⟩
  have g_is_integer : FnG l.prog w K mg base CX0 1 _ _ ["value"] (lift ⟨K, l.prog, w⟩ 1 sp_is_integer) := ok_is_integer T  F11
  have c_is_integer : Cal3 l.prog w K mg base CX0 1 "is_integer" 1 [] (allPos 1) [] 1 (lift ⟨K, l.prog, w⟩ 1 sp_is_integer) := ⟨⟨_, _, _, PySem.W.mg_of X G a11, k11, F11.bindA (ps := ["value"]) 1 rfl fun _ _ _ _ _ _ us hl => match us, hl with | [_], _ => rfl, g_is_integer⟩, rfl, rfl⟩
  have g_is_count : FnG l.prog w K mg base CX0 2 _ _ ["value"] (lift ⟨K, l.prog, w⟩ 1 sp_is_count) := ok_is_count T c_is_integer F12
  have c_is_count : Cal3 l.prog w K mg base CX0 2 "is_count" 1 [] (allPos 1) [] 1 (lift ⟨K, l.prog, w⟩ 1 sp_is_count) := ⟨⟨_, _, _, PySem.W.mg_of X G a12, k12, F12.bindA (ps := ["value"]) 1 rfl fun _ _ _ _ _ _ us hl => match us, hl with | [_], _ => rfl, g_is_count⟩, rfl, rfl⟩
  have g_need_ties : FnG l.prog w K mg base CX0 4 _ _ ["events", "ties"] (lift ⟨K, l.prog, w⟩ 2 sp_need_ties) := ok_need_ties T c_is_list c0_need_event c_is_count F13
  have c_need_ties : Cal3 l.prog w K mg base CX0 4 "need_ties" 2 [] (allPos 2) [] 2 (lift ⟨K, l.prog, w⟩ 2 sp_need_ties) := ⟨⟨_, _, _, PySem.W.mg_of X G a13, k13, F13.bindA (ps := ["events", "ties"]) 2 rfl fun _ _ _ _ _ _ us hl => match us, hl with | [_, _], _ => rfl, g_need_ties⟩, rfl, rfl⟩
  have g_need_limits : FnG l.prog w K mg base CX0 3 _ _ ["events", "limits"] (lift ⟨K, l.prog, w⟩ 2 sp_need_limits) := ok_need_limits T c_is_name c_is_count F14
  have c_need_limits : Cal3 l.prog w K mg base CX0 3 "need_limits" 2 [] (allPos 2) [] 2 (lift ⟨K, l.prog, w⟩ 2 sp_need_limits) := ⟨⟨_, _, _, PySem.W.mg_of X G a14, k14, F14.bindA (ps := ["events", "limits"]) 2 rfl fun _ _ _ _ _ _ us hl => match us, hl with | [_, _], _ => rfl, g_need_limits⟩, rfl, rfl⟩
  have g_reached : FnG l.prog w K mg base CX0 1 _ _ ["behind", "begin"] (lift ⟨K, l.prog, w⟩ 2 sp_reached) := ok_reached T  F15
  have c_reached : Cal3 l.prog w K mg base CX0 1 "reached" 2 [] (allPos 2) [] 2 (lift ⟨K, l.prog, w⟩ 2 sp_reached) := ⟨⟨_, _, _, PySem.W.mg_of X G a15, k15, F15.bindA (ps := ["behind", "begin"]) 2 rfl fun _ _ _ _ _ _ us hl => match us, hl with | [_, _], _ => rfl, g_reached⟩, rfl, rfl⟩
  have g_need_no_ring : FnG l.prog w K mg base CX0 2 _ _ ["events", "ties"] (lift ⟨K, l.prog, w⟩ 2 sp_need_no_ring) := ok_need_no_ring T c_reached F16
  have c_need_no_ring : Cal3 l.prog w K mg base CX0 2 "need_no_ring" 2 [] (allPos 2) [] 2 (lift ⟨K, l.prog, w⟩ 2 sp_need_no_ring) := ⟨⟨_, _, _, PySem.W.mg_of X G a16, k16, F16.bindA (ps := ["events", "ties"]) 2 rfl fun _ _ _ _ _ _ us hl => match us, hl with | [_, _], _ => rfl, g_need_no_ring⟩, rfl, rfl⟩
  have g_Plan___init__ : FnG l.prog w K mg base CX0 5 _ _ ["self", "events", "ties", "limits"] (lift ⟨K, l.prog, w⟩ 4 sp_Plan___init__) := ok_Plan___init__ T c_need_events c_need_ties c_need_limits c_need_no_ring F17
  have k_Plan___init____3_limits : Mak3 l.prog w K mg base CX0 5 "Plan" 2 ["limits"] [.pos 0, .pos 1, .pos 2, .kw 0] [] 4 (lift ⟨K, l.prog, w⟩ 4 sp_Plan___init__) := ⟨⟨_, _, _, _, at_Plan, PySem.W.mg_of X G at_Plan, ⟨mk_Plan, a17, i17, kp_Plan⟩, Bd3.drop (F17.bindD (ps := ["self", "events", "ties", "limits"]) (by simp) 3 ["limits"] [.pos 0, .pos 1, .pos 2, .kw 0] rfl fun _ _ _ _ _ _ _ us ws ds h1 h2 h3 => match us, ws, ds, h1, h2, h3 with | [_, _, _], [_], [_], _, _, _ => ⟨_, rfl, rfl⟩), g_Plan___init__⟩, rfl, rfl⟩
  have g__law_plan : FnG l.prog w K mg base CX0 7 _ _ ["_law_model_here"] (lift ⟨K, l.prog, w⟩ 1 spg__law_plan) := ok__law_plan T k_Plan___init____3_limits F18
  have c__law_plan : Cal3 l.prog w K mg base CX0 7 "_law_plan" 1 [] (allPos 1) [] 1 (lift ⟨K, l.prog, w⟩ 1 spg__law_plan) := ⟨⟨_, _, _, PySem.W.mg_of X G a18, k18, F18.bindA (ps := ["_law_model_here"]) 1 rfl fun _ _ _ _ _ _ us hl => match us, hl with | [_], _ => rfl, g__law_plan⟩, rfl, rfl⟩
  have g_need_plan : FnG l.prog w K mg base (L2.CX l.prog w) 3 _ _ ["value"] (liftX ⟨K, l.prog, w⟩ 1 spx_need_plan) := ok_need_plan T x_InvalidPlan F19
  have c_need_plan : Cal3 l.prog w K mg base (L2.CX l.prog w) 3 "need_plan" 1 [] (allPos 1) [] 1 (liftX ⟨K, l.prog, w⟩ 1 spx_need_plan) := ⟨⟨_, _, _, PySem.W.mg_of X G a19, k19, F19.bindA (ps := ["value"]) 1 rfl fun _ _ _ _ _ _ us hl => match us, hl with | [_], _ => rfl, g_need_plan⟩, rfl, rfl⟩
  have g_Plan_events : FnG l.prog w K mg base CX0 1 _ _ ["self"] (lift ⟨K, l.prog, w⟩ 1 spg_Plan_events) := ok_Plan_events T  F20
  have m_Plan_events : Met3 l.prog w K mg base CX0 1 "Plan" "events" 0 [] (allPos 1) [] 1 (lift ⟨K, l.prog, w⟩ 1 spg_Plan_events) := ⟨⟨_, _, _, _, at_Plan, K_Plan.cl, ⟨a20, i20, k20⟩, F20.bindA (ps := ["self"]) 1 rfl fun _ _ _ _ _ _ us hl => match us, hl with | [_], _ => rfl, g_Plan_events⟩, rfl, rfl⟩
  have g_Plan_ties : FnG l.prog w K mg base CX0 1 _ _ ["self"] (lift ⟨K, l.prog, w⟩ 1 spg_Plan_ties) := ok_Plan_ties T  F21
  have m_Plan_ties : Met3 l.prog w K mg base CX0 1 "Plan" "ties" 0 [] (allPos 1) [] 1 (lift ⟨K, l.prog, w⟩ 1 spg_Plan_ties) := ⟨⟨_, _, _, _, at_Plan, K_Plan.cl, ⟨a21, i21, k21⟩, F21.bindA (ps := ["self"]) 1 rfl fun _ _ _ _ _ _ us hl => match us, hl with | [_], _ => rfl, g_Plan_ties⟩, rfl, rfl⟩
  have g_Plan_limits : FnG l.prog w K mg base CX0 1 _ _ ["self"] (lift ⟨K, l.prog, w⟩ 1 spg_Plan_limits) := ok_Plan_limits T  F22
  have m_Plan_limits : Met3 l.prog w K mg base CX0 1 "Plan" "limits" 0 [] (allPos 1) [] 1 (lift ⟨K, l.prog, w⟩ 1 spg_Plan_limits) := ⟨⟨_, _, _, _, at_Plan, K_Plan.cl, ⟨a22, i22, k22⟩, F22.bindA (ps := ["self"]) 1 rfl fun _ _ _ _ _ _ us hl => match us, hl with | [_], _ => rfl, g_Plan_limits⟩, rfl, rfl⟩
  have g_rows_of : FnG l.prog w K mg base CX0 2 _ _ ["plan"] (lift ⟨K, l.prog, w⟩ 1 spg_rows_of) := ok_rows_of T m_Plan_ties m_Plan_limits m_Plan_events F23
  have c_rows_of : Cal3 l.prog w K mg base CX0 2 "rows_of" 1 [] (allPos 1) [] 1 (lift ⟨K, l.prog, w⟩ 1 spg_rows_of) := ⟨⟨_, _, _, PySem.W.mg_of X G a23, k23, F23.bindA (ps := ["plan"]) 1 rfl fun _ _ _ _ _ _ us hl => match us, hl with | [_], _ => rfl, g_rows_of⟩, rfl, rfl⟩
  have g_leads_of : FnG l.prog w K mg base CX0 1 _ _ ["nodes", "rows"] (lift ⟨K, l.prog, w⟩ 2 sp_leads_of) := ok_leads_of T  F24
  have c_leads_of : Cal3 l.prog w K mg base CX0 1 "leads_of" 2 [] (allPos 2) [] 2 (lift ⟨K, l.prog, w⟩ 2 sp_leads_of) := ⟨⟨_, _, _, PySem.W.mg_of X G a24, k24, F24.bindA (ps := ["nodes", "rows"]) 2 rfl fun _ _ _ _ _ _ us hl => match us, hl with | [_, _], _ => rfl, g_leads_of⟩, rfl, rfl⟩
  have g_Table___init__ : FnG l.prog w K mg base (L2.CX l.prog w) 4 _ _ ["self", "plan"] (liftX ⟨K, l.prog, w⟩ 2 spx_Table___init__) := ok_Table___init__ T c_need_plan m_Plan_events c_leads_of c_rows_of F25
  have k_Table___init__ : Mak3 l.prog w K mg base (L2.CX l.prog w) 4 "Table" 1 [] (allPos 2) [] 2 (liftX ⟨K, l.prog, w⟩ 2 spx_Table___init__) := ⟨⟨_, _, _, _, at_Table, PySem.W.mg_of X G at_Table, ⟨mk_Table, a25, i25, kp_Table⟩, F25.bindA (ps := ["self", "plan"]) 2 rfl fun _ _ _ _ _ _ us hl => match us, hl with | [_, _], _ => rfl, g_Table___init__⟩, rfl, rfl⟩
  have g_Table_lead : FnG l.prog w K mg base (L2.CX l.prog w) 4 _ _ ["self", "earlier", "later"] (liftX ⟨K, l.prog, w⟩ 3 spx_Table_lead) := ok_Table_lead T c_need_event F26
  have m_Table_lead : Met3 l.prog w K mg base (L2.CX l.prog w) 4 "Table" "lead" 2 [] (allPos 3) [] 3 (liftX ⟨K, l.prog, w⟩ 3 spx_Table_lead) := ⟨⟨_, _, _, _, at_Table, K_Table.cl, ⟨a26, i26, k26⟩, F26.bindA (ps := ["self", "earlier", "later"]) 3 rfl fun _ _ _ _ _ _ us hl => match us, hl with | [_, _, _], _ => rfl, g_Table_lead⟩, rfl, rfl⟩
  have g_chain_of : FnG l.prog w K mg base CX0 11 _ _ ["steps", "earlier", "later"] (lift ⟨K, l.prog, w⟩ 3 (sp_chain_of 10)) := ok_chain_of T (PySem.W.mg_of X G a27) k27 (F27.bindA (ps := ["steps", "earlier", "later"]) 3 rfl fun _ _ _ _ _ _ us hl => match us, hl with | [_, _, _], _ => rfl) F27 10
  have c_chain_of : Cal3 l.prog w K mg base CX0 11 "chain_of" 3 [] (allPos 3) [] 3 (lift ⟨K, l.prog, w⟩ 3 (sp_chain_of 10)) := ⟨⟨_, _, _, PySem.W.mg_of X G a27, k27, F27.bindA (ps := ["steps", "earlier", "later"]) 3 rfl fun _ _ _ _ _ _ us hl => match us, hl with | [_, _, _], _ => rfl, g_chain_of⟩, rfl, rfl⟩
  have g_Table_chain : FnG l.prog w K mg base (L2.CX l.prog w) 12 _ _ ["self", "earlier", "later"] (liftX ⟨K, l.prog, w⟩ 3 spx_Table_chain) := ok_Table_chain T m_Table_lead c_chain_of F28
  have m_Table_chain : Met3 l.prog w K mg base (L2.CX l.prog w) 12 "Table" "chain" 2 [] (allPos 3) [] 3 (liftX ⟨K, l.prog, w⟩ 3 spx_Table_chain) := ⟨⟨_, _, _, _, at_Table, K_Table.cl, ⟨a28, i28, k28⟩, F28.bindA (ps := ["self", "earlier", "later"]) 3 rfl fun _ _ _ _ _ _ us hl => match us, hl with | [_, _, _], _ => rfl, g_Table_chain⟩, rfl, rfl⟩
  have g_Table_most : FnG l.prog w K mg base (L2.CX l.prog w) 4 _ _ ["self", "event"] (liftX ⟨K, l.prog, w⟩ 2 spx_Table_most) := ok_Table_most T c_need_event F29
  have m_Table_most : Met3 l.prog w K mg base (L2.CX l.prog w) 4 "Table" "most" 1 [] (allPos 2) [] 2 (liftX ⟨K, l.prog, w⟩ 2 spx_Table_most) := ⟨⟨_, _, _, _, at_Table, K_Table.cl, ⟨a29, i29, k29⟩, F29.bindA (ps := ["self", "event"]) 2 rfl fun _ _ _ _ _ _ us hl => match us, hl with | [_, _], _ => rfl, g_Table_most⟩, rfl, rfl⟩
  have g_Table_least : FnG l.prog w K mg base (L2.CX l.prog w) 5 _ _ ["self", "event", "count"] (liftX ⟨K, l.prog, w⟩ 3 spx_Table_least) := ok_Table_least T m_Table_most c_is_count x_InvalidInteger F30
  have m_Table_least : Met3 l.prog w K mg base (L2.CX l.prog w) 5 "Table" "least" 2 [] (allPos 3) [] 3 (liftX ⟨K, l.prog, w⟩ 3 spx_Table_least) := ⟨⟨_, _, _, _, at_Table, K_Table.cl, ⟨a30, i30, k30⟩, F30.bindA (ps := ["self", "event", "count"]) 3 rfl fun _ _ _ _ _ _ us hl => match us, hl with | [_, _, _], _ => rfl, g_Table_least⟩, rfl, rfl⟩
  have g_Table_shown : FnG l.prog w K mg base (L2.CX l.prog w) 6 _ _ ["self", "earlier", "later"] (liftX ⟨K, l.prog, w⟩ 3 spx_Table_shown) := ok_Table_shown T m_Table_lead m_Table_least F31
  have m_Table_shown : Met3 l.prog w K mg base (L2.CX l.prog w) 6 "Table" "shown" 2 [] (allPos 3) [] 3 (liftX ⟨K, l.prog, w⟩ 3 spx_Table_shown) := ⟨⟨_, _, _, _, at_Table, K_Table.cl, ⟨a31, i31, k31⟩, F31.bindA (ps := ["self", "earlier", "later"]) 3 rfl fun _ _ _ _ _ _ us hl => match us, hl with | [_, _, _], _ => rfl, g_Table_shown⟩, rfl, rfl⟩
  have g_Table_held : FnG l.prog w K mg base (L2.CX l.prog w) 12 _ _ ["self", "event"] (liftX ⟨K, l.prog, w⟩ 2 spx_Table_held) := ok_Table_held T m_Table_most c_chain_of F32
  have m_Table_held : Met3 l.prog w K mg base (L2.CX l.prog w) 12 "Table" "held" 1 [] (allPos 2) [] 2 (liftX ⟨K, l.prog, w⟩ 2 spx_Table_held) := ⟨⟨_, _, _, _, at_Table, K_Table.cl, ⟨a32, i32, k32⟩, F32.bindA (ps := ["self", "event"]) 2 rfl fun _ _ _ _ _ _ us hl => match us, hl with | [_, _], _ => rfl, g_Table_held⟩, rfl, rfl⟩
  have g__law_told : FnG l.prog w K mg base CX0 13 _ _ ["_law_table", "_law_way", "_law_one", "_law_other"] (lift ⟨K, l.prog, w⟩ 4 sp__law_told) := ok__law_told T k_Table___init__ m_Table_lead m_Table_chain m_Table_shown m_Table_least m_Table_most m_Table_held F33
  have c__law_told : Cal3 l.prog w K mg base CX0 13 "_law_told" 4 [] (allPos 4) [] 4 (lift ⟨K, l.prog, w⟩ 4 sp__law_told) := ⟨⟨_, _, _, PySem.W.mg_of X G a33, k33, F33.bindA (ps := ["_law_table", "_law_way", "_law_one", "_law_other"]) 4 rfl fun _ _ _ _ _ _ us hl => match us, hl with | [_, _, _, _], _ => rfl, g__law_told⟩, rfl, rfl⟩
  exact ok_law T c__law_box c__law_cell c__law_model c__law_take c__law_plan k_Table___init__ c__law_told F34
end K33
open PySem PySem.W PyProof.Rows
set_option maxHeartbeats 0 in
theorem PySem.Challenge.cw_pileups_k33_tables_refused_holds : PySem.Challenge.rw_pileups_k33_tables_refused.Holds := by
  w_on; o_law; k_head; (case hw => w_witness2)
  k_fill
  refine L3.walkG (l := PySem.Challenge.rw_pileups_k33_tables_refused) (n := 63) (k := 14) (x := "_law_script") (X0 := fun _ => L2.CX0) (sp := fun w => L3.lift ⟨_, (PySem.Challenge.rw_pileups_k33_tables_refused).prog, w⟩ 1 K33.sp_law) rfl (by decide) rfl ⟨rfl, by decide, by decide⟩ (fun w h Y => PySem.W.kIn_of Y) ?F (fun w H a ns hl hS => K33.enter hl hS) (fun _ _ _ _ _ h => h)
  case F =>
    intro w mg fa h KX G hmg
    refine' K33.all_mk KX G hmg ?at_Plan ?pg_Plan ?hd_Plan ?po_Plan ?sa_Plan ?kp_Plan ?ci_Plan ?ti_Plan ?ca_Plan ?cg_Plan ?ct_Plan ?cm_Plan ?mk_Plan ?at_Table ?pg_Table ?hd_Table ?po_Table ?sa_Table ?kp_Table ?ci_Table ?ti_Table ?ca_Table ?cg_Table ?ct_Table ?cm_Table ?mk_Table ?nf_Plan_own_events ?nf_Plan_own_limits ?nf_Plan_own_ties ?nf_Table_leads ?nf_Table_row_of_events ?nf_Table_steps ?an_Table_Plan ?as_Table_Plan ?at_InvalidInteger ?at_InvalidPlan ?at_MissingError ?at_PlanError ?at_UnknownEvent ?bg_MissingError ?br_MissingError ?bi_MissingError ?bg_PlanError ?br_PlanError ?bi_PlanError ?ex_InvalidInteger ?ex_InvalidPlan ?ex_UnknownEvent ?xl_InvalidInteger ?sa_InvalidInteger ?ty_InvalidInteger ?kp_InvalidInteger ?in_InvalidInteger ?ti_InvalidInteger ?nf_InvalidInteger_value ?lI_InvalidInteger ?cI_InvalidInteger ?kI_InvalidInteger ?xl_InvalidPlan ?sa_InvalidPlan ?ty_InvalidPlan ?kp_InvalidPlan ?in_InvalidPlan ?ti_InvalidPlan ?nf_InvalidPlan_value ?lI_InvalidPlan ?cI_InvalidPlan ?kI_InvalidPlan ?xl_UnknownEvent ?sa_UnknownEvent ?ty_UnknownEvent ?kp_UnknownEvent ?in_UnknownEvent ?ti_UnknownEvent ?nf_UnknownEvent_name ?lI_UnknownEvent ?cI_UnknownEvent ?kI_UnknownEvent ?ga_InvalidInteger ?gg_InvalidInteger ?hd_InvalidInteger ?ga_InvalidPlan ?gg_InvalidPlan ?hd_InvalidPlan ?ga_UnknownEvent ?gg_UnknownEvent ?hd_UnknownEvent ?hci_InvalidInteger ?hti_InvalidInteger ?em_InvalidInteger_InvalidInteger ?em_InvalidPlan_InvalidInteger ?em_UnknownEvent_InvalidInteger ?hci_InvalidPlan ?hti_InvalidPlan ?em_InvalidPlan_InvalidPlan ?em_InvalidInteger_InvalidPlan ?em_UnknownEvent_InvalidPlan ?hci_UnknownEvent ?hti_UnknownEvent ?em_UnknownEvent_UnknownEvent ?em_InvalidInteger_UnknownEvent ?em_InvalidPlan_UnknownEvent ?a0 ?l0 ?c0 ?k0 ?a1 ?l1 ?c1 ?k1 ?a2 ?l2 ?c2 ?k2 ?a3 ?l3 ?c3 ?k3 ?a4 ?l4 ?c4 ?k4 ?a5 ?l5 ?c5 ?k5 ?a6 ?l6 ?c6 ?k6 ?a7 ?l7 ?c7 ?k7 ?a8 ?l8 ?c8 ?k8 ?a9 ?l9 ?c9 ?k9 ?a10 ?l10 ?c10 ?k10 ?a11 ?l11 ?c11 ?k11 ?a12 ?l12 ?c12 ?k12 ?a13 ?l13 ?c13 ?k13 ?a14 ?l14 ?c14 ?k14 ?a15 ?l15 ?c15 ?k15 ?a16 ?l16 ?c16 ?k16 ?a17 ?i17 ?l17 ?c17 ?k17 ?dl17 ?q17_limits ?a18 ?l18 ?c18 ?k18 ?a19 ?l19 ?c19 ?k19 ?a20 ?i20 ?l20 ?c20 ?k20 ?a21 ?i21 ?l21 ?c21 ?k21 ?a22 ?i22 ?l22 ?c22 ?k22 ?a23 ?l23 ?c23 ?k23 ?a24 ?l24 ?c24 ?k24 ?a25 ?i25 ?l25 ?c25 ?k25 ?a26 ?i26 ?l26 ?c26 ?k26 ?a27 ?l27 ?c27 ?k27 ?a28 ?i28 ?l28 ?c28 ?k28 ?a29 ?i29 ?l29 ?c29 ?k29 ?a30 ?i30 ?l30 ?c30 ?k30 ?a31 ?i31 ?l31 ?c31 ?k31 ?a32 ?i32 ?l32 ?c32 ?k32 ?a33 ?l33 ?c33 ?k33 ?a34 ?l34 ?c34 ?k34 ?z_all ?z_bool ?z_dict ?z_enumerate ?z_int ?z_isinstance ?z_len ?z_list ?z_max ?z_min ?z_range ?z_repr ?z_str ?z_tuple ?y_HOLD ?y_LETTERS ?y_MOST_EVENTS ?y_MOST_LETTERS ?y_MOST_TIES ?y_NONE ?y_TIE
    (case at_Plan => k_is)
    (case pg_Plan => k_is)
    (case hd_Plan => k_is)
    (case po_Plan => k_is)
    (case sa_Plan => k_is)
    (case kp_Plan => k_is)
    (case ci_Plan => k_is)
    (case ti_Plan => k_is)
    (case ca_Plan => k_is)
    (case cg_Plan => k_is)
    (case ct_Plan => k_is)
    (case cm_Plan => k_is)
    (case mk_Plan => k_is)
    (case at_Table => k_is)
    (case pg_Table => k_is)
    (case hd_Table => k_is)
    (case po_Table => k_is)
    (case sa_Table => k_is)
    (case kp_Table => k_is)
    (case ci_Table => k_is)
    (case ti_Table => k_is)
    (case ca_Table => k_is)
    (case cg_Table => k_is)
    (case ct_Table => k_is)
    (case cm_Table => k_is)
    (case mk_Table => k_is)
    (case nf_Plan_own_events => k_is)
    (case nf_Plan_own_limits => k_is)
    (case nf_Plan_own_ties => k_is)
    (case nf_Table_leads => k_is)
    (case nf_Table_row_of_events => k_is)
    (case nf_Table_steps => k_is)
    (case an_Table_Plan => first | rfl | decide)
    (case as_Table_Plan => first | k_is | rfl)
    (case at_InvalidInteger => k_is)
    (case at_InvalidPlan => k_is)
    (case at_MissingError => k_is)
    (case at_PlanError => k_is)
    (case at_UnknownEvent => k_is)
    (case bg_MissingError => k_is)
    (case br_MissingError => k_is)
    (case bi_MissingError => k_is)
    (case bg_PlanError => k_is)
    (case br_PlanError => k_is)
    (case bi_PlanError => k_is)
    (case ex_InvalidInteger => k_is)
    (case ex_InvalidPlan => k_is)
    (case ex_UnknownEvent => k_is)
    (case xl_InvalidInteger => k_is)
    (case sa_InvalidInteger => k_is)
    (case ty_InvalidInteger => k_is)
    (case kp_InvalidInteger => k_is)
    (case in_InvalidInteger => k_is)
    (case ti_InvalidInteger => k_is)
    (case nf_InvalidInteger_value => k_is)
    (case lI_InvalidInteger => k_is)
    (case cI_InvalidInteger => k_is)
    (case kI_InvalidInteger => k_is)
    (case xl_InvalidPlan => k_is)
    (case sa_InvalidPlan => k_is)
    (case ty_InvalidPlan => k_is)
    (case kp_InvalidPlan => k_is)
    (case in_InvalidPlan => k_is)
    (case ti_InvalidPlan => k_is)
    (case nf_InvalidPlan_value => k_is)
    (case lI_InvalidPlan => k_is)
    (case cI_InvalidPlan => k_is)
    (case kI_InvalidPlan => k_is)
    (case xl_UnknownEvent => k_is)
    (case sa_UnknownEvent => k_is)
    (case ty_UnknownEvent => k_is)
    (case kp_UnknownEvent => k_is)
    (case in_UnknownEvent => k_is)
    (case ti_UnknownEvent => k_is)
    (case nf_UnknownEvent_name => k_is)
    (case lI_UnknownEvent => k_is)
    (case cI_UnknownEvent => k_is)
    (case kI_UnknownEvent => k_is)
    (case ga_InvalidInteger => k_is)
    (case gg_InvalidInteger => k_is)
    (case hd_InvalidInteger => k_is)
    (case ga_InvalidPlan => k_is)
    (case gg_InvalidPlan => k_is)
    (case hd_InvalidPlan => k_is)
    (case ga_UnknownEvent => k_is)
    (case gg_UnknownEvent => k_is)
    (case hd_UnknownEvent => k_is)
    (case hci_InvalidInteger => k_is)
    (case hti_InvalidInteger => k_is)
    (case em_InvalidInteger_InvalidInteger => first | k_is | rfl)
    (case em_InvalidPlan_InvalidInteger => first | k_is | rfl)
    (case em_UnknownEvent_InvalidInteger => first | k_is | rfl)
    (case hci_InvalidPlan => k_is)
    (case hti_InvalidPlan => k_is)
    (case em_InvalidPlan_InvalidPlan => first | k_is | rfl)
    (case em_InvalidInteger_InvalidPlan => first | k_is | rfl)
    (case em_UnknownEvent_InvalidPlan => first | k_is | rfl)
    (case hci_UnknownEvent => k_is)
    (case hti_UnknownEvent => k_is)
    (case em_UnknownEvent_UnknownEvent => first | k_is | rfl)
    (case em_InvalidInteger_UnknownEvent => first | k_is | rfl)
    (case em_InvalidPlan_UnknownEvent => first | k_is | rfl)
    (case a0 => k_is)
    (case l0 => k_is)
    (case c0 => k_is)
    (case k0 => k_is)
    (case a1 => k_is)
    (case l1 => k_is)
    (case c1 => k_is)
    (case k1 => k_is)
    (case a2 => k_is)
    (case l2 => k_is)
    (case c2 => k_is)
    (case k2 => k_is)
    (case a3 => k_is)
    (case l3 => k_is)
    (case c3 => k_is)
    (case k3 => k_is)
    (case a4 => k_is)
    (case l4 => k_is)
    (case c4 => k_is)
    (case k4 => k_is)
    (case a5 => k_is)
    (case l5 => k_is)
    (case c5 => k_is)
    (case k5 => k_is)
    (case a6 => k_is)
    (case l6 => k_is)
    (case c6 => k_is)
    (case k6 => k_is)
    (case a7 => k_is)
    (case l7 => k_is)
    (case c7 => k_is)
    (case k7 => k_is)
    (case a8 => k_is)
    (case l8 => k_is)
    (case c8 => k_is)
    (case k8 => k_is)
    (case a9 => k_is)
    (case l9 => k_is)
    (case c9 => k_is)
    (case k9 => k_is)
    (case a10 => k_is)
    (case l10 => k_is)
    (case c10 => k_is)
    (case k10 => k_is)
    (case a11 => k_is)
    (case l11 => k_is)
    (case c11 => k_is)
    (case k11 => k_is)
    (case a12 => k_is)
    (case l12 => k_is)
    (case c12 => k_is)
    (case k12 => k_is)
    (case a13 => k_is)
    (case l13 => k_is)
    (case c13 => k_is)
    (case k13 => k_is)
    (case a14 => k_is)
    (case l14 => k_is)
    (case c14 => k_is)
    (case k14 => k_is)
    (case a15 => k_is)
    (case l15 => k_is)
    (case c15 => k_is)
    (case k15 => k_is)
    (case a16 => k_is)
    (case l16 => k_is)
    (case c16 => k_is)
    (case k16 => k_is)
    (case a17 => k_is)
    (case i17 => k_is)
    (case l17 => k_is)
    (case c17 => k_is)
    (case k17 => k_is)
    (case dl17 => k_is)
    (case q17_limits => k_is)
    (case a18 => k_is)
    (case l18 => k_is)
    (case c18 => k_is)
    (case k18 => k_is)
    (case a19 => k_is)
    (case l19 => k_is)
    (case c19 => k_is)
    (case k19 => k_is)
    (case a20 => k_is)
    (case i20 => k_is)
    (case l20 => k_is)
    (case c20 => k_is)
    (case k20 => k_is)
    (case a21 => k_is)
    (case i21 => k_is)
    (case l21 => k_is)
    (case c21 => k_is)
    (case k21 => k_is)
    (case a22 => k_is)
    (case i22 => k_is)
    (case l22 => k_is)
    (case c22 => k_is)
    (case k22 => k_is)
    (case a23 => k_is)
    (case l23 => k_is)
    (case c23 => k_is)
    (case k23 => k_is)
    (case a24 => k_is)
    (case l24 => k_is)
    (case c24 => k_is)
    (case k24 => k_is)
    (case a25 => k_is)
    (case i25 => k_is)
    (case l25 => k_is)
    (case c25 => k_is)
    (case k25 => k_is)
    (case a26 => k_is)
    (case i26 => k_is)
    (case l26 => k_is)
    (case c26 => k_is)
    (case k26 => k_is)
    (case a27 => k_is)
    (case l27 => k_is)
    (case c27 => k_is)
    (case k27 => k_is)
    (case a28 => k_is)
    (case i28 => k_is)
    (case l28 => k_is)
    (case c28 => k_is)
    (case k28 => k_is)
    (case a29 => k_is)
    (case i29 => k_is)
    (case l29 => k_is)
    (case c29 => k_is)
    (case k29 => k_is)
    (case a30 => k_is)
    (case i30 => k_is)
    (case l30 => k_is)
    (case c30 => k_is)
    (case k30 => k_is)
    (case a31 => k_is)
    (case i31 => k_is)
    (case l31 => k_is)
    (case c31 => k_is)
    (case k31 => k_is)
    (case a32 => k_is)
    (case i32 => k_is)
    (case l32 => k_is)
    (case c32 => k_is)
    (case k32 => k_is)
    (case a33 => k_is)
    (case l33 => k_is)
    (case c33 => k_is)
    (case k33 => k_is)
    (case a34 => k_is)
    (case l34 => k_is)
    (case c34 => k_is)
    (case k34 => k_is)
    (case z_all => k_is)
    (case z_bool => k_is)
    (case z_dict => k_is)
    (case z_enumerate => k_is)
    (case z_int => k_is)
    (case z_isinstance => k_is)
    (case z_len => k_is)
    (case z_list => k_is)
    (case z_max => k_is)
    (case z_min => k_is)
    (case z_range => k_is)
    (case z_repr => k_is)
    (case z_str => k_is)
    (case z_tuple => k_is)
    (case y_HOLD => k_is)
    (case y_LETTERS => k_is)
    (case y_MOST_EVENTS => k_is)
    (case y_MOST_LETTERS => k_is)
    (case y_MOST_TIES => k_is)
    (case y_NONE => k_is)
    (case y_TIE => k_is)

