import PyProof.Rows.All
import Wide.All
import OpenK.AllK
import Wide.FinOn
import PySem.Challenge.RW_pileups_k01_kinds_of_words
import HandS.ForMost
import HandS.Flow
import HandS.Wide
import HandS.IsInst
import HandS.Steps
import HandS.Codes
import HandS.Style
import HandS.Zip
import HandS.DictComp
import HandS.Conv
import HandS.ListItems
import HandS.FStr
import HandS.Defaults
import HandS.MakeKw
import HandS.SortInts
import HandS.Strs
import HandS.SetFor
set_option Elab.async false
set_option linter.all false
set_option maxRecDepth 100000
set_option maxHeartbeats 4000000
namespace L3
open PySem L2

/-- data as trees; an address stands for an object that is tracked by itself -/
inductive D where
  | non | bl (b : Bool) | int (i : Int) | str (x : Str) | ty (n : String) | ref (a : Addr)
  | tup (xs : List D) | lst (xs : List D) | dct (kvs : List (Key × D)) | obj (C : Addr) (fs : List (Str × D))
  /-- a list that is only read (the script) -/
  | scr (xs : List D)
/-- what stands at a tracked address -/
inductive MO where
  | lst (xs : List D) | dct (kvs : List (Key × D)) | ins (C : Addr) (fs : List (Str × D))
abbrev Mu := Addr → Option MO
def mset (μ : Mu) (a : Addr) (o : MO) : Mu := fun b => if b = a then some o else μ b
theorem mset_same {μ : Mu} {a : Addr} {o : MO} : mset μ a o a = some o := by unfold mset; rw [if_pos rfl]
theorem mset_ne {μ : Mu} {a b : Addr} {o : MO} (h : b ≠ a) : mset μ a o b = μ b := by unfold mset; rw [if_neg h]
def keyD : Key → D
  | .inl i => .int i
  | .inr x => .str x
/-- a list of the written part -/
def KL (K : PySem.W.Frag) (a : Addr) (xs : List V) : Prop :=
  ∃ (o : Obj) (its : Array Value) (n : Nat), K.lookup a = some o ∧ o.cls = .type "list" ∧ o.dict = none ∧ o.data = .seq its n ∧ its.size ≤ sizeLine ∧ Vals xs its.toList
def FL (K : PySem.W.Frag) (F : Addr → Prop) (H : Hp) (a : Addr) (vs : List V) : Prop := (F a ∧ Rd H a (.lst vs)) ∨ KL K a vs
mutual
inductive Rp (K : PySem.W.Frag) (F : Addr → Prop) (H : Hp) : D → V → Prop
  | non : Rp K F H .non .non
  | bl (b : Bool) : Rp K F H (.bl b) (.bl b)
  | int (i : Int) : Rp K F H (.int i) (.int i)
  | str (x : Str) : Rp K F H (.str x) (.str x)
  | ty (n : String) : Rp K F H (.ty n) (.ty n)
  | ref (a : Addr) : Rp K F H (.ref a) (.ref a)
  | tup {xs : List D} {vs : List V} {a : Addr} : F a → H a = some (.tup vs) → Rps K F H xs vs → Rp K F H (.tup xs) (.ref a)
  | scr {xs : List D} {vs : List V} {a : Addr} : FL K F H a vs → Rps K F H xs vs → Rp K F H (.scr xs) (.ref a)
  | lst {xs : List D} {vs : List V} {a : Addr} : F a → H a = some (.lst vs) → Rps K F H xs vs → Rp K F H (.lst xs) (.ref a)
  | dct {kvs : List (Key × D)} {ks : List (Key × V)} {a : Addr} : F a → Rd H a (.dK ks) → Rpk K F H kvs ks → Rp K F H (.dct kvs) (.ref a)
  | obj {C : Addr} {fs : List (Str × D)} {gs : List (Str × V)} {a dx : Addr} : F a → H a = some (.ins C dx gs) → Rpf K F H fs gs → Rp K F H (.obj C fs) (.ref a)
inductive Rps (K : PySem.W.Frag) (F : Addr → Prop) (H : Hp) : List D → List V → Prop
  | nil : Rps K F H [] []
  | cons {d : D} {v : V} {ds : List D} {vs : List V} : Rp K F H d v → Rps K F H ds vs → Rps K F H (d :: ds) (v :: vs)
inductive Rpk (K : PySem.W.Frag) (F : Addr → Prop) (H : Hp) : List (Key × D) → List (Key × V) → Prop
  | nil : Rpk K F H [] []
  | cons {k : Key} {d : D} {v : V} {ds : List (Key × D)} {vs : List (Key × V)} : Rp K F H d v → Rpk K F H ds vs → Rpk K F H ((k, d) :: ds) ((k, v) :: vs)
inductive Rpf (K : PySem.W.Frag) (F : Addr → Prop) (H : Hp) : List (Str × D) → List (Str × V) → Prop
  | nil : Rpf K F H [] []
  | cons {f : Str} {d : D} {v : V} {ds : List (Str × D)} {vs : List (Str × V)} : Rp K F H d v → Rpf K F H ds vs → Rpf K F H ((f, d) :: ds) ((f, v) :: vs)
end
def isD : HO → Bool
  | .dK _ => true
  | .frz _ _ => true
  | _ => false
/-- the frozen part only grows, and stays -/
structure Grow (F : Addr → Prop) (H : Hp) (F' : Addr → Prop) (H' : Hp) : Prop where
  mono : ∀ a, F a → F' a
  rd : ∀ a u, F a → Rd H a u → Rd H' a u
  fix : ∀ a u, F a → isD u = false → H a = some u → H' a = some u
section
variable {K : PySem.W.Frag} {F F' F'' : Addr → Prop} {H H' H'' : Hp} {d : D} {v : V}
theorem Grow.refl : Grow F H F H := ⟨fun _ h => h, fun _ _ _ h => h, fun _ _ _ _ h => h⟩
theorem Grow.trans (a : Grow F H F' H') (b : Grow F' H' F'' H'') : Grow F H F'' H'' :=
  ⟨fun x h => b.mono x (a.mono x h), fun x u f h => b.rd x u (a.mono x f) (a.rd x u f h), fun x u f i h => b.fix x u (a.mono x f) i (a.fix x u f i h)⟩
theorem FL.grow {a : Addr} {vs : List V} (g : Grow F H F' H') (h : FL K F H a vs) : FL K F' H' a vs := h.imp (fun ⟨f, r⟩ => ⟨g.mono a f, g.rd a _ f r⟩) id
theorem FL.sq {a : Addr} {vs : List V} (h : FL K F H a vs) : SqL K H a vs := h.imp (fun ⟨_, r⟩ => r) id
mutual
theorem Rp.grow {d : D} {v : V} (g : Grow F H F' H') : Rp K F H d v → Rp K F' H' d v
  | .non => .non
  | .bl b => .bl b
  | .int i => .int i
  | .str x => .str x
  | .ty n => .ty n
  | .ref a => .ref a
  | .tup f h r => .tup (g.mono _ f) (g.fix _ _ f rfl h) (Rps.grow g r)
  | .scr h r => .scr (h.grow g) (Rps.grow g r)
  | .lst f h r => .lst (g.mono _ f) (g.fix _ _ f rfl h) (Rps.grow g r)
  | .dct f h r => .dct (g.mono _ f) (g.rd _ _ f h) (Rpk.grow g r)
  | .obj f h r => .obj (g.mono _ f) (g.fix _ _ f rfl h) (Rpf.grow g r)
theorem Rps.grow {ds : List D} {vs : List V} (g : Grow F H F' H') : Rps K F H ds vs → Rps K F' H' ds vs
  | .nil => .nil
  | .cons h r => .cons (Rp.grow g h) (Rps.grow g r)
theorem Rpk.grow {ds : List (Key × D)} {vs : List (Key × V)} (g : Grow F H F' H') : Rpk K F H ds vs → Rpk K F' H' ds vs
  | .nil => .nil
  | .cons h r => .cons (Rp.grow g h) (Rpk.grow g r)
theorem Rpf.grow {ds : List (Str × D)} {vs : List (Str × V)} (g : Grow F H F' H') : Rpf K F H ds vs → Rpf K F' H' ds vs
  | .nil => .nil
  | .cons h r => .cons (Rp.grow g h) (Rpf.grow g r)
end
theorem Rps.length {ds : List D} {vs : List V} : Rps K F H ds vs → ds.length = vs.length
  | .nil => rfl
  | .cons _ r => by rw [List.length_cons, List.length_cons, Rps.length r]
theorem Rps.get {ds : List D} {vs : List V} : ∀ {i : Nat} {d : D}, Rps K F H ds vs → ds[i]? = some d → ∃ v, vs[i]? = some v ∧ Rp K F H d v
  | _, _, .nil, e => by simp at e
  | 0, _, .cons h _, e => by simp at e; subst e; exact ⟨_, rfl, h⟩
  | i + 1, _, .cons _ r, e => by
    obtain ⟨v, e1, h⟩ := Rps.get (i := i) r (by simpa using e)
    exact ⟨v, by simpa using e1, h⟩
theorem Rps.back {ds : List D} {vs : List V} : ∀ {i : Nat} {v : V}, Rps K F H ds vs → vs[i]? = some v → ∃ d, ds[i]? = some d ∧ Rp K F H d v
  | _, _, .nil, e => by simp at e
  | 0, _, .cons h _, e => by simp at e; subst e; exact ⟨_, rfl, h⟩
  | i + 1, _, .cons _ r, e => by
    obtain ⟨v, e1, h⟩ := Rps.back (i := i) r (by simpa using e)
    exact ⟨v, by simpa using e1, h⟩
theorem Rps.append : ∀ {ds es : List D} {vs us : List V}, Rps K F H ds vs → Rps K F H es us → Rps K F H (ds ++ es) (vs ++ us)
  | _, _, _, _, .nil, s => s
  | _, _, _, _, .cons h r, s => .cons h (Rps.append r s)
theorem Rps.set {d : D} {v : V} (h : Rp K F H d v) : ∀ {ds : List D} {vs : List V} (i : Nat), Rps K F H ds vs → Rps K F H (ds.set i d) (vs.set i v)
  | _, _, _, .nil => .nil
  | _, _, 0, .cons _ t => .cons h t
  | _, _, i + 1, .cons q t => .cons q (Rps.set h i t)
theorem Rps.take : ∀ {ds : List D} {vs : List V} (n : Nat), Rps K F H ds vs → Rps K F H (ds.take n) (vs.take n)
  | _, _, 0, _ => .nil
  | _, _, _ + 1, .nil => .nil
  | _, _, n + 1, .cons r t => .cons r (Rps.take n t)
theorem Rps.drop : ∀ {ds : List D} {vs : List V} (n : Nat), Rps K F H ds vs → Rps K F H (ds.drop n) (vs.drop n)
  | _, _, 0, r => r
  | _, _, _ + 1, .nil => .nil
  | _, _, n + 1, .cons _ t => Rps.drop n t
theorem Rps.dropLast {ds : List D} {vs : List V} (h : Rps K F H ds vs) : Rps K F H ds.dropLast vs.dropLast := by
  rw [List.dropLast_eq_take, List.dropLast_eq_take, h.length]
  exact h.take _
theorem Rps.reverse : ∀ {ds : List D} {vs : List V}, Rps K F H ds vs → Rps K F H ds.reverse vs.reverse
  | _, _, .nil => .nil
  | _, _, .cons h t => by
    rw [List.reverse_cons, List.reverse_cons]
    exact (Rps.reverse t).append (.cons h .nil)

def MoOk (K : PySem.W.Frag) (F : Addr → Prop) (H : Hp) (a : Addr) : MO → Prop
  | .lst xs => ∃ vs, H a = some (.lst vs) ∧ Rps K F H xs vs
  | .dct kvs => ∃ ks, H a = some (.dK ks) ∧ Rpk K F H kvs ks
  | .ins C fs => ∃ dx gs, H a = some (.ins C dx gs) ∧ Rpf K F H fs gs
structure Sim (K : PySem.W.Frag) (F : Addr → Prop) (H : Hp) (μ : Mu) : Prop where
  dom : ∀ a, F a → ∃ u, H a = some u
  obj : ∀ a o, μ a = some o → ¬ F a ∧ MoOk K F H a o
abbrev St3 := List (Option D)
structure Sl (K : PySem.W.Frag) (F : Addr → Prop) (H : Hp) (σ : St) (δ : St3) : Prop where
  len : σ.length = δ.length
  at_ : ∀ (i : Nat) (d : D), δ[i]? = some (some d) → ∃ v, σ[i]? = some (some v) ∧ Rp K F H d v
theorem Sl.grow {σ : St} {δ : St3} (g : Grow F H F' H') (s : Sl K F H σ δ) : Sl K F' H' σ δ :=
  ⟨s.len, fun i d e => let ⟨v, e1, r⟩ := s.at_ i d e; ⟨v, e1, r.grow g⟩⟩
theorem Sl.set {σ : St} {δ : St3} {d : D} {v : V} (s : Sl K F H σ δ) (i : Nat) (r : Rp K F H d v) : Sl K F H (σ.set i (some v)) (δ.set i (some d)) := by
  refine ⟨by simpa using s.len, fun j e h => ?_⟩
  by_cases hj : i = j
  · subst hj
    by_cases hl : i < δ.length
    · rw [List.getElem?_set_self hl] at h
      cases h
      exact ⟨v, List.getElem?_set_self (by rw [s.len]; exact hl), r⟩
    · rw [List.getElem?_eq_none_iff.mpr (by simpa using hl)] at h
      cases h
  · rw [List.getElem?_set_ne hj] at h
    obtain ⟨u, e1, r1⟩ := s.at_ j e h
    exact ⟨u, by rw [List.getElem?_set_ne hj]; exact e1, r1⟩
/-- a new object at p, tracked in H -/
theorem Sim.new {μ : Mu} {p : Addr} {o : HO} (s : Sim K F H μ) (hp : H p = none) : Grow F H F (upd H p o) ∧ Sim K F (upd H p o) μ := by
  have ne : ∀ a, F a → a ≠ p := fun a f e => by
    obtain ⟨u, h⟩ := s.dom a f
    rw [e, hp] at h
    cases h
  have g : Grow F H F (upd H p o) := by
    refine ⟨fun _ h => h, fun a u f h => ?_, fun a u f _ h => by rw [upd_ne (ne a f)]; exact h⟩
    rcases h with h | ⟨ob, h⟩
    · exact .inl (by rw [upd_ne (ne a f)]; exact h)
    · exact .inr ⟨ob, by rw [upd_ne (ne a f)]; exact h⟩
  refine ⟨g, fun a f => ?_, fun a o' h => ?_⟩
  · rw [upd_ne (ne a f)]; exact s.dom a f
  · obtain ⟨nf, m⟩ := s.obj a o' h
    refine ⟨nf, ?_⟩
    have neA : ∀ u, H a = some u → a ≠ p := fun u hu e => by rw [e, hp] at hu; cases hu
    cases o' with
    | lst xs => obtain ⟨vs, e, r⟩ := m; exact ⟨vs, by rw [upd_ne (neA _ e)]; exact e, r.grow g⟩
    | dct kvs => obtain ⟨vs, e, r⟩ := m; exact ⟨vs, by rw [upd_ne (neA _ e)]; exact e, r.grow g⟩
    | ins C fs => obtain ⟨dx, vs, e, r⟩ := m; exact ⟨dx, vs, by rw [upd_ne (neA _ e)]; exact e, r.grow g⟩
/-- .. and frozen -/
theorem Sim.frz {μ : Mu} {p : Addr} {o : HO} (s : Sim K F H μ) (hp : H p = none) : Grow F H (fun a => F a ∨ a = p) (upd H p o) ∧ Sim K (fun a => F a ∨ a = p) (upd H p o) μ := by
  obtain ⟨g, s1⟩ := s.new (o := o) hp
  have g1 : Grow F (upd H p o) (fun a => F a ∨ a = p) (upd H p o) := ⟨fun _ h => .inl h, fun _ _ _ h => h, fun _ _ _ _ h => h⟩
  refine ⟨g.trans g1, fun a f => ?_, fun a o' h => ?_⟩
  · rcases f with f | rfl
    · exact s1.dom a f
    · exact ⟨o, upd_same⟩
  · obtain ⟨nf, m⟩ := s1.obj a o' h
    refine ⟨fun f => ?_, ?_⟩
    · rcases f with f | rfl
      · exact nf f
      · obtain ⟨_, m0⟩ := s.obj a o' h
        cases o' with
        | lst xs => obtain ⟨vs, e, r⟩ := m0; rw [hp] at e; cases e
        | dct kvs => obtain ⟨vs, e, r⟩ := m0; rw [hp] at e; cases e
        | ins C fs => obtain ⟨dx, vs, e, r⟩ := m0; rw [hp] at e; cases e
    · cases o' with
      | lst xs => obtain ⟨vs, e, r⟩ := m; exact ⟨vs, e, r.grow g1⟩
      | dct kvs => obtain ⟨vs, e, r⟩ := m; exact ⟨vs, e, r.grow g1⟩
      | ins C fs => obtain ⟨dx, vs, e, r⟩ := m; exact ⟨dx, vs, e, r.grow g1⟩
theorem Sim.free {μ : Mu} {p : Addr} (s : Sim K F H μ) (hp : H p = none) : μ p = none := by
  cases h : μ p with
  | none => rfl
  | some o =>
    obtain ⟨_, m⟩ := s.obj p o h
    cases o with
    | lst xs => obtain ⟨vs, e, r⟩ := m; rw [hp] at e; cases e
    | dct kvs => obtain ⟨vs, e, r⟩ := m; rw [hp] at e; cases e
    | ins C fs => obtain ⟨dx, vs, e, r⟩ := m; rw [hp] at e; cases e
/-- .. and tracked -/
theorem Sim.trk {μ : Mu} {p : Addr} {o : HO} {m : MO} (s : Sim K F H μ) (hp : H p = none) (ok : ∀ {F' : Addr → Prop} {H' : Hp}, Grow F H F' H' → H' p = some o → MoOk K F' H' p m) :
    Grow F H F (upd H p o) ∧ Sim K F (upd H p o) (mset μ p m) := by
  obtain ⟨g, s1⟩ := s.new (o := o) hp
  refine ⟨g, s1.dom, fun a o' h => ?_⟩
  by_cases e : a = p
  · subst e
    rw [mset_same] at h
    cases h
    refine ⟨fun f => ?_, ok g upd_same⟩
    obtain ⟨u, hu⟩ := s.dom a f
    rw [hp] at hu
    cases hu
  · rw [mset_ne e] at h
    exact s1.obj a o' h
/-- a tracked object is changed -/
theorem Sim.put {μ : Mu} {p : Addr} {o : HO} {m m0 : MO} (s : Sim K F H μ) (h0 : μ p = some m0) (ok : ∀ {F' : Addr → Prop} {H' : Hp}, Grow F H F' H' → H' p = some o → MoOk K F' H' p m) :
    Grow F H F (upd H p o) ∧ Sim K F (upd H p o) (mset μ p m) := by
  have ne : ∀ a, F a → a ≠ p := fun a f e => (s.obj p m0 h0).1 (e ▸ f)
  have g : Grow F H F (upd H p o) := by
    refine ⟨fun _ h => h, fun a u f h => ?_, fun a u f _ h => by rw [upd_ne (ne a f)]; exact h⟩
    rcases h with h | ⟨ob, h⟩
    · exact .inl (by rw [upd_ne (ne a f)]; exact h)
    · exact .inr ⟨ob, by rw [upd_ne (ne a f)]; exact h⟩
  refine ⟨g, fun a f => by rw [upd_ne (ne a f)]; exact s.dom a f, fun a o' h => ?_⟩
  by_cases e : a = p
  · subst e
    rw [mset_same] at h
    cases h
    exact ⟨(s.obj a m0 h0).1, ok g upd_same⟩
  · rw [mset_ne e] at h
    obtain ⟨nf, m⟩ := s.obj a o' h
    refine ⟨nf, ?_⟩
    cases o' with
    | lst xs => obtain ⟨vs, q, r⟩ := m; exact ⟨vs, by rw [upd_ne e]; exact q, r.grow g⟩
    | dct kvs => obtain ⟨vs, q, r⟩ := m; exact ⟨vs, by rw [upd_ne e]; exact q, r.grow g⟩
    | ins C fs => obtain ⟨dx, vs, q, r⟩ := m; exact ⟨dx, vs, by rw [upd_ne e]; exact q, r.grow g⟩
/-- what is neither tracked nor new stays, and is not frozen meanwhile -/
def Fm (F : Addr → Prop) (μ : Mu) (H : Hp) (F' : Addr → Prop) (μ' : Mu) (H' : Hp) : Prop := ∀ a u, H a = some u → μ a = none → μ' a = none ∧ H' a = some u ∧ (F' a → F a)
theorem Fm.refl {μ : Mu} : Fm F μ H F μ H := fun _ _ h n => ⟨n, h, id⟩
theorem Fm.trans {μ μ1 μ2 : Mu} {H1 H2 : Hp} {F1 F2 : Addr → Prop} (a : Fm F μ H F1 μ1 H1) (b : Fm F1 μ1 H1 F2 μ2 H2) : Fm F μ H F2 μ2 H2 := fun x u h n =>
  let ⟨n1, h1, f1⟩ := a x u h n
  let ⟨n2, h2, f2⟩ := b x u h1 n1
  ⟨n2, h2, fun z => f1 (f2 z)⟩
theorem Fm.new {μ : Mu} {p : Addr} {o : HO} (hp : H p = none) : Fm F μ H F μ (upd H p o) := fun a u h n => ⟨n, by rw [upd_ne (ne_of_none h hp)]; exact h, id⟩
theorem Fm.frz {μ : Mu} {p : Addr} {o : HO} (hp : H p = none) : Fm F μ H (fun a => F a ∨ a = p) μ (upd H p o) := fun a u h n => ⟨n, by rw [upd_ne (ne_of_none h hp)]; exact h, fun z => z.elim id fun e => absurd e (ne_of_none h hp)⟩
theorem Fm.trk {μ : Mu} {p : Addr} {o : HO} {m : MO} (hp : H p = none) : Fm F μ H F (mset μ p m) (upd H p o) := fun a u h n => ⟨by rw [mset_ne (ne_of_none h hp)]; exact n, by rw [upd_ne (ne_of_none h hp)]; exact h, id⟩
theorem Fm.put {μ : Mu} {p : Addr} {o : HO} {m m0 : MO} (h0 : μ p = some m0) : Fm F μ H F (mset μ p m) (upd H p o) := fun a u h n => by
  have ne : a ≠ p := fun e => by rw [e, h0] at n; cases n
  exact ⟨by rw [mset_ne ne]; exact n, by rw [upd_ne ne]; exact h, id⟩
structure Step (K : PySem.W.Frag) (F : Addr → Prop) (H : Hp) (μ : Mu) (F' : Addr → Prop) (H' : Hp) (μ' : Mu) : Prop where
  grow : Grow F H F' H'
  fm : Fm F μ H F' μ' H'
  sim : Sim K F' H' μ'
theorem Step.refl {μ : Mu} (s : Sim K F H μ) : Step K F H μ F H μ := ⟨.refl, .refl, s⟩
theorem Step.trans {μ μ' μ'' : Mu} (a : Step K F H μ F' H' μ') (b : Step K F' H' μ' F'' H'' μ'') : Step K F H μ F'' H'' μ'' := ⟨a.grow.trans b.grow, a.fm.trans b.fm, b.sim⟩
/-- a private object (neither frozen nor tracked, made since) is changed -/
theorem Sim.priv {μ : Mu} {p : Addr} {o : HO} (s : Sim K F H μ) (nF : ¬ F p) (nμ : μ p = none) : Grow F H F (upd H p o) ∧ Sim K F (upd H p o) μ := by
  have ne : ∀ a, F a → a ≠ p := fun a f e => nF (e ▸ f)
  have g : Grow F H F (upd H p o) := by
    refine ⟨fun _ h => h, fun a u f h => ?_, fun a u f _ h => by rw [upd_ne (ne a f)]; exact h⟩
    rcases h with h | ⟨ob, h⟩
    · exact .inl (by rw [upd_ne (ne a f)]; exact h)
    · exact .inr ⟨ob, by rw [upd_ne (ne a f)]; exact h⟩
  refine ⟨g, fun a f => by rw [upd_ne (ne a f)]; exact s.dom a f, fun a o' h => ?_⟩
  have e : a ≠ p := fun e => by rw [e, nμ] at h; cases h
  obtain ⟨nf, m⟩ := s.obj a o' h
  refine ⟨nf, ?_⟩
  cases o' with
  | lst xs => obtain ⟨vs, q, r⟩ := m; exact ⟨vs, by rw [upd_ne e]; exact q, r.grow g⟩
  | dct kvs => obtain ⟨vs, q, r⟩ := m; exact ⟨vs, by rw [upd_ne e]; exact q, r.grow g⟩
  | ins C fs => obtain ⟨dx, vs, q, r⟩ := m; exact ⟨dx, vs, by rw [upd_ne e]; exact q, r.grow g⟩
theorem Step.priv {μ μ' : Mu} {p : Addr} {o : HO} (s : Step K F H μ F' H' μ') (hp : H p = none) (nF : ¬ F' p) (nμ : μ' p = none) : Step K F H μ F' (upd H' p o) μ' := by
  obtain ⟨g, z⟩ := s.sim.priv (o := o) nF nμ
  refine ⟨s.grow.trans g, fun a u h n => ?_, z⟩
  obtain ⟨n1, h1, f1⟩ := s.fm a u h n
  exact ⟨n1, by rw [upd_ne (ne_of_none h hp)]; exact h1, f1⟩
/-- .. and frozen at last -/
theorem Step.shut {μ μ' : Mu} {p : Addr} {o : HO} (s : Step K F H μ F' H' μ') (hp : H p = none) (nμ : μ' p = none) (e : H' p = some o) : Step K F H μ (fun a => F' a ∨ a = p) H' μ' := by
  have g1 : Grow F' H' (fun a => F' a ∨ a = p) H' := ⟨fun _ h => .inl h, fun _ _ _ h => h, fun _ _ _ _ h => h⟩
  refine ⟨s.grow.trans g1, fun a u h n => ?_, fun a f => ?_, fun a o' h => ?_⟩
  · obtain ⟨n1, h1, f1⟩ := s.fm a u h n
    exact ⟨n1, h1, fun z => z.elim f1 fun e => absurd e (ne_of_none h hp)⟩
  · rcases f with f | rfl
    · exact s.sim.dom a f
    · exact ⟨o, e⟩
  · obtain ⟨nf, m⟩ := s.sim.obj a o' h
    refine ⟨fun f => f.elim nf (fun e => by rw [e, nμ] at h; cases h), ?_⟩
    cases o' with
    | lst xs => obtain ⟨vs, e, r⟩ := m; exact ⟨vs, e, r.grow g1⟩
    | dct kvs => obtain ⟨vs, e, r⟩ := m; exact ⟨vs, e, r.grow g1⟩
    | ins C fs => obtain ⟨dx, vs, e, r⟩ := m; exact ⟨dx, vs, e, r.grow g1⟩
theorem Rp.st {μ μ' : Mu} (r : Rp K F H d v) (s : Step K F H μ F' H' μ') : Rp K F' H' d v := r.grow s.grow
theorem Rps.st {μ μ' : Mu} {ds : List D} {vs : List V} (r : Rps K F H ds vs) (s : Step K F H μ F' H' μ') : Rps K F' H' ds vs := r.grow s.grow
theorem Rpk.st {μ μ' : Mu} {ds : List (Key × D)} {vs : List (Key × V)} (r : Rpk K F H ds vs) (s : Step K F H μ F' H' μ') : Rpk K F' H' ds vs := r.grow s.grow
theorem Sl.st {μ μ' : Mu} {σ : St} {δ : St3} (r : Sl K F H σ δ) (s : Step K F H μ F' H' μ') : Sl K F' H' σ δ := r.grow s.grow
theorem Sim.frzS {μ : Mu} {p : Addr} {o : HO} (s : Sim K F H μ) (hp : H p = none) : Step K F H μ (fun a => F a ∨ a = p) (upd H p o) μ := let ⟨g, z⟩ := s.frz hp; ⟨g, Fm.frz hp, z⟩
theorem Sim.newS {μ : Mu} {p : Addr} {o : HO} (s : Sim K F H μ) (hp : H p = none) : Step K F H μ F (upd H p o) μ := let ⟨g, z⟩ := s.new hp; ⟨g, Fm.new hp, z⟩
theorem Sim.trkS {μ : Mu} {p : Addr} {o : HO} {m : MO} (s : Sim K F H μ) (hp : H p = none) (ok : ∀ {F' : Addr → Prop} {H' : Hp}, Grow F H F' H' → H' p = some o → MoOk K F' H' p m) :
    Step K F H μ F (upd H p o) (mset μ p m) := let ⟨g, z⟩ := s.trk hp ok; ⟨g, Fm.trk hp, z⟩
theorem Sim.putS {μ : Mu} {p : Addr} {o : HO} {m m0 : MO} (s : Sim K F H μ) (h0 : μ p = some m0) (ok : ∀ {F' : Addr → Prop} {H' : Hp}, Grow F H F' H' → H' p = some o → MoOk K F' H' p m) :
    Step K F H μ F (upd H p o) (mset μ p m) := let ⟨g, z⟩ := s.put h0 ok; ⟨g, Fm.put h0, z⟩
end
end L3

namespace L3
open PySem L2
abbrev DK := D → Mu → Prop
abbrev TE3 := St3 → Mu → DK → Prop
abbrev TT3 := St3 → Mu → (Bool → Mu → Prop) → Prop
abbrev TA3 := St3 → Mu → (List D → Mu → Prop) → Prop
structure Ends3 where
  nx : St3 → Mu → Prop
  rt : DK
  bk : St3 → Mu → Prop := fun _ _ => False
  ct : St3 → Mu → Prop := fun _ _ => False
abbrev TS3 := Ends3 → St3 → Mu → Prop
def low (K : PySem.W.Frag) (t : TE3) : TE := fun σ H Q => ∃ (F : Addr → Prop) (δ : St3) (μ : Mu) (R : DK), Sim K F H μ ∧ Sl K F H σ δ ∧ t δ μ R ∧
  ∀ F' v H' d μ', Step K F H μ F' H' μ' → Rp K F' H' d v → R d μ' → Q v H'
def lowT (K : PySem.W.Frag) (t : TT3) : TT := fun σ H Q => ∃ (F : Addr → Prop) (δ : St3) (μ : Mu) (R : Bool → Mu → Prop), Sim K F H μ ∧ Sl K F H σ δ ∧ t δ μ R ∧
  ∀ F' b H' μ', Step K F H μ F' H' μ' → R b μ' → Q b H'
def lowA (K : PySem.W.Frag) (t : TA3) : TA := fun σ H Q => ∃ (F : Addr → Prop) (δ : St3) (μ : Mu) (R : List D → Mu → Prop), Sim K F H μ ∧ Sl K F H σ δ ∧ t δ μ R ∧
  ∀ F' vs H' ds μ', Step K F H μ F' H' μ' → Rps K F' H' ds vs → R ds μ' → Q vs H'
structure EndsOk (K : PySem.W.Frag) (F : Addr → Prop) (H : Hp) (μ : Mu) (D3 : Ends3) (D : Ends) : Prop where
  nx : ∀ F' σ' H' δ' μ', Step K F H μ F' H' μ' → Sl K F' H' σ' δ' → D3.nx δ' μ' → D.nx σ' H'
  bk : ∀ F' σ' H' δ' μ', Step K F H μ F' H' μ' → Sl K F' H' σ' δ' → D3.bk δ' μ' → D.bk σ' H'
  ct : ∀ F' σ' H' δ' μ', Step K F H μ F' H' μ' → Sl K F' H' σ' δ' → D3.ct δ' μ' → D.ct σ' H'
  rt : ∀ F' v H' d μ', Step K F H μ F' H' μ' → Rp K F' H' d v → D3.rt d μ' → D.rt v H'
theorem EndsOk.st {K : PySem.W.Frag} {F F' : Addr → Prop} {H H' : Hp} {μ μ' : Mu} {D3 : Ends3} {D : Ends} (e : EndsOk K F H μ D3 D) (g : Step K F H μ F' H' μ') : EndsOk K F' H' μ' D3 D :=
  ⟨fun a b c d m g' => e.nx a b c d m (g.trans g'), fun a b c d m g' => e.bk a b c d m (g.trans g'), fun a b c d m g' => e.ct a b c d m (g.trans g'), fun a b c d m g' => e.rt a b c d m (g.trans g')⟩
def lowS (K : PySem.W.Frag) (t : TS3) : TS := fun D σ H => ∃ (F : Addr → Prop) (δ : St3) (μ : Mu) (D3 : Ends3), Sim K F H μ ∧ Sl K F H σ δ ∧ t D3 δ μ ∧ EndsOk K F H μ D3 D
def E3 (X : Cx) (e : Expr) (t : TE3) : Prop := PE X e (low X.K t)
def T3 (X : Cx) (e : Expr) (t : TT3) : Prop := PT X e (lowT X.K t)
def W3 (X : Cx) (e : Expr) (t : TT3) : Prop := PW X e (lowT X.K t)
def A3 (X : Cx) (es : List Expr) (t : TA3) : Prop := PA X es (lowA X.K t)
def S3 (X : Cx) (st : Stmt) (t : TS3) : Prop := PS X st (lowS X.K t)
def Ss3 (X : Cx) (st : List Stmt) (t : TS3) : Prop := PSs X st (lowS X.K t)
theorem _root_.L2.PE.imp {X : Cx} {e : Expr} {t t' : TE} (h : PE X e t) (i : ∀ σ H Q, t' σ H Q → t σ H Q) : PE X e t' := ⟨fun pins s σ H Q I q => h.run pins s σ H Q I (i _ _ _ q)⟩
theorem _root_.L2.PT.imp {X : Cx} {e : Expr} {t t' : TT} (h : PT X e t) (i : ∀ σ H Q, t' σ H Q → t σ H Q) : PT X e t' := ⟨fun pins s σ H Q I q => h.run pins s σ H Q I (i _ _ _ q)⟩
theorem _root_.L2.PW.imp {X : Cx} {e : Expr} {t t' : TT} (h : PW X e t) (i : ∀ σ H Q, t' σ H Q → t σ H Q) : PW X e t' := ⟨fun wh pins s σ H Q I q => h.run wh pins s σ H Q I (i _ _ _ q)⟩
theorem _root_.L2.PA.imp {X : Cx} {es : List Expr} {t t' : TA} (h : PA X es t) (i : ∀ σ H Q, t' σ H Q → t σ H Q) : PA X es t' := ⟨fun pos pins s σ H Q I q => h.run pos pins s σ H Q I (i _ _ _ q)⟩
theorem _root_.L2.PS.imp {X : Cx} {e : Stmt} {t t' : TS} (h : PS X e t) (i : ∀ D σ H, t' D σ H → t D σ H) : PS X e t' := ⟨fun pins s σ H D I q => h.run pins s σ H D I (i _ _ _ q)⟩
theorem _root_.L2.PSs.imp {X : Cx} {e : List Stmt} {t t' : TS} (h : PSs X e t) (i : ∀ D σ H, t' D σ H → t D σ H) : PSs X e t' := ⟨fun pins s σ H D I q => h.run pins s σ H D I (i _ _ _ q)⟩
/-- what an option is worth -/
def giv (o : Option D) (μ : Mu) (R : DK) : Prop := match o with
  | some d => R d μ
  | none => False
section
variable {X : Cx} {e a b c : Expr} {es rest : List Expr} {ta tb tc : TE3} {pos : Pos}
/-! ### names, constants -/
def vVar (i : Nat) : TE3 := fun δ μ R => match δ[i]? with
  | some (some d) => R d μ
  | _ => False
theorem lowVar {K : PySem.W.Frag} {i : Nat} {σ : St} {H : Hp} {Q : VK} (h : low K (vVar i) σ H Q) : tVar i σ H Q := by
  obtain ⟨F, δ, μ, R, s, sl, h, k⟩ := h
  unfold vVar at h
  split at h
  · rename_i d e
    obtain ⟨v, e1, r⟩ := sl.at_ i d e
    exact ⟨v, e1, k F v H d μ (Step.refl s) r h⟩
  · exact h.elim
theorem e_var {x : Str} (i : Nat) (hN : X.N[i]? = some x := by rfl) (hv : Vis X.env.scope x := by first | exact Or.inl rfl | exact Or.inr (Or.inl rfl) | exact Or.inr (Or.inr rfl)) (hd : (x == ("__debug__" : Str)) = false := by decide) (hcd : (x == ("__classdict__" : Str)) = false := by decide) :
    E3 X (.Name x pos) (vVar i) := (pe_var hN hv hd hcd).imp fun _ _ _ h => lowVar h
def vC (d : D) : TE3 := fun _ μ R => R d μ
theorem lowC {K : PySem.W.Frag} {d : D} {v : V} {σ : St} {H : Hp} {Q : VK} (r : ∀ F H, Rp K F H d v) (h : low K (vC d) σ H Q) : tC v σ H Q := by
  obtain ⟨F, δ, μ, R, s, sl, h, k⟩ := h
  exact k F v H d μ (Step.refl s) (r F H) h
theorem e_int {i j} : E3 X (.Constant (.int i) j pos) (vC (.int i)) := pe_int.imp fun _ _ _ h => lowC (fun _ _ => .int i) h
theorem e_bl {b j} : E3 X (.Constant (.bool b) j pos) (vC (.bl b)) := pe_bl.imp fun _ _ _ h => lowC (fun _ _ => .bl b) h
theorem e_non {j} : E3 X (.Constant .none j pos) (vC .non) := pe_non.imp fun _ _ _ h => lowC (fun _ _ => .non) h
theorem e_str {x j} : E3 X (.Constant (.str x) j pos) (vC (.str x)) := pe_str.imp fun _ _ _ h => lowC (fun _ _ => .str x) h
/-- a module's constant -/
theorem e_gint {x : Str} {i : Int} {t : Tok} (hm : X.mg x = some (.int i t)) (hg : Gl X x := by rfl) (hd : (x == ("__debug__" : Str)) = false := by decide) : E3 X (.Name x pos) (vC (.int i)) :=
  (pe_glob (v := .int i) hg hm ⟨t, rfl⟩ hd).imp fun _ _ _ h => lowC (v := .int i) (fun _ _ => .int i) h
theorem e_gstr {x z : Str} {t : Tok} (hm : X.mg x = some (.str z t)) (hg : Gl X x := by rfl) (hd : (x == ("__debug__" : Str)) = false := by decide) : E3 X (.Name x pos) (vC (.str z)) :=
  (pe_glob (v := .str z) hg hm ⟨t, rfl⟩ hd).imp fun _ _ _ h => lowC (v := .str z) (fun _ _ => .str z) h
/-- a class of the program as a value -/
theorem e_gref {x : Str} {C : Addr} (hm : X.mg x = some (.ref C)) (hg : Gl X x := by rfl) (hd : (x == ("__debug__" : Str)) = false := by decide) : E3 X (.Name x pos) (vC (.ref C)) :=
  (pe_glob (v := .ref C) hg hm rfl hd).imp fun _ _ _ h => lowC (v := .ref C) (fun _ _ => .ref C) h
/-- a built-in class as a value -/
theorem e_bty {x : Str} {n : String} (hm : X.mg x = none) (hv : bootBuiltins x = some (.type n)) (hg : Gl X x := by rfl) (hn : x ≠ "__name__" := by decide) (hd : (x == ("__debug__" : Str)) = false := by decide) : E3 X (.Name x pos) (vC (.ty n)) :=
  (pe_bltn (v := .ty n) hg hm hv rfl hn hd).imp fun _ _ _ h => lowC (v := .ty n) (fun _ _ => .ty n) h
/-! ### argument lists -/
def vNil : TA3 := fun _ μ R => R [] μ
def vCons (ta : TE3) (tr : TA3) : TA3 := fun δ μ R => ta δ μ fun d μ1 => tr δ μ1 fun ds μ2 => R (d :: ds) μ2
theorem a_nil : A3 X [] vNil := pa_nil.imp fun _ H Q h => by
  obtain ⟨F, δ, μ, R, s, sl, h, k⟩ := h
  exact k F [] H [] μ (Step.refl s) .nil h
theorem low_cons {K : PySem.W.Frag} {tr : TA3} {σ : St} {H : Hp} {Q : List V → Hp → Prop} (h : lowA K (vCons ta tr) σ H Q) : tCons (low K ta) (lowA K tr) σ H Q := by
  obtain ⟨F, δ, μ, R, s, sl, h, k⟩ := h
  exact ⟨F, δ, μ, _, s, sl, h, fun F' v H' d μ' g r q => ⟨F', δ, μ', _, g.sim, sl.st g, q, fun F'' vs H'' ds μ'' g' rs q' => k F'' (v :: vs) H'' (d :: ds) μ'' (g.trans g') (.cons (r.st g') rs) q'⟩⟩
theorem a_cons {tr : TA3} (ha : E3 X e ta) (hr : A3 X es tr) (hs : starEach (e :: es) X.env = (false, eval e X.env) :: starEach es X.env := by rfl) : A3 X (e :: es) (vCons ta tr) :=
  (pa_cons ha hr hs).imp fun _ _ _ h => low_cons h
/-! ### operators by values -/
abbrev G2 := D → D → Mu → DK → Prop
/-- an operator's rule, lifted -/
def OpL (X : Cx) (f : Value → Value → Sem Value) (G : G2) : Prop := ∃ r : R2, OpR X f r ∧ ∀ F H μ x y vx vy R Q, Sim X.K F H μ → Rp X.K F H x vx → Rp X.K F H y vy → G x y μ R →
  (∀ F' v H' z μ', Step X.K F H μ F' H' μ' → Rp X.K F' H' z v → R z μ' → Q v H') → r vx vy H Q
def vOp (G : G2) (ta tb : TE3) : TE3 := fun δ μ R => ta δ μ fun x μ1 => tb δ μ1 fun y μ2 => G x y μ2 R
theorem low_op {K : PySem.W.Frag} {r : R2} {G : G2} {σ : St} {H : Hp} {Q : VK} (hr : ∀ F H μ x y vx vy R Q, Sim K F H μ → Rp K F H x vx → Rp K F H y vy → G x y μ R →
    (∀ F' v H' z μ', Step K F H μ F' H' μ' → Rp K F' H' z v → R z μ' → Q v H') → r vx vy H Q) (h : low K (vOp G ta tb) σ H Q) : tOp r (low K ta) (low K tb) σ H Q := by
  obtain ⟨F, δ, μ, R, s, sl, h, k⟩ := h
  exact ⟨F, δ, μ, _, s, sl, h, fun F1 v H1 d μ1 g r1 q1 => ⟨F1, δ, μ1, _, g.sim, sl.st g, q1, fun F2 u H2 d2 μ2 g2 r2 q2 =>
    hr F2 H2 μ2 d d2 v u R Q g2.sim (r1.st g2) r2 q2 fun F3 w H3 z μ3 g3 r3 q3 => k F3 w H3 z μ3 ((g.trans g2).trans g3) r3 q3⟩⟩
theorem e_op {op : Operator} {G : G2} (ho : OpL X (binaryOp op) G) (ha : E3 X a ta) (hb : E3 X b tb) : E3 X (.BinOp a op b pos) (vOp G ta tb) := by
  obtain ⟨r, hr, hl⟩ := ho
  exact (pe_op hr ha hb).imp fun _ _ _ h => low_op hl h
theorem e_cmp {op : CmpOp} {G : G2} (ho : OpL X (compareOp op) G) (ha : E3 X a ta) (hb : E3 X b tb) (hm : behindInMarks op b = false := by first | exact nomark _ | rfl) : E3 X (.Compare a [op] [b] pos) (vOp G ta tb) := by
  obtain ⟨r, hr, hl⟩ := ho
  exact (pe_cmpR hr ha hb hm).imp fun _ _ _ h => low_op hl h
/-- a test that is a bool -/
def vB (t : TE3) : TT3 := fun δ μ R => t δ μ fun d μ1 => match d with
  | .bl b => R b μ1
  | _ => False
theorem low_B {K : PySem.W.Frag} {σ : St} {H : Hp} {Q : Bool → Hp → Prop} (h : lowT K (vB ta) σ H Q) : low K ta σ H fun x H1 => ∃ c, x = .bl c ∧ Q c H1 := by
  obtain ⟨F, δ, μ, R, s, sl, h, k⟩ := h
  refine ⟨F, δ, μ, _, s, sl, h, fun F1 v H1 d μ1 g r1 q1 => ?_⟩
  cases d with
  | bl b => cases r1; exact ⟨b, rfl, k F1 b H1 μ1 g q1⟩
  | _ => exact (show False from q1).elim
theorem t_val (h : E3 X e ta) (he : ∀ whole, isTrue e X.env whole = (do let v ← whole; standAt e.pos; holding [v] (truthy v)) := by intro _; rfl) : T3 X e (vB ta) := (pt_val h he).imp fun _ _ _ h => low_B h
theorem t_cmp {op : CmpOp} {G : G2} (ho : OpL X (compareOp op) G) (ha : E3 X a ta) (hb : E3 X b tb) (hm : behindInMarks op b = false := by first | exact nomark _ | rfl) : T3 X (.Compare a [op] [b] pos) (vB (vOp G ta tb)) := by
  obtain ⟨r, hr, hl⟩ := ho
  refine (pt_cmpR hr ha hb hm).imp fun σ H Q h => ?_
  obtain ⟨F, δ, μ, R, s, sl, h, k⟩ := h
  refine low_op (Q := fun x H' => ∃ k, x = .bl k ∧ Q k H') hl ⟨F, δ, μ, _, s, sl, h, fun F1 v H1 d μ1 g r1 q1 => ?_⟩
  cases d with
  | bl b => cases r1; exact ⟨b, rfl, k F1 b H1 μ1 g q1⟩
  | _ => exact (show False from q1).elim
/-- a < b < c -/
def vChain (G G' : G2) (ta tb tc : TE3) : TE3 := fun δ μ R => ta δ μ fun x μ1 => tb δ μ1 fun y μ2 => G x y μ2 fun z μ3 => match z with
  | .bl k => if k = true then tc δ μ3 fun w μ4 => G' y w μ4 R else R (.bl false) μ3
  | _ => False
theorem e_chain {op op' : CmpOp} {G G' : G2} (ho : OpL X (compareOp op) G) (ho' : OpL X (compareOp op') G') (ha : E3 X a ta) (hb : E3 X b tb) (hc : E3 X c tc) (hm : lastMarks [op, op'] [b, c] = false := by rfl) : E3 X (.Compare a [op, op'] [b, c] pos) (vChain G G' ta tb tc) := by
  obtain ⟨r, hr, hl⟩ := ho
  obtain ⟨r', hr', hl'⟩ := ho'
  refine (pe_chain hr hr' ha hb hc hm).imp fun σ H Q h => ?_
  obtain ⟨F, δ, μ, R, s, sl, h, k⟩ := h
  refine ⟨F, δ, μ, _, s, sl, h, fun F1 v H1 d μ1 g r1 q1 => ⟨F1, δ, μ1, _, g.sim, sl.st g, q1, fun F2 u H2 d2 μ2 g2 r2 q2 => ?_⟩⟩
  refine hl F2 H2 μ2 d d2 v u _ _ g2.sim (r1.st g2) r2 q2 fun F3 w H3 z μ3 g3 r3 q3 => ?_
  cases z with
  | bl b =>
    cases r3
    refine ⟨b, rfl, ?_⟩
    cases b with
    | true => exact ⟨F3, δ, μ3, _, g3.sim, sl.st ((g.trans g2).trans g3), q3, fun F4 y H4 z μ4 g4 r4 q4 => hl' F4 H4 μ4 d2 z u y R Q g4.sim (r2.st (g3.trans g4)) r4 q4 fun F5 w H5 z μ5 g5 r5 q5 => k F5 w H5 z μ5 ((((g.trans g2).trans g3).trans g4).trans g5) r5 q5⟩
    | false => exact k F3 (.bl false) H3 (.bl false) μ3 ((g.trans g2).trans g3) (.bl false) q3
  | _ => exact (show False from q3).elim
theorem t_chain {op op' : CmpOp} {G G' : G2} (ho : OpL X (compareOp op) G) (ho' : OpL X (compareOp op') G') (ha : E3 X a ta) (hb : E3 X b tb) (hc : E3 X c tc) (hm : lastMarks [op, op'] [b, c] = false := by rfl) : T3 X (.Compare a [op, op'] [b, c] pos) (vB (vChain G G' ta tb tc)) := by
  obtain ⟨r, hr, hl⟩ := ho
  obtain ⟨r', hr', hl'⟩ := ho'
  refine (pt_chain hr hr' ha hb hc hm).imp fun σ H Q h => ?_
  obtain ⟨F, δ, μ, R, s, sl, h, k⟩ := h
  refine ⟨F, δ, μ, _, s, sl, h, fun F1 v H1 d μ1 g r1 q1 => ⟨F1, δ, μ1, _, g.sim, sl.st g, q1, fun F2 u H2 d2 μ2 g2 r2 q2 => ?_⟩⟩
  refine hl F2 H2 μ2 d d2 v u _ _ g2.sim (r1.st g2) r2 q2 fun F3 w H3 z μ3 g3 r3 q3 => ?_
  cases z with
  | bl b =>
    cases r3
    refine ⟨b, rfl, ?_⟩
    cases b with
    | true =>
      refine ⟨F3, δ, μ3, _, g3.sim, sl.st ((g.trans g2).trans g3), q3, fun F4 y H4 z μ4 g4 r4 q4 => hl' F4 H4 μ4 d2 z u y _ _ g4.sim (r2.st (g3.trans g4)) r4 q4 fun F5 w H5 z μ5 g5 r5 q5 => ?_⟩
      cases z with
      | bl b => cases r5; exact ⟨b, rfl, k F5 b H5 μ5 ((((g.trans g2).trans g3).trans g4).trans g5) q5⟩
      | _ => exact (show False from q5).elim
    | false => exact ⟨false, rfl, k F3 false H3 μ3 ((g.trans g2).trans g3) q3⟩
  | _ => exact (show False from q3).elim
/-! ### and, or, not, if else -/
variable {tA tB' : TT3}
def vAnd (t u : TT3) : TT3 := fun δ μ R => t δ μ fun c μ1 => if c = true then u δ μ1 R else R false μ1
def vOr (t u : TT3) : TT3 := fun δ μ R => t δ μ fun c μ1 => if c = true then R true μ1 else u δ μ1 R
def vNot (t : TT3) : TT3 := fun δ μ R => t δ μ fun c μ1 => R (!c) μ1
theorem w_and1 (ha : T3 X a tA) : W3 X (.BoolOp .And [a] pos) tA := pw_and1 ha
theorem w_or1 (ha : T3 X a tA) : W3 X (.BoolOp .Or [a] pos) tA := pw_or1 ha
theorem w_and (ha : T3 X a tA) (hb : W3 X (.BoolOp .And (b :: rest) pos) tB') : W3 X (.BoolOp .And (a :: b :: rest) pos) (vAnd tA tB') := (pw_and ha hb).imp fun σ H Q h => by
  obtain ⟨F, δ, μ, R, s, sl, h, k⟩ := h
  refine ⟨F, δ, μ, _, s, sl, h, fun F1 c H1 μ1 g q1 => ?_⟩
  cases c with
  | true => exact ⟨F1, δ, μ1, _, g.sim, sl.st g, q1, fun F2 c H2 μ2 g2 q2 => k F2 c H2 μ2 (g.trans g2) q2⟩
  | false => exact k F1 false H1 μ1 g q1
theorem w_or (ha : T3 X a tA) (hb : W3 X (.BoolOp .Or (b :: rest) pos) tB') : W3 X (.BoolOp .Or (a :: b :: rest) pos) (vOr tA tB') := (pw_or ha hb).imp fun σ H Q h => by
  obtain ⟨F, δ, μ, R, s, sl, h, k⟩ := h
  refine ⟨F, δ, μ, _, s, sl, h, fun F1 c H1 μ1 g q1 => ?_⟩
  cases c with
  | true => exact k F1 true H1 μ1 g q1
  | false => exact ⟨F1, δ, μ1, _, g.sim, sl.st g, q1, fun F2 c H2 μ2 g2 q2 => k F2 c H2 μ2 (g.trans g2) q2⟩
theorem t_w (h : W3 X e tA) : T3 X e tA := PW.pt h
theorem t_not (ha : T3 X a tA) : T3 X (.UnaryOp .Not a pos) (vNot tA) := (pt_not ha).imp fun σ H Q h => by
  obtain ⟨F, δ, μ, R, s, sl, h, k⟩ := h
  exact ⟨F, δ, μ, _, s, sl, h, fun F1 c H1 μ1 g q1 => k F1 (!c) H1 μ1 g q1⟩
def vAndV (ta tb : TE3) : TE3 := fun δ μ R => ta δ μ fun x μ1 => match x with
  | .bl c => if c = true then tb δ μ1 R else R (.bl false) μ1
  | _ => False
def vOrV (ta tb : TE3) : TE3 := fun δ μ R => ta δ μ fun x μ1 => match x with
  | .bl c => if c = true then R (.bl true) μ1 else tb δ μ1 R
  | _ => False
def vNotV (ta : TE3) : TE3 := fun δ μ R => ta δ μ fun x μ1 => match x with
  | .bl c => R (.bl (!c)) μ1
  | _ => False
theorem e_one {op} (h : E3 X a ta) : E3 X (.BoolOp op [a] pos) ta := pe_one h
theorem e_and (ha : E3 X a ta) (hb : E3 X (.BoolOp .And (b :: rest) pos) tb) : E3 X (.BoolOp .And (a :: b :: rest) pos) (vAndV ta tb) := (pe_and ha hb).imp fun σ H Q h => by
  obtain ⟨F, δ, μ, R, s, sl, h, k⟩ := h
  refine ⟨F, δ, μ, _, s, sl, h, fun F1 v H1 d μ1 g r1 q1 => ?_⟩
  cases d with
  | bl c =>
    cases r1
    refine ⟨c, rfl, ?_⟩
    cases c with
    | true => exact ⟨F1, δ, μ1, _, g.sim, sl.st g, q1, fun F2 v H2 d μ2 g2 r2 q2 => k F2 v H2 d μ2 (g.trans g2) r2 q2⟩
    | false => exact k F1 (.bl false) H1 (.bl false) μ1 g (.bl false) q1
  | _ => exact (show False from q1).elim
theorem e_or (ha : E3 X a ta) (hb : E3 X (.BoolOp .Or (b :: rest) pos) tb) : E3 X (.BoolOp .Or (a :: b :: rest) pos) (vOrV ta tb) := (pe_or ha hb).imp fun σ H Q h => by
  obtain ⟨F, δ, μ, R, s, sl, h, k⟩ := h
  refine ⟨F, δ, μ, _, s, sl, h, fun F1 v H1 d μ1 g r1 q1 => ?_⟩
  cases d with
  | bl c =>
    cases r1
    refine ⟨c, rfl, ?_⟩
    cases c with
    | true => exact k F1 (.bl true) H1 (.bl true) μ1 g (.bl true) q1
    | false => exact ⟨F1, δ, μ1, _, g.sim, sl.st g, q1, fun F2 v H2 d μ2 g2 r2 q2 => k F2 v H2 d μ2 (g.trans g2) r2 q2⟩
  | _ => exact (show False from q1).elim
theorem e_not (ha : E3 X a ta) : E3 X (.UnaryOp .Not a pos) (vNotV ta) := (pe_not ha).imp fun σ H Q h => by
  obtain ⟨F, δ, μ, R, s, sl, h, k⟩ := h
  refine ⟨F, δ, μ, _, s, sl, h, fun F1 v H1 d μ1 g r1 q1 => ?_⟩
  cases d with
  | bl c => cases r1; exact ⟨c, rfl, k F1 (.bl (!c)) H1 (.bl (!c)) μ1 g (.bl (!c)) q1⟩
  | _ => exact (show False from q1).elim
def vIf (t : TT3) (ta tb : TE3) : TE3 := fun δ μ R => t δ μ fun c μ1 => if c = true then ta δ μ1 R else tb δ μ1 R
theorem e_if (hc : T3 X c tA) (ha : E3 X a ta) (hb : E3 X b tb) : E3 X (.IfExp c a b pos) (vIf tA ta tb) := (pe_ifExp hc ha hb).imp fun σ H Q h => by
  obtain ⟨F, δ, μ, R, s, sl, h, k⟩ := h
  refine ⟨F, δ, μ, _, s, sl, h, fun F1 c H1 μ1 g q1 => ?_⟩
  cases c with
  | true => exact ⟨F1, δ, μ1, _, g.sim, sl.st g, q1, fun F2 v H2 d μ2 g2 r2 q2 => k F2 v H2 d μ2 (g.trans g2) r2 q2⟩
  | false => exact ⟨F1, δ, μ1, _, g.sim, sl.st g, q1, fun F2 v H2 d μ2 g2 r2 q2 => k F2 v H2 d μ2 (g.trans g2) r2 q2⟩
/-! ### unary, calls of built-ins -/
def UnL (X : Cx) (f : Value → Sem Value) (G : D → Mu → DK → Prop) : Prop := ∃ r, UnR X f r ∧ ∀ F H μ x vx R Q, Sim X.K F H μ → Rp X.K F H x vx → G x μ R →
  (∀ F' v H' z μ', Step X.K F H μ F' H' μ' → Rp X.K F' H' z v → R z μ' → Q v H') → r vx H Q
def vUn (G : D → Mu → DK → Prop) (ta : TE3) : TE3 := fun δ μ R => ta δ μ fun x μ1 => G x μ1 R
theorem e_un {op : UnaryOp} {G : D → Mu → DK → Prop} (ho : UnL X (unaryOp op) G) (ha : E3 X a ta) : E3 X (.UnaryOp op a pos) (vUn G ta) := by
  obtain ⟨r, hr, hl⟩ := ho
  refine (pe_un hr ha).imp fun σ H Q h => ?_
  obtain ⟨F, δ, μ, R, s, sl, h, k⟩ := h
  exact ⟨F, δ, μ, _, s, sl, h, fun F1 v H1 d μ1 g r1 q1 => hl F1 H1 μ1 d v R Q g.sim r1 q1 fun F2 w H2 z μ2 g2 r2 q2 => k F2 w H2 z μ2 (g.trans g2) r2 q2⟩
abbrev GA := List D → Mu → DK → Prop
def CallL (X : Cx) (f : Value) (G : GA) : Prop := ∃ r, CallR X f r ∧ ∀ F H μ ds vs R Q, Sim X.K F H μ → Rps X.K F H ds vs → G ds μ R →
  (∀ F' v H' z μ', Step X.K F H μ F' H' μ' → Rp X.K F' H' z v → R z μ' → Q v H') → r vs H Q
def vCB (G : GA) (ta : TA3) : TE3 := fun δ μ R => ta δ μ fun ds μ1 => G ds μ1 R
variable {tr : TA3} {x : Str} {p : Pos} {id T : String}
theorem low_cb {K : PySem.W.Frag} {r : List V → Hp → VK → Prop} {G : GA} {σ : St} {H : Hp} {Q : VK} (hl : ∀ F H μ ds vs R Q, Sim K F H μ → Rps K F H ds vs → G ds μ R →
    (∀ F' v H' z μ', Step K F H μ F' H' μ' → Rp K F' H' z v → R z μ' → Q v H') → r vs H Q) (h : low K (vCB G tr) σ H Q) : tCB r (lowA K tr) σ H Q := by
  obtain ⟨F, δ, μ, R, s, sl, h, k⟩ := h
  exact ⟨F, δ, μ, _, s, sl, h, fun F1 v H1 d μ1 g r1 q1 => hl F1 H1 μ1 d v R Q g.sim r1 q1 fun F2 w H2 z μ2 g2 r2 q2 => k F2 w H2 z μ2 (g.trans g2) r2 q2⟩
theorem e_callB {G : GA} (hc : CallL X (.builtin id) G) (hm : X.mg x = none) (hv : bootBuiltins x = some (.builtin id)) (ha : A3 X (e :: es) tr) (hg : Gl X x := by rfl) (hn : x ≠ "__name__" := by decide) (hdb : (x == ("__debug__" : Str)) = false := by decide)
    (he : starEach (e :: es) X.env = (false, eval e X.env) :: starEach es X.env := by rfl) (hpl : (backTo pos (starEach es X.env)).any (·.1) = false := by rfl) : E3 X (.Call (.Name x p) (e :: es) [] pos) (vCB G tr) := by
  obtain ⟨r, hr, hl⟩ := hc
  exact (pe_callB hr hg hm hv ha hn hdb he hpl).imp fun σ H Q h => low_cb hl h
theorem e_callTy {G : GA} (hc : CallL X (.type T) G) (hm : X.mg x = none) (hv : bootBuiltins x = some (.type T)) (ha : A3 X (e :: es) tr) (hg : Gl X x := by rfl) (hn : x ≠ "__name__" := by decide) (hdb : (x == ("__debug__" : Str)) = false := by decide)
    (he : starEach (e :: es) X.env = (false, eval e X.env) :: starEach es X.env := by rfl) (hpl : (backTo pos (starEach es X.env)).any (·.1) = false := by rfl) : E3 X (.Call (.Name x p) (e :: es) [] pos) (vCB G tr) := by
  obtain ⟨r, hr, hl⟩ := hc
  exact (pe_callTy hr hg hm hv ha hn hdb he hpl).imp fun σ H Q h => low_cb hl h
/-! ### displays -/
/-- a frozen list, a frozen tuple, a tracked list -/
def vLst (ta : TA3) : TE3 := fun δ μ R => ta δ μ fun ds μ1 => ds.length ≤ sizeLine ∧ R (.lst ds) μ1
def vTup (ta : TA3) : TE3 := fun δ μ R => ta δ μ fun ds μ1 => ds.length ≤ sizeLine ∧ R (.tup ds) μ1
def vLstT (ta : TA3) : TE3 := fun δ μ R => ta δ μ fun ds μ1 => ds.length ≤ sizeLine ∧ ∀ q, μ1 q = none → R (.ref q) (mset μ1 q (.lst ds))
theorem e_lst (h : A3 X es tr) : E3 X (.List es pos) (vLst tr) := (pe_lst h).imp fun σ H Q h => by
  obtain ⟨F, δ, μ, R, s, sl, h, k⟩ := h
  refine ⟨F, δ, μ, _, s, sl, h, fun F1 vs H1 ds μ1 g r1 ⟨z, q1⟩ => ⟨by rw [← r1.length]; exact z, fun p hp => ?_⟩⟩
  have g2 := g.sim.frzS (o := .lst vs) hp
  exact k _ (.ref p) _ (.lst ds) μ1 (g.trans g2) (.lst (.inr rfl) upd_same (r1.st g2)) q1
theorem e_tup {x1} (h : A3 X es tr) : E3 X (.Tuple es x1 pos) (vTup tr) := (pe_tup h).imp fun σ H Q h => by
  obtain ⟨F, δ, μ, R, s, sl, h, k⟩ := h
  refine ⟨F, δ, μ, _, s, sl, h, fun F1 vs H1 ds μ1 g r1 ⟨z, q1⟩ => ⟨by rw [← r1.length]; exact z, fun p hp => ?_⟩⟩
  have g2 := g.sim.frzS (o := .tup vs) hp
  exact k _ (.ref p) _ (.tup ds) μ1 (g.trans g2) (.tup (.inr rfl) upd_same (r1.st g2)) q1
theorem e_lstT (h : A3 X es tr) : E3 X (.List es pos) (vLstT tr) := (pe_lst h).imp fun σ H Q h => by
  obtain ⟨F, δ, μ, R, s, sl, h, k⟩ := h
  refine ⟨F, δ, μ, _, s, sl, h, fun F1 vs H1 ds μ1 g r1 ⟨z, q1⟩ => ⟨by rw [← r1.length]; exact z, fun p hp => ?_⟩⟩
  have g2 := g.sim.trkS (o := .lst vs) (m := .lst ds) hp fun g' e => ⟨vs, e, r1.grow g'⟩
  exact k _ (.ref p) _ (.ref p) _ (g.trans g2) (.ref p) (q1 p (g.sim.free hp))
end
end L3

namespace L3
open PySem PySem.Spec L2
/-! ### what was tracked is forgotten, and frozen -/
mutual
inductive Fr (μ μ' : Mu) : D → D → Prop
  | same (d : D) : Fr μ μ' d d
  | lst {a : Addr} {xs ys : List D} : μ a = some (.lst xs) → μ' a = none → Frs μ μ' xs ys → Fr μ μ' (.ref a) (.lst ys)
  | dct {a : Addr} {xs ys : List (Key × D)} : μ a = some (.dct xs) → μ' a = none → Frk μ μ' xs ys → Fr μ μ' (.ref a) (.dct ys)
  | obj {a C : Addr} {xs ys : List (Str × D)} : μ a = some (.ins C xs) → μ' a = none → Frf μ μ' xs ys → Fr μ μ' (.ref a) (.obj C ys)
  | inL {xs ys : List D} : Frs μ μ' xs ys → Fr μ μ' (.lst xs) (.lst ys)
  | inT {xs ys : List D} : Frs μ μ' xs ys → Fr μ μ' (.tup xs) (.tup ys)
  | inD {xs ys : List (Key × D)} : Frk μ μ' xs ys → Fr μ μ' (.dct xs) (.dct ys)
  | inO {C : Addr} {xs ys : List (Str × D)} : Frf μ μ' xs ys → Fr μ μ' (.obj C xs) (.obj C ys)
inductive Frs (μ μ' : Mu) : List D → List D → Prop
  | nil : Frs μ μ' [] []
  | cons {d e : D} {ds es : List D} : Fr μ μ' d e → Frs μ μ' ds es → Frs μ μ' (d :: ds) (e :: es)
inductive Frk (μ μ' : Mu) : List (Key × D) → List (Key × D) → Prop
  | nil : Frk μ μ' [] []
  | cons {k : Key} {d e : D} {ds es : List (Key × D)} : Fr μ μ' d e → Frk μ μ' ds es → Frk μ μ' ((k, d) :: ds) ((k, e) :: es)
inductive Frf (μ μ' : Mu) : List (Str × D) → List (Str × D) → Prop
  | nil : Frf μ μ' [] []
  | cons {k : Str} {d e : D} {ds es : List (Str × D)} : Fr μ μ' d e → Frf μ μ' ds es → Frf μ μ' ((k, d) :: ds) ((k, e) :: es)
end
theorem Frs.same {μ μ' : Mu} : ∀ xs : List D, Frs μ μ' xs xs
  | [] => .nil
  | x :: r => .cons (.same x) (Frs.same r)
theorem Frk.same {μ μ' : Mu} : ∀ xs : List (Key × D), Frk μ μ' xs xs
  | [] => .nil
  | (k, x) :: r => .cons (.same x) (Frk.same r)
theorem Frf.same {μ μ' : Mu} : ∀ xs : List (Str × D), Frf μ μ' xs xs
  | [] => .nil
  | (k, x) :: r => .cons (.same x) (Frf.same r)
def Le (μ' μ : Mu) : Prop := ∀ a o, μ' a = some o → μ a = some o
theorem Le.refl (μ : Mu) : Le μ μ := fun _ _ h => h
theorem Le.trans {a b c : Mu} (h : Le a b) (k : Le b c) : Le a c := fun x o e => k x o (h x o e)
theorem Le.mset {μ' μ : Mu} {a : Addr} {o : MO} (h : Le μ' μ) (hn : μ' a = none) : Le μ' (mset μ a o) := fun b u e => by
  by_cases hb : b = a
  · subst hb; rw [hn] at e; cases e
  · rw [mset_ne hb]; exact h b u e
section
variable {K : PySem.W.Frag} {F : Addr → Prop} {H : Hp} {μ μ' : Mu}
def gone (F : Addr → Prop) (μ μ' : Mu) : Addr → Prop := fun a => F a ∨ ((∃ o, μ a = some o) ∧ μ' a = none)
theorem gone_grow : Grow F H (gone F μ μ') H := ⟨fun _ h => .inl h, fun _ _ _ h => h, fun _ _ _ _ h => h⟩
theorem Sim.dropped (s : Sim K F H μ) (l : Le μ' μ) : Sim K (gone F μ μ') H μ' := by
  have mo : ∀ {a o}, MoOk K F H a o → MoOk K (gone F μ μ') H a o := fun {a o} m => by
    cases o with
    | lst xs => obtain ⟨vs, e, r⟩ := m; exact ⟨vs, e, r.grow gone_grow⟩
    | dct kvs => obtain ⟨vs, e, r⟩ := m; exact ⟨vs, e, r.grow gone_grow⟩
    | ins C fs => obtain ⟨dx, vs, e, r⟩ := m; exact ⟨dx, vs, e, r.grow gone_grow⟩
  refine ⟨fun a f => ?_, fun a o e => ?_⟩
  · rcases f with f | ⟨⟨o, e⟩, _⟩
    · exact s.dom a f
    · have m := (s.obj a o e).2
      cases o with
      | lst xs => obtain ⟨vs, e, r⟩ := m; exact ⟨_, e⟩
      | dct kvs => obtain ⟨vs, e, r⟩ := m; exact ⟨_, e⟩
      | ins C fs => obtain ⟨dx, vs, e, r⟩ := m; exact ⟨_, e⟩
  · obtain ⟨nf, m⟩ := s.obj a o (l a o e)
    refine ⟨fun f => ?_, mo m⟩
    rcases f with f | ⟨_, n⟩
    · exact nf f
    · rw [e] at n; cases n
theorem Sim.dropS (s : Sim K F H μ) (l : Le μ' μ) : Step K F H μ (gone F μ μ') H μ' := by
  have ee : ∀ a, μ a = none → μ' a = none := fun a n => by
    cases e : μ' a with
    | none => rfl
    | some o => rw [l a o e] at n; cases n
  refine ⟨gone_grow, fun a u h n => ⟨ee a n, h, fun z => ?_⟩, s.dropped l⟩
  rcases z with z | ⟨⟨o, z⟩, _⟩
  · exact z
  · rw [n] at z; cases z
mutual
theorem Rp.gone (s : Sim K F H μ) {d d' : D} : ∀ {v : V}, Fr μ μ' d d' → Rp K F H d v → Rp K (gone F μ μ') H d' v
  | _, .same _, r => r.grow gone_grow
  | _, .lst h n q, r => by
    cases r
    obtain ⟨vs, e, rs⟩ := (s.obj _ _ h).2
    exact .lst (.inr ⟨⟨_, h⟩, n⟩) e (Rps.gone s q rs)
  | _, .dct h n q, r => by
    cases r
    obtain ⟨vs, e, rs⟩ := (s.obj _ _ h).2
    exact .dct (.inr ⟨⟨_, h⟩, n⟩) (.inl e) (Rpk.gone s q rs)
  | _, .obj h n q, r => by
    cases r
    obtain ⟨dx, vs, e, rs⟩ := (s.obj _ _ h).2
    exact .obj (.inr ⟨⟨_, h⟩, n⟩) e (Rpf.gone s q rs)
  | _, .inL q, r => by
    cases r with
    | lst f e rs => exact .lst (.inl f) e (Rps.gone s q rs)
  | _, .inT q, r => by
    cases r with
    | tup f e rs => exact .tup (.inl f) e (Rps.gone s q rs)
  | _, .inD q, r => by
    cases r with
    | dct f e rs => exact .dct (.inl f) e (Rpk.gone s q rs)
  | _, .inO q, r => by
    cases r with
    | obj f e rs => exact .obj (.inl f) e (Rpf.gone s q rs)
theorem Rps.gone (s : Sim K F H μ) {ds es : List D} : ∀ {vs : List V}, Frs μ μ' ds es → Rps K F H ds vs → Rps K (gone F μ μ') H es vs
  | _, .nil, r => by cases r; exact .nil
  | _, .cons q t, r => by
    cases r with
    | cons h rs => exact .cons (Rp.gone s q h) (Rps.gone s t rs)
theorem Rpk.gone (s : Sim K F H μ) {ds es : List (Key × D)} : ∀ {vs : List (Key × V)}, Frk μ μ' ds es → Rpk K F H ds vs → Rpk K (gone F μ μ') H es vs
  | _, .nil, r => by cases r; exact .nil
  | _, .cons q t, r => by
    cases r with
    | cons h rs => exact .cons (Rp.gone s q h) (Rpk.gone s t rs)
theorem Rpf.gone (s : Sim K F H μ) {ds es : List (Str × D)} : ∀ {vs : List (Str × V)}, Frf μ μ' ds es → Rpf K F H ds vs → Rpf K (gone F μ μ') H es vs
  | _, .nil, r => by cases r; exact .nil
  | _, .cons q t, r => by
    cases r with
    | cons h rs => exact .cons (Rp.gone s q h) (Rpf.gone s t rs)
end
end
/-- the end of a def: what was made here is forgotten, the answer frozen -/
def fin (R : DK) (d : D) (μ : Mu) : Prop := ∃ d' μ', Le μ' μ ∧ Fr μ μ' d d' ∧ R d' μ'
theorem fin_same {R : DK} {d : D} {μ μ' : Mu} (l : Le μ' μ) (h : R d μ') : fin R d μ := ⟨d, μ', l, .same d, h⟩
theorem fin_now {R : DK} {d : D} {μ : Mu} (h : R d μ) : fin R d μ := fin_same (Le.refl μ) h
theorem fin_lst {R : DK} {a : Addr} {xs : List D} {μ μ' : Mu} (l : Le μ' μ) (e : μ a = some (.lst xs)) (n : μ' a = none) (h : R (.lst xs) μ') : fin R (.ref a) μ := ⟨_, μ', l, .lst e n (Frs.same xs), h⟩
theorem fin_dct {R : DK} {a : Addr} {xs : List (Key × D)} {μ μ' : Mu} (l : Le μ' μ) (e : μ a = some (.dct xs)) (n : μ' a = none) (h : R (.dct xs) μ') : fin R (.ref a) μ := ⟨_, μ', l, .dct e n (Frk.same xs), h⟩
/-! ### what a def promises -/
abbrev Sp3 := List D → Mu → DK → Prop
def lift (K : PySem.W.Frag) (n : Nat) (sp : Sp3) : Sp := fun vs H Q _ => ∃ (F : Addr → Prop) (ds : List D) (μ : Mu) (R : DK), ds.length = n ∧ Sim K F H μ ∧ Rps K F H ds vs ∧ sp ds μ R ∧
  ∀ F' v H' d μ', Step K F H μ F' H' μ' → Rp K F' H' d v → R d μ' → Q v H'
def start3 (N : List Str) (ds : List D) : St3 := ds.map some ++ List.replicate (N.length - ds.length) none
theorem Sl.start {K : PySem.W.Frag} {F : Addr → Prop} {H : Hp} {N : List Str} {ds : List D} {vs : List V} (r : Rps K F H ds vs) : Sl K F H (L2.start N vs) (start3 N ds) := by
  have hl := r.length
  refine ⟨by simp [L2.start, start3, hl], fun i d e => ?_⟩
  unfold start3 at e
  by_cases h : i < ds.length
  · rw [List.getElem?_append_left (by simpa using h), List.getElem?_map] at e
    cases q : ds[i]? with
    | none => rw [q] at e; cases e
    | some x =>
      rw [q] at e
      cases e
      obtain ⟨v, e1, r1⟩ := r.get q
      refine ⟨v, ?_, r1⟩
      unfold L2.start
      rw [List.getElem?_append_left (by simp [← hl, h]), List.getElem?_map, e1]
      rfl
  · rw [List.getElem?_append_right (by simpa using Nat.le_of_not_lt h), List.getElem?_replicate] at e
    split at e <;> cases e
def endsOf (R : DK) : Ends3 := { nx := fun _ μ => fin R .non μ, rt := fun d μ => fin R d μ }
section
variable {P : Program} {w : World} {K : PySem.W.Frag} {mg : Str → Option Value} {base : Heap}
theorem lift_len {n : Nat} {sp : Sp3} {vs : List V} {H : Hp} {Q : VK} {E : XK} (h : lift K n sp vs H Q E) : vs.length = n := by
  obtain ⟨F, ds, μ, R, l, _, r, _⟩ := h
  rw [← r.length]
  exact l
theorem fin_ends {F : Addr → Prop} {H : Hp} {μ : Mu} {R : DK} {Q : VK} (k : ∀ F' v H' d μ', Step K F H μ F' H' μ' → Rp K F' H' d v → R d μ' → Q v H') : EndsOk K F H μ (endsOf R) { nx := fun _ H' => Q .non H', rt := Q } := by
  refine ⟨fun F' σ' H' δ' μ' g _ h => ?_, fun _ _ _ _ _ _ _ h => h.elim, fun _ _ _ _ _ _ _ h => h.elim, fun F' v H' d μ' g r h => ?_⟩
  · obtain ⟨d', μ'', l, f, q⟩ := h
    exact k _ .non H' d' μ'' (g.trans (g.sim.dropS l)) (Rp.gone g.sim f .non) q
  · obtain ⟨d', μ'', l, f, q⟩ := h
    exact k _ v H' d' μ'' (g.trans (g.sim.dropS l)) (Rp.gone g.sim f r) q
theorem _root_.L2.Fun.ok3 {x qual : Str} {st : Stmt} {f : Addr} {fd : FuncData} {N ps : List Str} {k : Nat} {sp : Sp3} (F : Fun K x qual st f fd) (S : FnScope N ps (defScope st))
    (hbody : ∀ (cdv : Value) (A : Around) (outer : List Env) (s : Shared) (H : Hp) (E : XK), Room k (A.deeper (PyProof.Rows.envOfC qual (defScope st) s.heap.objs.size f cdv)) →
      ∃ t, Ss3 (cxOf CX0 P w K mg base N qual (defScope st) f cdv A outer s H E).nox (defBody st) t ∧ ∀ ds μ R, ds.length = ps.length → sp ds μ R → t (endsOf R) (start3 N ds) μ) : FnOk P w K mg base CX0 (k + 1) f fd ps (lift K ps.length sp) := by
  refine F.ok S (fun vs H Q E h => lift_len h) fun cdv A outer s H vs Q E hr h => ?_
  obtain ⟨F', ds, μ, R, l, sm, r, hsp, kk⟩ := h
  obtain ⟨t, h1, h2⟩ := hbody cdv A outer s H E hr
  exact ⟨_, h1, F', _, μ, _, sm, Sl.start r, h2 ds μ R l hsp, fin_ends kk⟩
end
/-- a def by its name -/
structure Fn3 (P : Program) (w : World) (K : PySem.W.Frag) (mg : Str → Option Value) (base : Heap) (k : Nat) (x : Str) (n : Nat) (sp : Sp3) : Prop where
  ex : ∃ (f : Addr) (fd : FuncData) (ps : List Str), mg x = some (.ref f) ∧ PySem.W.keepIn K (.ref f) = true ∧ Binds K fd ps [] ∧ FnOk P w K mg base CX0 k f fd ps (lift K n sp)
def vCall (n : Nat) (sp : Sp3) (tr : TA3) : TE3 := fun δ μ R => tr δ μ fun ds μ1 => ds.length = n ∧ sp ds μ1 R
section
variable {X : Cx} {e : Expr} {es : List Expr} {tr : TA3} {te : TE3} {x : Str} {p pos : Pos} {st : Stmt} {rest : List Stmt} {t u : TS3}
theorem e_call {k n : Nat} {sp : Sp3} {j : Nat} (c : Fn3 X.prog X.w X.K X.mg X.base k x n sp) (hr : Room j X.A) (ha : A3 X (e :: es) tr) (hk : k ≤ j := by decide) (hg : Gl X x := by rfl)
    (hd : (x == ("__debug__" : Str)) = false := by decide) (he : starEach (e :: es) X.env = (false, eval e X.env) :: starEach es X.env := by rfl) (hpl : (backTo pos (starEach es X.env)).any (·.1) = false := by rfl) :
    E3 X (.Call (.Name x p) (e :: es) [] pos) (vCall n sp tr) := by
  obtain ⟨f, fd, ps, hm, kp, hb, F⟩ := c.ex
  refine (pe_call (dvs := []) (E := E0) F (hr.mono hk) hg hm kp hb .nil pass0 ha (hdb := hd) (he := he) (hpl := hpl)).imp fun σ H Q h => ?_
  obtain ⟨F, δ, μ, R, s, sl, h, kk⟩ := h
  refine ⟨F, δ, μ, _, s, sl, h, fun F1 vs H1 ds μ1 g r1 q1 => ?_⟩
  show lift X.K n sp (vs ++ []) H1 Q E0
  rw [List.append_nil]
  exact ⟨F1, ds, μ1, R, q1.1, g.sim, r1, q1.2, fun F2 v H2 d μ2 g2 r2 q2 => kk F2 v H2 d μ2 (g.trans g2) r2 q2⟩
/-! ### statements -/
def sNext : TS3 := fun D δ μ => D.nx δ μ
def sSeq (t u : TS3) : TS3 := fun D δ μ => t { D with nx := u D } δ μ
theorem ss_nil : Ss3 X [] sNext := pss_nil.imp fun D σ H h => by
  obtain ⟨F, δ, μ, D3, s, sl, h, k⟩ := h
  exact k.nx F σ H δ μ (Step.refl s) sl h
theorem ss_cons (h1 : S3 X st t) (h2 : Ss3 X rest u) : Ss3 X (st :: rest) (sSeq t u) := (pss_cons h1 h2).imp fun D σ H h => by
  obtain ⟨F, δ, μ, D3, s, sl, h, k⟩ := h
  exact ⟨F, δ, μ, _, s, sl, h, ⟨fun F' σ' H' δ' μ' g sl' q => ⟨F', δ', μ', D3, g.sim, sl', q, k.st g⟩, k.bk, k.ct, k.rt⟩⟩
theorem ss_one (h1 : S3 X st t) : Ss3 X [st] t := pss_one h1
def sBreak : TS3 := fun D δ μ => D.bk δ μ
def sCont : TS3 := fun D δ μ => D.ct δ μ
theorem s_pass : S3 X (.Pass pos) sNext := ps_pass.imp fun D σ H h => by
  obtain ⟨F, δ, μ, D3, s, sl, h, k⟩ := h
  exact k.nx F σ H δ μ (Step.refl s) sl h
theorem s_break : S3 X (.Break pos) sBreak := ps_break.imp fun D σ H h => by
  obtain ⟨F, δ, μ, D3, s, sl, h, k⟩ := h
  exact k.bk F σ H δ μ (Step.refl s) sl h
theorem s_cont : S3 X (.Continue pos) sCont := ps_continue.imp fun D σ H h => by
  obtain ⟨F, δ, μ, D3, s, sl, h, k⟩ := h
  exact k.ct F σ H δ μ (Step.refl s) sl h
def sNever : TS3 := fun _ _ _ => False
theorem s_never : S3 X st sNever := ps_never.imp fun D σ H h => by
  obtain ⟨F, δ, μ, D3, s, sl, h, k⟩ := h
  exact h
def sDrop (te : TE3) : TS3 := fun D δ μ => te δ μ fun _ μ1 => D.nx δ μ1
theorem s_expr (he : E3 X e te) (hs : swapsWith e none pos.line X.env = pure false := by rfl) : S3 X (.Expr e pos) (sDrop te) := (ps_expr he hs).imp fun D σ H h => by
  obtain ⟨F, δ, μ, D3, s, sl, h, k⟩ := h
  exact ⟨F, δ, μ, _, s, sl, h, fun F1 v H1 d μ1 g r1 q1 => k.nx F1 σ H1 δ μ1 g (sl.st g) q1⟩
def sRet (te : TE3) : TS3 := fun D δ μ => te δ μ D.rt
theorem s_ret (he : E3 X e te) : S3 X (.Return (some e) pos) (sRet te) := (ps_ret he).imp fun D σ H h => by
  obtain ⟨F, δ, μ, D3, s, sl, h, k⟩ := h
  exact ⟨F, δ, μ, _, s, sl, h, fun F1 v H1 d μ1 g r1 q1 => k.rt F1 v H1 d μ1 g r1 q1⟩
def sRetN : TS3 := fun D _ μ => D.rt .non μ
theorem s_retN : S3 X (.Return none pos) sRetN := ps_retN.imp fun D σ H h => by
  obtain ⟨F, δ, μ, D3, s, sl, h, k⟩ := h
  exact k.rt F .non H .non μ (Step.refl s) .non h
def sIf (c : TT3) (t u : TS3) : TS3 := fun D δ μ => c δ μ fun b μ1 => if b = true then t D δ μ1 else u D δ μ1
theorem s_if {c : Expr} {a b : List Stmt} {tc : TT3} (hc : T3 X c tc) (ha : Ss3 X a t) (hb : Ss3 X b u) : S3 X (.If c a b pos) (sIf tc t u) := (ps_if hc ha hb).imp fun D σ H h => by
  obtain ⟨F, δ, μ, D3, s, sl, h, k⟩ := h
  refine ⟨F, δ, μ, _, s, sl, h, fun F1 c H1 μ1 g q1 => ?_⟩
  cases c with
  | true => exact ⟨F1, δ, μ1, D3, g.sim, sl.st g, q1, k.st g⟩
  | false => exact ⟨F1, δ, μ1, D3, g.sim, sl.st g, q1, k.st g⟩
/-! ### targets -/
abbrev TG3 := D → St3 → Option St3
/-- a target that changes only the slots vs -/
structure TgL (K : PySem.W.Frag) (g2 : TG) (g3 : TG3) (vs : List Nat) : Prop where
  run : ∀ (F : Addr → Prop) (H : Hp) (σ : L2.St) (δ δ' : St3) (d : D) (v : V) (Q : L2.St → Hp → Prop), Sl K F H σ δ → Rp K F H d v → g3 d δ = some δ' →
    (∀ σ', (∀ ws : List Nat, (∀ i ∈ vs, i ∈ ws) → wipe σ' ws = wipe σ ws) → Sl K F H σ' δ' → Q σ' H) → g2 v σ H Q
def G3 (X : Cx) (tg : Expr) (g3 : TG3) (vs : List Nat) : Prop := ∃ g2, PG X tg g2 ∧ TgL X.K g2 g3 vs
def gN (i : Nat) : TG3 := fun d δ => some (δ.set i (some d))
theorem wipe_set_mem (σ : L2.St) (x : Option V) : ∀ (ws : List Nat) (i : Nat), i ∈ ws → wipe (σ.set i x) ws = wipe σ ws
  | [], _, h => by cases h
  | w :: ws, i, h => by
    show (wipe (σ.set i x) ws).set w none = (wipe σ ws).set w none
    by_cases hi : i ∈ ws
    · rw [wipe_set_mem σ x ws i hi]
    · have hw : i = w := by
        rcases List.mem_cons.mp h with e | e
        · exact e
        · exact absurd e hi
      subst hw
      have : ∀ (vs : List Nat) (τ : L2.St), i ∉ vs → wipe (τ.set i x) vs = (wipe τ vs).set i x := by
        intro vs
        induction vs with
        | nil => intro τ _; rfl
        | cons v vs ih =>
          intro τ hn
          show (wipe (τ.set i x) vs).set v none = ((wipe τ vs).set v none).set i x
          rw [ih τ (fun z => hn (List.mem_cons_of_mem _ z))]
          rw [List.set_comm _ _ (show i ≠ v from fun e => hn (e ▸ List.mem_cons_self))]
      rw [this ws σ hi, List.set_set]
theorem g_name {i : Nat} {x : Str} (hN : X.N.Nodup) (hi : X.N[i]? = some x := by rfl) (hx : Loc X.env.scope x := by first | exact Or.inl rfl | exact Or.inr rfl) (hf : X.fn x = true ∨ X.env.scope.names.lookup x = some .local := by first | exact .inl rfl | exact .inr rfl) : G3 X (.Name x pos) (gN i) [i] :=
  ⟨gName i, pg_name hN hi hx hf, ⟨fun F H σ δ δ' d v Q sl r e k => by
    cases e
    exact k _ (fun ws h => wipe_set_mem σ (some v) ws i (h i List.mem_cons_self)) (sl.set i r)⟩⟩
def gGo : List TG3 → List D → St3 → Option St3
  | [], [], δ => some δ
  | g :: gs, d :: ds, δ => (g d δ).bind fun δ' => gGo gs ds δ'
  | _, _, _ => none
def gT (gs : List TG3) : TG3 := fun d δ => match d with
  | .tup ds => gGo gs ds δ
  | _ => none
def gL (gs : List TG3) : TG3 := fun d δ => match d with
  | .lst ds => gGo gs ds δ
  | _ => none
structure TgsL (K : PySem.W.Frag) (g2 : TGs) (gs : List TG3) (vs : List Nat) : Prop where
  run : ∀ (F : Addr → Prop) (H : Hp) (σ : L2.St) (δ δ' : St3) (ds : List D) (us : List V) (Q : L2.St → Hp → Prop), Sl K F H σ δ → Rps K F H ds us → gGo gs ds δ = some δ' →
    (∀ σ', (∀ ws : List Nat, (∀ i ∈ vs, i ∈ ws) → wipe σ' ws = wipe σ ws) → Sl K F H σ' δ' → Q σ' H) → g2 us σ H Q
def Gs3 (X : Cx) (ts : List Expr) (gs : List TG3) (vs : List Nat) : Prop := ∃ g2, PGs X ts g2 ∧ TgsL X.K g2 gs vs
theorem gs_nil : Gs3 X [] [] [] := ⟨gNil, pgs_nil, ⟨fun F H σ δ δ' ds us Q sl r e k => by
  cases r with
  | nil => cases e; exact ⟨rfl, k σ (fun _ _ => rfl) sl⟩
  | cons h t => cases e⟩⟩
theorem gs_cons {tg : Expr} {ts : List Expr} {g : TG3} {gs : List TG3} {vs ws : List Nat} (h1 : G3 X tg g vs) (h2 : Gs3 X ts gs ws) (hs : (assignEach (tg :: ts) X.env).map (·.2) = assign tg X.env :: (assignEach ts X.env).map (·.2) := by rfl) : Gs3 X (tg :: ts) (g :: gs) (vs ++ ws) := by
  obtain ⟨a, ha, la⟩ := h1
  obtain ⟨b, hb, lb⟩ := h2
  refine ⟨gCons a b, pgs_cons ha hb hs, ⟨fun F H σ δ δ' ds us Q sl r e k => ?_⟩⟩
  cases r with
  | nil => cases e
  | @cons d v ds vs2 h t =>
    have e' : (g d δ).bind (fun δ'' => gGo gs ds δ'') = some δ' := e
    cases q : g d δ with
    | none => rw [q] at e'; cases e'
    | some δ1 =>
      rw [q] at e'
      refine ⟨v, vs2, rfl, ?_⟩
      refine la.run F H σ δ δ1 d v _ sl h q fun σ1 w1 sl1 => ?_
      exact lb.run F H σ1 δ1 δ' ds vs2 _ sl1 t e' fun σ2 w2 sl2 => k σ2 (fun us hu => (w2 us fun i hi => hu i (List.mem_append_right _ hi)).trans (w1 us fun i hi => hu i (List.mem_append_left _ hi))) sl2
theorem g_tup {ts : List Expr} {n : Nat} {gs : List TG3} {vs : List Nat} {m : Nat} (hc : X.calm = true) (h : Gs3 X ts gs vs) (hm : gs.length = m := by rfl) (hn : (assignEach ts X.env).length = m := by rfl) (hst : (assignEach ts X.env).findIdx? (·.1) = none := by rfl) : G3 X (.Tuple ts n pos) (gT gs) vs := by
  obtain ⟨a, ha, la⟩ := h
  refine ⟨_, pg_tup hc ha hn hst, ⟨fun F H σ δ δ' d v Q sl r e k => ?_⟩⟩
  cases r with
  | @tup ds us a f h rs =>
    refine ⟨_, us, rfl, SqT.of h, ?_, la.run F H σ δ δ' ds us Q sl rs e k⟩
    have : ∀ (gs : List TG3) (ds : List D) (δ δ' : St3), gGo gs ds δ = some δ' → ds.length = gs.length := by
      intro gs
      induction gs with
      | nil => intro ds δ δ' e; cases ds with
        | nil => rfl
        | cons _ _ => cases e
      | cons g gs ih => intro ds δ δ' e; cases ds with
        | nil => cases e
        | cons d ds =>
          have e' : (g d δ).bind (fun δ'' => gGo gs ds δ'') = some δ' := e
          cases q : g d δ with
          | none => rw [q] at e'; cases e'
          | some δ1 =>
            rw [q] at e'
            rw [List.length_cons, List.length_cons, ih _ _ _ e']
    rw [← rs.length, this gs ds δ δ' e, hm]
  | _ => cases e
def sAsg (te : TE3) (g : TG3) : TS3 := fun D δ μ => te δ μ fun d μ1 => match g d δ with
  | some δ' => D.nx δ' μ1
  | none => False
theorem s_asg {tg : Expr} {g : TG3} {vs : List Nat} (he : E3 X e te) (hg : G3 X tg g vs) (hs : swapsWithSole [tg] e pos.line X.env = pure false := by rfl) (hw : swappedStores [tg] e X.env = pure none := by rfl)
    (h1 : (assignEach [tg] X.env).map (·.2) = [assign tg X.env] := by rfl) : S3 X (.Assign [tg] e pos) (sAsg te g) := by
  obtain ⟨g2, hg2, lg⟩ := hg
  refine (ps_asg he hg2 hs hw h1).imp fun D σ H h => ?_
  obtain ⟨F, δ, μ, D3, s, sl, h, k⟩ := h
  refine ⟨F, δ, μ, _, s, sl, h, fun F1 v H1 d μ1 g1 r1 q1 => ?_⟩
  split at q1
  · rename_i δ' e'
    exact lg.run F1 H1 σ δ δ' d v _ (sl.st g1) r1 e' fun σ' _ sl' => k.nx F1 σ' H1 δ' μ1 g1 sl' q1
  · exact q1.elim
def sSet (i : Nat) (te : TE3) : TS3 := fun D δ μ => te δ μ fun d μ1 => D.nx (δ.set i (some d)) μ1
theorem s_set {i : Nat} {pos' : Pos} (hN : X.N.Nodup) (he : E3 X e te) (hi : X.N[i]? = some x := by rfl) (hx : Loc X.env.scope x := by first | exact Or.inl rfl | exact Or.inr rfl) (hs : swapsWith e (some (.Name x pos')) pos.line X.env = pure false := by rfl) (hf : X.fn x = true ∨ X.env.scope.names.lookup x = some .local := by first | exact .inl rfl | exact .inr rfl) :
    S3 X (.Assign [.Name x pos'] e pos) (sSet i te) := (ps_set hN hi hx he hs hf).imp fun D σ H h => by
  obtain ⟨F, δ, μ, D3, s, sl, h, k⟩ := h
  exact ⟨F, δ, μ, _, s, sl, h, fun F1 v H1 d μ1 g r1 q1 => k.nx F1 _ H1 _ μ1 g ((sl.st g).set i r1) q1⟩
/-- name op= e, by the operator's rule -/
def IpL (X : Cx) (op : Operator) (G : G2) : Prop := ∃ t : TIp, PIp X op t ∧ ∀ F H μ x y vx vy R Q, Sim X.K F H μ → Rp X.K F H x vx → Rp X.K F H y vy → G x y μ R →
  (∀ F' v H' z μ', Step X.K F H μ F' H' μ' → Rp X.K F' H' z v → R z μ' → Q v H') → t vx vy H Q
def sAug (i : Nat) (te : TE3) (G : G2) : TS3 := fun D δ μ => match δ[i]? with
  | some (some x) => te δ μ fun y μ1 => G x y μ1 fun z μ2 => D.nx (δ.set i (some z)) μ2
  | _ => False
theorem s_aug {i : Nat} {pos' : Pos} {op : Operator} {G : G2} (hN : X.N.Nodup) (he : E3 X e te) (ho : IpL X op G) (hi : X.N[i]? = some x := by rfl) (hx : Loc X.env.scope x := by first | exact Or.inl rfl | exact Or.inr rfl) (hf : X.fn x = true ∨ X.env.scope.names.lookup x = some .local := by first | exact .inl rfl | exact .inr rfl) :
    S3 X (.AugAssign (.Name x pos') op e pos) (sAug i te G) := by
  obtain ⟨ti, hti, hl⟩ := ho
  refine (ps_aug hN hi hx he hti hf).imp fun D σ H h => ?_
  obtain ⟨F, δ, μ, D3, s, sl, h, k⟩ := h
  unfold sAug at h
  split at h
  · rename_i d e
    obtain ⟨v, e1, r⟩ := sl.at_ i d e
    refine ⟨v, e1, F, δ, μ, _, s, sl, h, fun F1 v1 H1 d1 μ1 g r1 q1 => ?_⟩
    refine hl F1 H1 μ1 d d1 v v1 _ _ g.sim (r.st g) r1 q1 fun F2 v2 H2 z μ2 g2 r2 q2 => ?_
    exact k.nx F2 _ H2 _ μ2 (g.trans g2) ((sl.st (g.trans g2)).set i r2) q2
  · exact h.elim
/-! ### while -/
def whileW (c : TT3) (tb : TS3) (D : Ends3) : Nat → St3 → Mu → Prop
  | 0, _, _ => False
  | n + 1, δ, μ => c δ μ fun b μ1 => if b = true then tb { D with nx := whileW c tb D n, ct := whileW c tb D n, bk := D.nx } δ μ1 else D.nx δ μ1
def sWhile (c : TT3) (tb : TS3) : TS3 := fun D δ μ => ∃ n, whileW c tb D n δ μ
theorem s_while {c : Expr} {body : List Stmt} {tc : TT3} {tb : TS3} (hp : PassesOwn (model X.prog X.w) X.A X.env X.xe) (hc : T3 X c tc) (hb : Ss3 X body tb) : S3 X (.While c body [] pos) (sWhile tc tb) := (ps_while hp hc hb).imp fun D σ H h => by
  obtain ⟨F, δ, μ, D3, s, sl, ⟨n, h⟩, k⟩ := h
  refine ⟨fun m σ1 H1 => ∃ F1 δ1 μ1, Step X.K F H μ F1 H1 μ1 ∧ Sl X.K F1 H1 σ1 δ1 ∧ whileW tc tb D3 m δ1 μ1, ⟨n, F, δ, μ, Step.refl s, sl, h⟩, ?_⟩
  rintro m σ1 H1 ⟨F1, δ1, μ1, g1, sl1, h1⟩
  cases m with
  | zero => exact h1.elim
  | succ m =>
    refine ⟨F1, δ1, μ1, _, g1.sim, sl1, h1, fun F2 b H2 μ2 g2 q2 => ?_⟩
    cases b with
    | true =>
      refine ⟨fun σ' H' => ∃ F1 δ1 μ1, Step X.K F H μ F1 H' μ1 ∧ Sl X.K F1 H' σ' δ1 ∧ whileW tc tb D3 m δ1 μ1, fun σ' H' q => ⟨m, Nat.lt_succ_self m, q⟩, ?_⟩
      refine ⟨F2, δ1, μ2, _, g2.sim, sl1.st g2, q2, ⟨fun F3 σ3 H3 δ3 μ3 g3 sl3 q3 => ⟨F3, δ3, μ3, (g1.trans g2).trans g3, sl3, q3⟩, fun F3 σ3 H3 δ3 μ3 g3 sl3 q3 => k.nx F3 σ3 H3 δ3 μ3 ((g1.trans g2).trans g3) sl3 q3, fun F3 σ3 H3 δ3 μ3 g3 sl3 q3 => ⟨F3, δ3, μ3, (g1.trans g2).trans g3, sl3, q3⟩, (k.st (g1.trans g2)).rt⟩⟩
    | false => exact k.nx F2 σ1 H2 δ1 μ2 (g1.trans g2) (sl1.st g2) q2
/-! ### what is walked: its items; Pμ what must stay so while it is walked -/
structure ItOk (K : PySem.W.Frag) (F : Addr → Prop) (H : Hp) (μ : Mu) (ds : List D) (Pm : Mu → Prop) (J : It) : Prop where
  go : ∀ F1 H1 μ1 i, Step K F H μ F1 H1 μ1 → Pm μ1 → i < ds.length → J.go i H1
  stop : ∀ F1 H1 μ1, Step K F H μ F1 H1 μ1 → Pm μ1 → J.stop ds.length H1
  yld : ∀ F1 H1 μ1 i x H2, Step K F H μ F1 H1 μ1 → Pm μ1 → J.yld i H1 x H2 → i < ds.length → ∃ F2 d, Step K F1 H1 μ1 F2 H2 μ1 ∧ ds[i]? = some d ∧ Rp K F2 H2 d x
abbrev TI3 := St3 → Mu → (List D → (Mu → Prop) → Mu → Prop) → Prop
def lowI (K : PySem.W.Frag) (wi : TI3) : TI := fun σ H R => ∃ (F : Addr → Prop) (δ : St3) (μ : Mu) (R3 : List D → (Mu → Prop) → Mu → Prop), Sim K F H μ ∧ Sl K F H σ δ ∧ wi δ μ R3 ∧
  ∀ F' H' ds Pm μ' J, Step K F H μ F' H' μ' → ItOk K F' H' μ' ds Pm J → R3 ds Pm μ' → R J H'
def I3 (X : Cx) (tg iter : Expr) (wi : TI3) : Prop := PI X tg iter (lowI X.K wi)
theorem _root_.L2.PI.imp {X : Cx} {tg e : Expr} {t t' : TI} (h : PI X tg e t) (i : ∀ σ H R, t' σ H R → t σ H R) : PI X tg e t' := ⟨fun pins s σ H R I q => h.run pins s σ H R I (i _ _ _ q)⟩
def forW (Pm : Mu → Prop) (g : TG3) (tb : TS3) (Z : Ends3) : List D → St3 → Mu → Prop
  | [], δ, μ => Pm μ ∧ Z.nx δ μ
  | d :: ds, δ, μ => Pm μ ∧ match g d δ with
    | some δ' => tb { Z with nx := forW Pm g tb Z ds, ct := forW Pm g tb Z ds, bk := Z.nx } δ' μ
    | none => False
def sFor (wi : TI3) (g : TG3) (tb : TS3) : TS3 := fun D δ μ => wi δ μ fun ds Pm μ1 => forW Pm g tb D ds δ μ1
theorem s_for {tg iter : Expr} {body : List Stmt} {wi : TI3} {g : TG3} {vs : List Nat} {tb : TS3} (hp : PassesOwn (model X.prog X.w) X.A X.env X.xe) (hc : X.calm = true) (hi : I3 X tg iter wi) (hg : G3 X tg g vs) (hb : Ss3 X body tb)
    (hs : ∀ x, foldedSetIterable iter X.env x = pure x := by intro _; rfl) : S3 X (.For tg iter body [] pos) (sFor wi g tb) := by
  obtain ⟨g2, hg2, lg⟩ := hg
  refine (ps_for hp hc hi hg2 hb hs).imp fun D σ H h => ?_
  obtain ⟨F, δ, μ, D3, s, sl, h, k⟩ := h
  refine ⟨F, δ, μ, _, s, sl, h, fun F0 H0 ds Pm μ0 J g0 it q0 => ?_⟩
  refine ⟨fun i m σ1 H1 => ∃ F1 δ1 μ1, Step X.K F0 H0 μ0 F1 H1 μ1 ∧ Sl X.K F1 H1 σ1 δ1 ∧ m + i = ds.length ∧ forW Pm g tb D3 (ds.drop i) δ1 μ1, ⟨ds.length, F0, δ, μ0, Step.refl g0.sim, sl.st g0, rfl, q0⟩, ?_⟩
  rintro i m σ1 H1 ⟨F1, δ1, μ1, g1, sl1, em, h1⟩
  by_cases hi : i < ds.length
  · rw [List.drop_eq_getElem_cons hi] at h1
    obtain ⟨hP, h1⟩ := h1
    refine .inr ⟨it.go F1 H1 μ1 i g1 hP hi, fun σ' H' => ∃ F1 δ1 μ1, Step X.K F0 H0 μ0 F1 H' μ1 ∧ Sl X.K F1 H' σ' δ1 ∧ forW Pm g tb D3 (ds.drop (i + 1)) δ1 μ1, fun σ' H' ⟨F2, δ2, μ2, a, c, d⟩ => ⟨m - 1, by omega, F2, δ2, μ2, a, c, by omega, d⟩, fun x H2 hy => ?_⟩
    obtain ⟨F2, d, g2, ed, r2⟩ := it.yld F1 H1 μ1 i x H2 g1 hP hy hi
    rw [List.getElem?_eq_getElem hi] at ed
    cases ed
    split at h1
    · rename_i δ' eg
      refine lg.run F2 H2 σ1 δ1 δ' _ x _ (sl1.st g2) r2 eg fun σ' _ sl' => ?_
      refine ⟨F2, δ', μ1, _, g2.sim, sl', h1, ⟨fun F3 σ3 H3 δ3 μ3 g3 sl3 q3 => ⟨F3, δ3, μ3, (g1.trans g2).trans g3, sl3, q3⟩, fun F3 σ3 H3 δ3 μ3 g3 sl3 q3 => k.nx F3 σ3 H3 δ3 μ3 (((g0.trans g1).trans g2).trans g3) sl3 q3, fun F3 σ3 H3 δ3 μ3 g3 sl3 q3 => ⟨F3, δ3, μ3, (g1.trans g2).trans g3, sl3, q3⟩, (k.st ((g0.trans g1).trans g2)).rt⟩⟩
    · exact h1.elim
  · have e : i = ds.length := by omega
    subst e
    rw [List.drop_length] at h1
    exact .inl ⟨it.stop F1 H1 μ1 g1 h1.1, k.nx F1 σ1 H1 δ1 μ1 (g0.trans g1) sl1 h1.2⟩
/-! ### comprehensions -/
def wipe3 (δ : St3) : List Nat → St3
  | [] => δ
  | v :: vs => (wipe3 δ vs).set v none
theorem Sl.wipe {K : PySem.W.Frag} {F : Addr → Prop} {H : Hp} {σ : L2.St} {δ : St3} (s : Sl K F H σ δ) : ∀ vs : List Nat, Sl K F H (wipe σ vs) (wipe3 δ vs)
  | [] => s
  | v :: vs => by
    have ih := Sl.wipe s vs
    refine ⟨by show ((L2.wipe σ vs).set v none).length = ((wipe3 δ vs).set v none).length; simpa using ih.len, fun i d e => ?_⟩
    have e' : ((wipe3 δ vs).set v none)[i]? = some (some d) := e
    show ∃ u, ((L2.wipe σ vs).set v none)[i]? = some (some u) ∧ _
    by_cases hv : v = i
    · subst hv
      by_cases hl : v < (wipe3 δ vs).length
      · rw [List.getElem?_set_self hl] at e'; cases e'
      · rw [List.getElem?_eq_none_iff.mpr (by simpa using hl)] at e'; cases e'
    · rw [List.getElem?_set_ne hv] at e'
      rw [List.getElem?_set_ne hv]
      exact ih.at_ i d e'
theorem wipe_set_none (σ : L2.St) : ∀ (ws : List Nat) (i : Nat), L2.wipe (σ.set i none) ws = (L2.wipe σ ws).set i none
  | [], _ => rfl
  | w :: ws, i => by
    show (L2.wipe (σ.set i none) ws).set w none = ((L2.wipe σ ws).set w none).set i none
    rw [wipe_set_none σ ws i]
    by_cases h : i = w
    · subst h; rfl
    · rw [List.set_comm _ _ h]
theorem wipe_wipe (σ : L2.St) : ∀ ws : List Nat, L2.wipe (L2.wipe σ ws) ws = L2.wipe σ ws
  | [] => rfl
  | w :: ws => by
    show (L2.wipe ((L2.wipe σ ws).set w none) ws).set w none = (L2.wipe σ ws).set w none
    rw [wipe_set_none, wipe_wipe σ ws, List.set_set]
/-- [elt for target in iter if test] -/
def lcW (Pm : Mu → Prop) (g : TG3) (tt : TT3) (te : TE3) (δ : St3) (R : List D → Mu → Prop) : List D → List D → Mu → Prop
  | [], acc, μ => Pm μ ∧ R acc μ
  | d :: ds, acc, μ => Pm μ ∧ acc.length < sizeLine ∧ match g d δ with
    | some δ' => tt δ' μ fun b μ1 => if b = true then te δ' μ1 fun y μ2 => lcW Pm g tt te δ R ds (acc ++ [y]) μ2 else lcW Pm g tt te δ R ds acc μ1
    | none => False
def vLc (wi : TI3) (g : TG3) (tt : TT3) (te : TE3) (vs : List Nat) : TE3 := fun δ μ R => wi δ μ fun ds Pm μ1 => lcW Pm g tt te (wipe3 δ vs) (fun out μ2 => R (.lst out) μ2) ds [] μ1
def vYes : TT3 := fun _ μ R => R true μ
def Ts3 (X : Cx) (es : List Expr) (t : TT3) : Prop := PTs X es (lowT X.K t)
theorem _root_.L2.PTs.imp {X : Cx} {e : List Expr} {t t' : TT} (h : PTs X e t) (i : ∀ σ H Q, t' σ H Q → t σ H Q) : PTs X e t' := ⟨fun pins s σ H Q I q => h.run pins s σ H Q I (i _ _ _ q)⟩
theorem ts_nil : Ts3 X [] vYes := pts_nil.imp fun σ H Q h => by
  obtain ⟨F, δ, μ, R, s, sl, h, k⟩ := h
  exact k F true H μ (Step.refl s) h
theorem ts_one {c : Expr} {t : TT3} (h : T3 X c t) : Ts3 X [c] t := pts_one h
theorem low_lc {K : PySem.W.Frag} {wi : TI3} {g : TG3} {g2 : TG} {tt : TT3} {te : TE3} {vs ws : List Nat} {σ : L2.St} {H : Hp} {Q : VK} (lg : TgL K g2 g vs) (hv : ∀ i ∈ vs, i ∈ ws) (h : low K (vLc wi g tt te ws) σ H Q) : tLc (lowI K wi) g2 (lowT K tt) (low K te) ws σ H Q := by
  obtain ⟨F, δ, μ, R, s, sl, h, k⟩ := h
  refine ⟨F, δ, μ, _, s, sl, h, fun F0 H0 ds Pm μ0 J g0 it q0 Dl hD => ?_⟩
  have gD := g0.sim.newS (o := .lst []) hD
  refine ⟨fun i m H1 => ∃ F1 μ1 acc out, Step K F0 H0 μ0 F1 H1 μ1 ∧ ¬ F1 Dl ∧ μ1 Dl = none ∧ H1 Dl = some (.lst acc) ∧ Rps K F1 H1 out acc ∧ m + i = ds.length ∧ lcW Pm g tt te (wipe3 δ ws) (fun out μ2 => R (.lst out) μ2) (ds.drop i) out μ1,
    ⟨ds.length, F0, μ0, [], [], gD, ?_, g0.sim.free hD, upd_same, .nil, rfl, q0⟩, ?_⟩
  · intro f
    obtain ⟨u, hu⟩ := g0.sim.dom Dl f
    rw [hD] at hu
    cases hu
  rintro i m H1 ⟨F1, μ1, acc, out, g1, nF, nμ, eD, rs, em, h1⟩
  by_cases hi : i < ds.length
  · rw [List.drop_eq_getElem_cons hi] at h1
    obtain ⟨hP, hlen, h1⟩ := h1
    refine .inr ⟨it.go F1 H1 μ1 i g1 hP hi, fun H' => ∃ F1 μ1 acc out, Step K F0 H0 μ0 F1 H' μ1 ∧ ¬ F1 Dl ∧ μ1 Dl = none ∧ H' Dl = some (.lst acc) ∧ Rps K F1 H' out acc ∧ lcW Pm g tt te (wipe3 δ ws) (fun out μ2 => R (.lst out) μ2) (ds.drop (i + 1)) out μ1,
      fun H' ⟨F2, μ2, acc2, out2, a, b, c, d, e, f⟩ => ⟨m - 1, by omega, F2, μ2, acc2, out2, a, b, c, d, e, by omega, f⟩, fun x H2 hy => ?_⟩
    obtain ⟨F2, d, g2', ed, r2⟩ := it.yld F1 H1 μ1 i x H2 g1 hP hy hi
    rw [List.getElem?_eq_getElem hi] at ed
    obtain rfl := Option.some.inj ed
    have sw : Sl K F2 H2 (L2.wipe σ ws) (wipe3 δ ws) := (sl.st ((g0.trans g1).trans g2')).wipe ws
    split at h1
    · rename_i δ' eg
      refine lg.run F2 H2 (L2.wipe σ ws) (wipe3 δ ws) δ' _ x _ sw r2 eg fun σ' hw sl' => ?_
      have hww : L2.wipe (L2.wipe σ ws) ws = L2.wipe σ ws := wipe_wipe σ ws
      refine ⟨(hw ws hv).trans hww, ?_⟩
      obtain ⟨n2, e2, f2⟩ := g2'.fm Dl _ eD nμ
      refine ⟨F2, δ', μ1, _, g2'.sim, sl', h1, fun F3 b H3 μ3 g3 q3 => ?_⟩
      obtain ⟨n3, e3, f3⟩ := g3.fm Dl _ e2 n2
      cases b with
      | true =>
        refine ⟨F3, δ', μ3, _, g3.sim, sl'.st g3, q3, fun F4 y H4 dy μ4 g4 r4 q4 => ?_⟩
        obtain ⟨n4, e4, f4⟩ := g4.fm Dl _ e3 n3
        have nF4 : ¬ F4 Dl := fun z => nF (f2 (f3 (f4 z)))
        have gs := ((g1.trans g2').trans g3).trans g4
        have gp := (gs.sim.priv (o := .lst (acc ++ [y])) nF4 n4).1
        refine ⟨acc, e4, by rw [← rs.length]; exact hlen, F4, μ4, acc ++ [y], out ++ [dy], gs.priv hD nF4 n4, nF4, n4, upd_same, ((rs.st ((g2'.trans g3).trans g4)).append (.cons r4 .nil)).grow gp, q4⟩
      | false => exact ⟨F3, μ3, acc, out, (g1.trans g2').trans g3, fun z => nF (f2 (f3 z)), n3, e3, rs.st (g2'.trans g3), q3⟩
    · exact h1.elim
  · have e : i = ds.length := by omega
    subst e
    rw [List.drop_length] at h1
    refine .inl ⟨it.stop F1 H1 μ1 g1 h1.1, ?_⟩
    have gs := g1.shut (o := .lst acc) hD nμ eD
    have gg : Grow F1 H1 (fun a => F1 a ∨ a = Dl) H1 := ⟨fun _ h => .inl h, fun _ _ _ h => h, fun _ _ _ _ h => h⟩
    exact k _ (.ref Dl) H1 (.lst out) μ1 (g0.trans gs) (.lst (.inr rfl) eD (rs.grow gg)) h1.2
theorem e_lc {elt tg iter : Expr} {ifs : List Expr} {scope : Scope} {own : List (Str × Nat)} {wi : TI3} {g : TG3} {tt : TT3} {te : TE3} {vs : List Nat} (hc : X.calm = true) (hN : X.N.Nodup) (hi : I3 X tg iter wi) (ok : BlkOk X.N X.env.scope scope own) {g2 : TG}
    (lg : TgL X.K g2 g vs) (hv : ∀ i ∈ vs, i ∈ own.map (·.2))
    (hg : ∀ (s : Shared) (H : Hp) (C : Addr) (cl : List (Str × Addr)) (fp : List Addr), PG (X.blk s H scope (compEnvC scope cl C X.env) fp) tg g2)
    (ht : ∀ (s : Shared) (H : Hp) (C : Addr) (cl : List (Str × Addr)) (fp : List Addr), Ts3 (X.blk s H scope (compEnvC scope cl C X.env) fp) ifs tt)
    (he : ∀ (s : Shared) (H : Hp) (C : Addr) (cl : List (Str × Addr)) (fp : List Addr), E3 (X.blk s H scope (compEnvC scope cl C X.env) fp) elt te)
    (hs : ∀ x, foldedSetIterable iter X.env x = pure x := by intro _; rfl) :
    E3 X (.ListComp elt [⟨tg, iter, ifs, 0⟩] scope pos) (vLc wi g tt te (own.map (·.2))) :=
  (pe_lc (wi := lowI X.K wi) (g := g2) (tt := lowT X.K tt) (te := low X.K te) hc hN hi ok hg ht he hs).imp fun σ H Q h => low_lc lg hv h
end
end L3

namespace L3
open PySem PySem.Spec L2
/-! ### ints -/
section
variable {X : Cx}
def g2I (C : Int → Int → Prop) (g : Int → Int → D) : G2 := fun x y μ R => match x, y with
  | .int i, .int j => C i j ∧ R (g i j) μ
  | _, _ => False
def g2I0 (g : Int → Int → D) : G2 := fun x y μ R => match x, y with
  | .int i, .int j => R (g i j) μ
  | _, _ => False
theorem opl_I {f : Value → Value → Sem Value} {C : Int → Int → Prop} {g : Int → Int → V} {g3 : Int → Int → D} (h : OpR X f (rI C g)) (hg : ∀ i j F H, Rp X.K F H (g3 i j) (g i j)) : OpL X f (g2I C g3) := by
  refine ⟨_, h, fun F H μ x y vx vy R Q s rx ry q k => ?_⟩
  cases rx <;> first | exact (show False from q).elim | skip
  rename_i i
  cases ry <;> first | exact (show False from q).elim | skip
  rename_i j
  exact ⟨i, j, rfl, rfl, q.1, k F _ H _ μ (Step.refl s) (hg i j F H) q.2⟩
theorem opl_I0 {f : Value → Value → Sem Value} {g : Int → Int → V} {g3 : Int → Int → D} (h : OpR X f (rI0 g)) (hg : ∀ i j F H, Rp X.K F H (g3 i j) (g i j)) : OpL X f (g2I0 g3) := by
  refine ⟨_, h, fun F H μ x y vx vy R Q s rx ry q k => ?_⟩
  cases rx <;> first | exact (show False from q).elim | skip
  rename_i i
  cases ry <;> first | exact (show False from q).elim | skip
  rename_i j
  exact ⟨i, j, rfl, rfl, k F _ H _ μ (Step.refl s) (hg i j F H) q⟩
def OpL.or {f : Value → Value → Sem Value} {G G' : G2} (h : OpL X f G) (h' : OpL X f G') : OpL X f (fun x y μ R => G x y μ R ∨ G' x y μ R) := by
  obtain ⟨r, hr, l⟩ := h
  obtain ⟨r', hr', l'⟩ := h'
  refine ⟨fun x y H Q => r x y H Q ∨ r' x y H Q, ?_, fun F H μ x y vx vy R Q s rx ry q k => ?_⟩
  · intro pins s σ H x y v u Q I rx ry q
    rcases q with q | q
    · exact hr pins s σ H x y v u Q I rx ry q
    · exact hr' pins s σ H x y v u Q I rx ry q
  · rcases q with q | q
    · exact .inl (l F H μ x y vx vy R Q s rx ry q k)
    · exact .inr (l' F H μ x y vx vy R Q s rx ry q k)
theorem OpL.imp {f : Value → Value → Sem Value} {G G' : G2} (h : OpL X f G) (i : ∀ x y μ R, G' x y μ R → G x y μ R) : OpL X f G' := by
  obtain ⟨r, hr, l⟩ := h
  exact ⟨r, hr, fun F H μ x y vx vy R Q s rx ry q k => l F H μ x y vx vy R Q s rx ry (i x y μ R q) k⟩
abbrev gSub : G2 := g2I0 fun i j => .int (i - j)
abbrev gMul : G2 := g2I CMulW fun i j => .int (i * j)
abbrev gMod : G2 := g2I (fun _ j => 0 < j) fun i j => .int (i % j)
abbrev gDiv : G2 := g2I CDivW fun i j => .int (i / j)
abbrev gPow : G2 := g2I CPow fun i j => .int (i ^ j.toNat)
theorem o_sub : OpL X (binaryOp .Sub) gSub := opl_I0 op_sub fun _ _ _ _ => .int _
theorem o_mul : OpL X (binaryOp .Mult) gMul := opl_I op_mulW fun _ _ _ _ => .int _
theorem o_mod : OpL X (binaryOp .Mod) gMod := opl_I op_mod fun _ _ _ _ => .int _
theorem o_div : OpL X (binaryOp .FloorDiv) gDiv := opl_I op_fdivW fun _ _ _ _ => .int _
theorem o_pow : OpL X (binaryOp .Pow) gPow := opl_I op_pow fun _ _ _ _ => .int _
abbrev gLt : G2 := g2I0 fun i j => .bl (decide (i < j))
abbrev gLe : G2 := g2I0 fun i j => .bl (decide (i ≤ j))
abbrev gGt : G2 := g2I0 fun i j => .bl (decide (j < i))
abbrev gGe : G2 := g2I0 fun i j => .bl (decide (j ≤ i))
theorem o_lt : OpL X (compareOp .Lt) gLt := opl_I0 op_lt fun _ _ _ _ => .bl _
theorem o_le : OpL X (compareOp .LtE) gLe := opl_I0 op_le fun _ _ _ _ => .bl _
theorem o_gt : OpL X (compareOp .Gt) gGt := opl_I0 op_gt fun _ _ _ _ => .bl _
theorem o_ge : OpL X (compareOp .GtE) gGe := opl_I0 op_ge fun _ _ _ _ => .bl _
def gNeg : D → Mu → DK → Prop := fun x μ R => match x with
  | .int i => R (.int (-i)) μ
  | _ => False
theorem u_neg : UnL X (unaryOp .USub) gNeg := ⟨_, un_neg, fun F H μ x vx R Q s rx q k => by
  cases rx <;> first | exact (show False from q).elim | skip
  rename_i i
  exact ⟨i, rfl, k F _ H _ μ (Step.refl s) (.int _) q⟩⟩
/-! ### sequences -/
/-- the items of a list (a tracked or frozen one) -/
def lstOf (μ : Mu) : D → Option (List D)
  | .lst xs => some xs
  | .ref a => match μ a with
    | some (.lst xs) => some xs
    | _ => none
  | _ => none
/-- the items of a list or the script -/
def rdL (μ : Mu) : D → Option (List D)
  | .lst xs => some xs
  | .scr xs => some xs
  | .ref a => match μ a with
    | some (.lst xs) => some xs
    | _ => none
  | _ => none
/-- the items of a list, a tuple, the script -/
def seqOf (μ : Mu) : D → Option (List D)
  | .lst xs => some xs
  | .scr xs => some xs
  | .tup xs => some xs
  | .ref a => match μ a with
    | some (.lst xs) => some xs
    | _ => none
  | _ => none
theorem lst_of {K : PySem.W.Frag} {F : Addr → Prop} {H : Hp} {μ : Mu} {x : D} {v : V} {xs : List D} (s : Sim K F H μ) (r : Rp K F H x v) (h : lstOf μ x = some xs) : ∃ p vs, v = .ref p ∧ H p = some (.lst vs) ∧ Rps K F H xs vs := by
  cases r with
  | lst f e rs => cases h; exact ⟨_, _, rfl, e, rs⟩
  | ref a =>
    have h' : (match μ a with
      | some (.lst xs) => some xs
      | _ => none) = some xs := h
    split at h'
    · rename_i ys e2
      cases h'
      obtain ⟨_, vs, e3, rs⟩ := s.obj _ _ e2
      exact ⟨_, vs, rfl, e3, rs⟩
    · cases h'
  | _ => cases h
theorem rdl_of {K : PySem.W.Frag} {F : Addr → Prop} {H : Hp} {μ : Mu} {x : D} {v : V} {xs : List D} (s : Sim K F H μ) (r : Rp K F H x v) (h : rdL μ x = some xs) : ∃ p vs, v = .ref p ∧ SqL K H p vs ∧ Rps K F H xs vs := by
  cases r with
  | lst f e rs => cases h; exact ⟨_, _, rfl, SqL.of e, rs⟩
  | scr f rs => cases h; exact ⟨_, _, rfl, f.sq, rs⟩
  | ref a =>
    obtain ⟨p, vs, e1, e2, rs⟩ := lst_of (x := .ref a) s (.ref a) (xs := xs) (by
      unfold rdL at h
      unfold lstOf
      exact h)
    exact ⟨p, vs, e1, SqL.of e2, rs⟩
  | _ => cases h
theorem seq_of {K : PySem.W.Frag} {F : Addr → Prop} {H : Hp} {μ : Mu} {x : D} {v : V} {xs : List D} (s : Sim K F H μ) (r : Rp K F H x v) (h : seqOf μ x = some xs) : ∃ p vs, v = .ref p ∧ (SqL K H p vs ∨ SqT K H p vs) ∧ Rps K F H xs vs := by
  cases r with
  | lst f e rs => cases h; exact ⟨_, _, rfl, .inl (SqL.of e), rs⟩
  | scr f rs => cases h; exact ⟨_, _, rfl, .inl f.sq, rs⟩
  | tup f e rs => cases h; exact ⟨_, _, rfl, .inr (SqT.of e), rs⟩
  | ref a =>
    obtain ⟨p, vs, e1, e2, rs⟩ := lst_of (x := .ref a) s (.ref a) (xs := xs) (by
      unfold seqOf at h
      unfold lstOf
      exact h)
    exact ⟨p, vs, e1, .inl (SqL.of e2), rs⟩
  | _ => cases h
/-- + -/
def gAdd : G2 := fun x y μ R => match x, y with
  | .int i, .int j => R (.int (i + j)) μ
  | .str a, .str b => a.length + b.length ≤ sizeLine ∧ R (.str (a ++ b)) μ
  | .tup xs, .tup ys => xs ≠ [] ∧ xs.length + ys.length ≤ sizeLine ∧ R (.tup (xs ++ ys)) μ
  | x, y => ∃ xs ys, lstOf μ x = some xs ∧ lstOf μ y = some ys ∧ xs.length + ys.length ≤ sizeLine ∧ R (.lst (xs ++ ys)) μ
theorem o_addI : OpL X (binaryOp .Add) (g2I0 fun i j => .int (i + j)) := opl_I0 op_add fun _ _ _ _ => .int _
def gAddS : G2 := fun x y μ R => match x, y with
  | .str a, .str b => a.length + b.length ≤ sizeLine ∧ R (.str (a ++ b)) μ
  | _, _ => False
theorem o_addS : OpL X (binaryOp .Add) gAddS := ⟨_, op_add_str, fun F H μ x y vx vy R Q s rx ry q k => by
  cases rx <;> first | exact (show False from q).elim | skip
  cases ry <;> first | exact (show False from q).elim | skip
  exact ⟨_, _, rfl, rfl, q.1, k F _ H _ μ (Step.refl s) (.str _) q.2⟩⟩
def gAddL : G2 := fun x y μ R => ∃ xs ys, lstOf μ x = some xs ∧ lstOf μ y = some ys ∧ xs.length + ys.length ≤ sizeLine ∧ R (.lst (xs ++ ys)) μ
theorem o_addL : OpL X (binaryOp .Add) gAddL := ⟨_, op_cat, fun F H μ x y vx vy R Q s rx ry q k => by
  obtain ⟨xs, ys, ex, ey, hz, q⟩ := q
  obtain ⟨p, vs, rfl, e1, r1⟩ := lst_of s rx ex
  obtain ⟨p2, us, rfl, e2, r2⟩ := lst_of s ry ey
  refine ⟨p, p2, vs, us, rfl, rfl, e1, e2, by rw [← r1.length, ← r2.length]; exact hz, fun l hl => ?_⟩
  have g := s.frzS (o := .lst (vs ++ us)) hl
  exact k _ _ _ _ μ g (.lst (.inr rfl) upd_same ((r1.append r2).st g)) q⟩
def gAddT : G2 := fun x y μ R => match x, y with
  | .tup xs, .tup ys => xs ≠ [] ∧ xs.length + ys.length ≤ sizeLine ∧ R (.tup (xs ++ ys)) μ
  | _, _ => False
theorem o_addT : OpL X (binaryOp .Add) gAddT := ⟨_, op_catT, fun F H μ x y vx vy R Q s rx ry q k => by
  cases rx <;> first | exact (show False from q).elim | skip
  rename_i xs vs a f1 e1 r1
  cases ry <;> first | exact (show False from q).elim | skip
  rename_i ys us b f2 e2 r2
  refine ⟨a, b, vs, us, rfl, rfl, SqT.of e1, SqT.of e2, fun z => q.1 ?_, by rw [← r1.length, ← r2.length]; exact q.2.1, fun z => ?_, fun z p hp => ?_⟩
  · subst z; cases r1; rfl
  · subst z
    cases r2
    exact k F _ H _ μ (Step.refl s) (.tup f1 e1 (by simpa using r1)) q.2.2
  · have g := s.frzS (o := .tup (vs ++ us)) hp
    exact k _ _ _ _ μ g (.tup (.inr rfl) upd_same ((r1.append r2).st g)) q.2.2⟩
theorem o_add : OpL X (binaryOp .Add) gAdd := (((o_addI.or o_addS).or o_addT).or o_addL).imp fun x y μ R h => by
  unfold gAdd at h
  split at h
  · exact .inl (.inl (.inl h))
  · exact .inl (.inl (.inr h))
  · exact .inl (.inr h)
  · exact .inr h
/-! ### scalars: ==, is None -/
def eqS : D → D → Option Bool
  | .non, .non => some true
  | .non, .int _ => some false | .int _, .non => some false | .non, .bl _ => some false | .bl _, .non => some false | .non, .str _ => some false | .str _, .non => some false
  | .int i, .int j => some (decide (i = j))
  | .bl i, .bl j => some (decide (i = j))
  | .str i, .str j => some (decide (i = j))
  | .int _, .str _ => some false | .str _, .int _ => some false | .bl _, .str _ => some false | .str _, .bl _ => some false
  | _, _ => none
theorem eqS_ok {K : PySem.W.Frag} {F : Addr → Prop} {H : Hp} {x y : D} {vx vy : V} {b : Bool} (rx : Rp K F H x vx) (ry : Rp K F H y vy) (h : eqS x y = some b) : scal vx vy = true ∧ decide (vx = vy) = b := by
  cases rx <;> cases ry <;> first | cases h | skip
  all_goals (refine ⟨rfl, ?_⟩; simp)
def gEqS : G2 := fun x y μ R => match eqS x y with
  | some b => R (.bl b) μ
  | none => False
def gNeS : G2 := fun x y μ R => match eqS x y with
  | some b => R (.bl (!b)) μ
  | none => False
theorem o_eqS : OpL X (compareOp .Eq) gEqS := ⟨_, op_eq, fun F H μ x y vx vy R Q s rx ry q k => by
  unfold gEqS at q
  split at q
  · rename_i b e
    obtain ⟨h1, h2⟩ := eqS_ok rx ry e
    exact ⟨h1, by rw [h2]; exact k F _ H _ μ (Step.refl s) (.bl b) q⟩
  · exact q.elim⟩
theorem o_neS : OpL X (compareOp .NotEq) gNeS := ⟨_, op_ne, fun F H μ x y vx vy R Q s rx ry q k => by
  unfold gNeS at q
  split at q
  · rename_i b e
    obtain ⟨h1, h2⟩ := eqS_ok rx ry e
    exact ⟨h1, by rw [h2]; exact k F _ H _ μ (Step.refl s) (.bl (!b)) q⟩
  · exact q.elim⟩
def isNonD : D → Bool
  | .non => true
  | _ => false
theorem isNon_ok {K : PySem.W.Frag} {F : Addr → Prop} {H : Hp} {x : D} {v : V} (r : Rp K F H x v) : decide (v = .non) = isNonD x := by
  cases r <;> rfl
def gIsN : G2 := fun x y μ R => match y with
  | .non => R (.bl (isNonD x)) μ
  | _ => False
def gNotN : G2 := fun x y μ R => match y with
  | .non => R (.bl (!isNonD x)) μ
  | _ => False
theorem o_isN : OpL X (compareOp .Is) gIsN := ⟨_, op_isN, fun F H μ x y vx vy R Q s rx ry q k => by
  cases ry <;> first | exact (show False from q).elim | skip
  exact ⟨rfl, by rw [isNon_ok rx]; exact k F _ H _ μ (Step.refl s) (.bl _) q⟩⟩
theorem o_notN : OpL X (compareOp .IsNot) gNotN := ⟨_, op_notN, fun F H μ x y vx vy R Q s rx ry q k => by
  cases ry <;> first | exact (show False from q).elim | skip
  exact ⟨rfl, by rw [isNon_ok rx]; exact k F _ H _ μ (Step.refl s) (.bl _) q⟩⟩
/-! ### in -/
/-- one sign in a text -/
def gInS : G2 := fun x y μ R => match x, y with
  | .str a, .str z => ∃ c, a = ⟨#[c]⟩ ∧ R (.bl (decide (c ∈ z.cps.toList))) μ
  | _, _ => False
def gNotInS : G2 := fun x y μ R => match x, y with
  | .str a, .str z => ∃ c, a = ⟨#[c]⟩ ∧ R (.bl (!decide (c ∈ z.cps.toList))) μ
  | _, _ => False
theorem o_inS : OpL X (compareOp .In) gInS := ⟨_, op_in_sign, fun F H μ x y vx vy R Q s rx ry q k => by
  cases rx <;> first | exact (show False from q).elim | skip
  cases ry <;> first | exact (show False from q).elim | skip
  obtain ⟨c, rfl, q⟩ := q
  exact ⟨c, _, rfl, rfl, k F _ H _ μ (Step.refl s) (.bl _) q⟩⟩
theorem o_notInS : OpL X (compareOp .NotIn) gNotInS := ⟨_, op_notIn_sign, fun F H μ x y vx vy R Q s rx ry q k => by
  cases rx <;> first | exact (show False from q).elim | skip
  cases ry <;> first | exact (show False from q).elim | skip
  obtain ⟨c, rfl, q⟩ := q
  exact ⟨c, _, rfl, rfl, k F _ H _ μ (Step.refl s) (.bl _) q⟩⟩
/-- flat things in a list or tuple of flat things -/
def flatD : D → Bool
  | .non => true | .bl _ => true | .int _ => true | .str _ => true
  | _ => false
def eqD : D → D → Bool
  | .non, .non => true
  | .bl a, .bl b => a == b
  | .bl a, .int b => (if a then 1 else 0) == b
  | .int a, .bl b => a == (if b then 1 else 0)
  | .int a, .int b => a == b
  | .str a, .str b => a == b
  | _, _ => false
def inD (x : D) (xs : List D) : Bool := xs.any fun y => eqD y x
theorem flat_ok {K : PySem.W.Frag} {F : Addr → Prop} {H : Hp} {x : D} {v : V} (r : Rp K F H x v) (h : flatD x = true) : flatV v = true := by
  cases r <;> first | rfl | cases h
theorem flats_ok {K : PySem.W.Frag} {F : Addr → Prop} {H : Hp} : ∀ {xs : List D} {vs : List V}, Rps K F H xs vs → xs.all flatD = true → vs.all flatV = true
  | _, _, .nil, _ => rfl
  | _, _, .cons r t, h => by
    rw [List.all_cons, Bool.and_eq_true] at h ⊢
    exact ⟨flat_ok r h.1, flats_ok t h.2⟩
theorem eqV_ok {K : PySem.W.Frag} {F : Addr → Prop} {H : Hp} {x y : D} {v u : V} (r : Rp K F H x v) (q : Rp K F H y u) (h : flatD x = true) (h' : flatD y = true) : eqV v u = eqD x y := by
  cases r <;> cases q <;> first | rfl | cases h | cases h'
theorem inV_ok {K : PySem.W.Frag} {F : Addr → Prop} {H : Hp} {x : D} {v : V} (r : Rp K F H x v) (h : flatD x = true) : ∀ {xs : List D} {vs : List V}, Rps K F H xs vs → xs.all flatD = true → inV v vs = inD x xs
  | _, _, .nil, _ => rfl
  | _, _, .cons q t, h' => by
    rw [List.all_cons, Bool.and_eq_true] at h'
    have ih := inV_ok r h t h'.2
    unfold inV inD at ih ⊢
    rw [List.any_cons, List.any_cons, eqV_ok q r h'.1 h, ih]
def gInL (neg : Bool) : G2 := fun x y μ R => match seqOf μ y with
  | some xs => flatD x = true ∧ xs.all flatD = true ∧ R (.bl (if neg then !inD x xs else inD x xs)) μ
  | none => False
theorem inL_ok {K : PySem.W.Frag} {neg : Bool} {F : Addr → Prop} {H : Hp} {μ : Mu} {x y : D} {vx vy : V} {R : DK} {Q : VK} (s : Sim K F H μ) (rx : Rp K F H x vx) (ry : Rp K F H y vy) (q : gInL neg x y μ R)
    (k : ∀ F' v H' z μ', Step K F H μ F' H' μ' → Rp K F' H' z v → R z μ' → Q v H') : rIn K neg vx vy H Q := by
  unfold gInL at q
  split at q
  · rename_i xs e
    obtain ⟨p, vs, rfl, sq, rs⟩ := seq_of s ry e
    obtain ⟨h1, h2, q⟩ := q
    refine ⟨p, vs, rfl, sq, flat_ok rx h1, flats_ok rs h2, ?_⟩
    rw [inV_ok rx h1 rs h2]
    exact k F _ H _ μ (Step.refl s) (.bl _) q
  · exact q.elim
theorem o_inL : OpL X (compareOp .In) (gInL false) := ⟨_, op_in_seq, fun F H μ x y vx vy R Q s rx ry q k => inL_ok s rx ry q k⟩
theorem o_notInL : OpL X (compareOp .NotIn) (gInL true) := ⟨_, op_notIn_seq, fun F H μ x y vx vy R Q s rx ry q k => inL_ok s rx ry q k⟩
/-! ### subscripts and slices -/
variable {e a b o i v : Expr} {es : List Expr} {ta tb te to ti tv : TE3} {tr : TA3} {pos : Pos} {x : Str}
def gIx : G2 := fun x y μ R => match x, y with
  | .str z, .int i => ∃ c, z.length ≤ sizeLine ∧ atI z.cps.toList i = some c ∧ R (.str ⟨#[c]⟩) μ
  | x, .int i => ∃ xs d, seqOf μ x = some xs ∧ atI xs i = some d ∧ R d μ
  | _, _ => False
theorem atI_rel {K : PySem.W.Frag} {F : Addr → Prop} {H : Hp} {xs : List D} {vs : List V} {i : Int} {d : D} (r : Rps K F H xs vs) (h : atI xs i = some d) : ∃ v, atI vs i = some v ∧ Rp K F H d v := by
  unfold atI at h ⊢
  rw [← r.length]
  cases e : ixN xs.length i with
  | none => rw [e] at h; cases h
  | some j => rw [e] at h; exact r.get h
theorem ix_ok {K : PySem.W.Frag} : ∀ F H μ x y vx vy R Q, Sim K F H μ → Rp K F H x vx → Rp K F H y vy → gIx x y μ R →
    (∀ F' v H' z μ', Step K F H μ F' H' μ' → Rp K F' H' z v → R z μ' → Q v H') → rIx K vx vy H Q := by
  intro F H μ x y vx vy R Q s rx ry q k
  unfold gIx at q
  split at q
  · cases rx
    cases ry
    obtain ⟨c, h1, h2, q⟩ := q
    exact .inr (.inr ⟨_, _, c, rfl, rfl, h1, h2, k F _ H _ μ (Step.refl s) (.str _) q⟩)
  · cases ry
    obtain ⟨xs, d, e, h, q⟩ := q
    obtain ⟨p, vs, rfl, sq, rs⟩ := seq_of s rx e
    obtain ⟨v, e2, r2⟩ := atI_rel rs h
    rcases sq with sq | sq
    · exact .inl ⟨p, vs, _, v, rfl, rfl, sq, e2, k F _ H _ μ (Step.refl s) r2 q⟩
    · exact .inr (.inl ⟨p, vs, _, v, rfl, rfl, sq, e2, k F _ H _ μ (Step.refl s) r2 q⟩)
  · exact q.elim
theorem e_ix (ha : E3 X a ta) (hb : E3 X b tb) (hs : PlainIx b := by exact fun _ _ => rfl) : E3 X (.Subscript a b pos) (vOp gIx ta tb) := (pe_ix ix_seq ha hb hs).imp fun _ _ _ h => low_op ix_ok h
abbrev TO3 := St3 → Mu → (Option Int → Mu → Prop) → Prop
def lowO (K : PySem.W.Frag) (t : TO3) : TO := fun σ H Q => ∃ (F : Addr → Prop) (δ : St3) (μ : Mu) (R : Option Int → Mu → Prop), Sim K F H μ ∧ Sl K F H σ δ ∧ t δ μ R ∧
  ∀ F' b H' μ', Step K F H μ F' H' μ' → R b μ' → Q b H'
def O3 (X : Cx) (e : Option Expr) (t : TO3) : Prop := PO X e (lowO X.K t)
theorem _root_.L2.PO.imp {X : Cx} {e : Option Expr} {t t' : TO} (h : PO X e t) (i : ∀ σ H Q, t' σ H Q → t σ H Q) : PO X e t' := ⟨fun pins s σ H Q I q => h.run pins s σ H Q I (i _ _ _ q)⟩
def vNoP : TO3 := fun _ μ R => R none μ
def vPart (t : TE3) : TO3 := fun δ μ R => t δ μ fun x μ1 => match x with
  | .int i => R (some i) μ1
  | _ => False
theorem p_none : O3 X none vNoP := po_none.imp fun σ H Q h => by
  obtain ⟨F, δ, μ, R, s, sl, h, k⟩ := h
  exact k F none H μ (Step.refl s) h
theorem p_some (he : E3 X e te) : O3 X (some e) (vPart te) := (po_some he).imp fun σ H Q h => by
  obtain ⟨F, δ, μ, R, s, sl, h, k⟩ := h
  refine ⟨F, δ, μ, _, s, sl, h, fun F1 v H1 d μ1 g r1 q1 => ?_⟩
  cases r1 <;> first | exact (show False from q1).elim | skip
  exact ⟨_, rfl, k F1 _ H1 μ1 g q1⟩
def cutD (xs : List D) (lo hi : Option Int) : List D := (xs.drop (HT.sIx xs.length 0 lo)).take (HT.sIx xs.length xs.length hi - HT.sIx xs.length 0 lo)
theorem cut_rel {K : PySem.W.Frag} {F : Addr → Prop} {H : Hp} {xs : List D} {vs : List V} (r : Rps K F H xs vs) (lo hi : Option Int) : Rps K F H (cutD xs lo hi) (cutV vs lo hi) := by
  unfold cutD cutV
  rw [r.length]
  exact (r.drop _).take _
def gSl : D → Option Int → Option Int → Mu → DK → Prop := fun x lo hi μ R => match x with
  | .str z => z.length ≤ sizeLine ∧ R (.str (cutS z lo hi)) μ
  | .tup xs => if HT.sIx xs.length 0 lo = 0 ∧ HT.sIx xs.length xs.length hi = xs.length then False else R (.tup (cutD xs lo hi)) μ
  | x => ∃ xs, rdL μ x = some xs ∧ R (.lst (cutD xs lo hi)) μ
def vSl (te : TE3) (tl th : TO3) : TE3 := fun δ μ R => te δ μ fun x μ1 => tl δ μ1 fun l μ2 => th δ μ2 fun h μ3 => gSl x l h μ3 R
theorem e_slice {lo hi : Option Expr} {p2 : Pos} {tl th : TO3} (he : E3 X e te) (hl : O3 X lo tl) (hh : O3 X hi th) : E3 X (.Subscript e (.Slice lo hi none p2) pos) (vSl te tl th) := (pe_slice ((sl_list.or sl_tup).or sl_str) he hl hh).imp fun σ H Q h => by
  obtain ⟨F, δ, μ, R, s, sl, h, k⟩ := h
  refine ⟨F, δ, μ, _, s, sl, h, fun F1 v H1 d μ1 g r1 q1 => ⟨F1, δ, μ1, _, g.sim, sl.st g, q1, fun F2 l H2 μ2 g2 q2 => ⟨F2, δ, μ2, _, g2.sim, sl.st (g.trans g2), q2, fun F3 u H3 μ3 g3 q3 => ?_⟩⟩⟩
  have r3 := r1.st (g2.trans g3)
  have kk : ∀ F' v H' d μ', Step X.K F3 H3 μ3 F' H' μ' → Rp X.K F' H' d v → R d μ' → Q v H' := fun F' v H' d μ' g' => k F' v H' d μ' (((g.trans g2).trans g3).trans g')
  unfold gSl at q3
  split at q3
  · cases r3
    exact .inr ⟨_, rfl, q3.1, kk F3 _ H3 _ μ3 (Step.refl g3.sim) (.str _) q3.2⟩
  · cases r3 with
    | @tup xs vs a f e rs =>
      split at q3
      · exact q3.elim
      · rename_i hn
        refine .inl (.inr ⟨_, _, rfl, SqT.of e, by rw [← rs.length]; exact hn, fun p hp => ?_⟩)
        have g' := g3.sim.frzS (o := .tup (cutV vs l u)) hp
        exact kk _ _ _ _ μ3 g' (.tup (.inr rfl) upd_same ((cut_rel rs l u).st g')) q3
  · rename_i hns hnt
    obtain ⟨xs, e, q3⟩ := q3
    obtain ⟨p, vs, ev, sq, rs⟩ := rdl_of g3.sim r3 e
    subst ev
    refine .inl (.inl ⟨p, vs, rfl, sq, fun p' hp => ?_⟩)
    have g' := g3.sim.frzS (o := .lst (cutV vs l u)) hp
    exact kk _ _ _ _ μ3 g' (.lst (.inr rfl) upd_same ((cut_rel rs l u).st g')) q3
end
end L3

namespace L3
open PySem PySem.Spec L2
section
variable {X : Cx} {e a b c o i v : Expr} {es : List Expr} {ta tb tc te to ti tv : TE3} {tr : TA3} {pos p apos cpos : Pos} {x : Str}
/-! ### len, isinstance, min, max, all, any, sum -/
def gLen : GA := fun ds μ R => match ds with
  | [.str z] => z.length ≤ sizeLine ∧ R (.int z.length) μ
  | [x] => ∃ xs, seqOf μ x = some xs ∧ R (.int xs.length) μ
  | _ => False
theorem c_len : CallL X (.builtin "len") gLen := ⟨_, call_len, fun F H μ ds vs R Q s rs q k => by
  cases rs with
  | nil => exact (show False from q).elim
  | @cons d v ds vs r t =>
    cases t with
    | cons _ _ => cases d <;> exact (show False from q).elim
    | nil =>
      refine ⟨v, ?_⟩
      cases r with
      | str z => exact ⟨_, rfl, ⟨q.1, rfl⟩, k F _ H _ μ (Step.refl s) (.int _) q.2⟩
      | lst f e rr =>
        obtain ⟨xs, e1, q⟩ := q
        cases e1
        exact ⟨_, rfl, .inl ⟨_, SqL.of e, rfl⟩, k F _ H _ μ (Step.refl s) (by rw [rr.length]; exact .int _) q⟩
      | scr f rr =>
        obtain ⟨xs, e1, q⟩ := q
        cases e1
        exact ⟨_, rfl, .inl ⟨_, f.sq, rfl⟩, k F _ H _ μ (Step.refl s) (by rw [rr.length]; exact .int _) q⟩
      | tup f e rr =>
        obtain ⟨xs, e1, q⟩ := q
        cases e1
        exact ⟨_, rfl, .inr ⟨_, SqT.of e, rfl⟩, k F _ H _ μ (Step.refl s) (by rw [rr.length]; exact .int _) q⟩
      | ref a =>
        obtain ⟨xs, e1, q⟩ := q
        obtain ⟨p, vs, e2, sq, rr⟩ := seq_of (x := .ref a) s (.ref a) e1
        cases e2
        refine ⟨xs.length, rfl, ?_, k F _ H _ μ (Step.refl s) (.int _) q⟩
        rcases sq with sq | sq
        · exact .inl ⟨vs, sq, rr.length⟩
        · exact .inr ⟨vs, sq, rr.length⟩
      | _ => obtain ⟨xs, e1, q⟩ := q; cases e1⟩
/-- the built-in type of a thing -/
def tyD (μ : Mu) : D → Option String
  | .non => some "NoneType" | .bl _ => some "bool" | .int _ => some "int" | .str _ => some "str"
  | .tup _ => some "tuple" | .lst _ => some "list" | .dct _ => some "dict"
  | .ref a => match μ a with
    | some (.lst _) => some "list"
    | some (.dct _) => some "dict"
    | _ => none
  | _ => none
theorem tyD_ok {K : PySem.W.Frag} {F : Addr → Prop} {H : Hp} {μ : Mu} {x : D} {v : V} {n : String} (s : Sim K F H μ) (r : Rp K F H x v) (h : tyD μ x = some n) : TyX K H v (.type n) := by
  cases r with
  | non => cases h; exact .base .non
  | bl b => cases h; exact .base (.bl b)
  | int i => cases h; exact .base (.int i)
  | str z => cases h; exact .base (.str z)
  | tup f e rs => cases h; exact .base (.tup e)
  | lst f e rs => cases h; exact .base (.lst e)
  | dct f e rs =>
    cases h
    rcases e with e | ⟨o, e⟩
    · exact .base (.dK e)
    · exact .fDict e
  | ref a =>
    have h' : (match μ a with
      | some (.lst _) => some "list"
      | some (.dct _) => some "dict"
      | _ => none) = some n := h
    split at h'
    · rename_i xs e2
      cases h'
      obtain ⟨_, vs, e3, rs⟩ := s.obj _ _ e2
      exact .base (.lst e3)
    · rename_i xs e2
      cases h'
      obtain ⟨_, vs, e3, rs⟩ := s.obj _ _ e2
      exact .base (.dK e3)
    · cases h'
  | _ => cases h
def gIsi : GA := fun ds μ R => match ds with
  | [x, .ty m] => ∃ n b, tyD μ x = some n ∧ kitB n m = some b ∧ R (.bl b) μ
  | _ => False
theorem c_isi : CallL X (.builtin "isinstance") gIsi := ⟨_, call_isi, fun F H μ ds vs R Q s rs q k => by
  unfold gIsi at q
  split at q
  · rename_i x m
    obtain ⟨n, b, e1, e2, q⟩ := q
    cases rs with
    | cons r1 t =>
      cases t with
      | cons r2 t =>
        cases t
        cases r2
        exact ⟨_, _, .type n, .type m, b, rfl, .ty m, tyD_ok s r1 e1, kit_ty e2, k F _ H _ μ (Step.refl s) (.bl b) q⟩
  · exact q.elim⟩
def gMax2 : GA := fun ds μ R => match ds with
  | [.int i, .int j] => R (.int (max i j)) μ
  | _ => False
def gMin2 : GA := fun ds μ R => match ds with
  | [.int i, .int j] => R (.int (min i j)) μ
  | _ => False
theorem c_max2 (hc : X.calm = true) : CallL X (.builtin "max") gMax2 := ⟨_, call_max2 hc, fun F H μ ds vs R Q s rs q k => by
  unfold gMax2 at q
  split at q
  · rename_i i j
    cases rs with
    | cons r1 t => cases t with
      | cons r2 t =>
        cases t; cases r1; cases r2
        refine ⟨i, j, rfl, ?_⟩
        have e : (if j > i then j else i) = max i j := by split <;> omega
        rw [e]
        exact k F _ H _ μ (Step.refl s) (.int _) q
  · exact q.elim⟩
theorem c_min2 (hc : X.calm = true) : CallL X (.builtin "min") gMin2 := ⟨_, call_min2 hc, fun F H μ ds vs R Q s rs q k => by
  unfold gMin2 at q
  split at q
  · rename_i i j
    cases rs with
    | cons r1 t => cases t with
      | cons r2 t =>
        cases t; cases r1; cases r2
        refine ⟨i, j, rfl, ?_⟩
        have e : (if j < i then j else i) = min i j := by split <;> omega
        rw [e]
        exact k F _ H _ μ (Step.refl s) (.int _) q
  · exact q.elim⟩
theorem rps_map {α : Type} {K : PySem.W.Frag} {F : Addr → Prop} {H : Hp} {f : α → D} {g : α → V} (hf : ∀ a v, Rp K F H (f a) v → v = g a) : ∀ {xs : List α} {vs : List V}, Rps K F H (xs.map f) vs → vs = xs.map g
  | [], _, .nil => rfl
  | a :: r, _, .cons h t => by rw [List.map_cons, hf a _ h, rps_map hf t]
def gAll : GA := fun ds μ R => ∃ (x : D) (bs : List Bool), ds = [x] ∧ rdL μ x = some (bs.map D.bl) ∧ R (.bl (bs.all id)) μ
def gAny : GA := fun ds μ R => ∃ (x : D) (bs : List Bool), ds = [x] ∧ rdL μ x = some (bs.map D.bl) ∧ R (.bl (bs.any id)) μ
def gSum : GA := fun ds μ R => ∃ (x : D) (bs : List Int), ds = [x] ∧ rdL μ x = some (bs.map D.int) ∧ R (.int (bs.sum)) μ
theorem one_of {K : PySem.W.Frag} {F : Addr → Prop} {H : Hp} {x : D} {vs : List V} (h : Rps K F H [x] vs) : ∃ v, vs = [v] ∧ Rp K F H x v := by
  cases h with
  | cons r t => cases t; exact ⟨_, rfl, r⟩
theorem c_all (hc : X.calm = true) : CallL X (.builtin "all") gAll := ⟨_, cr_all hc, fun F H μ ds vs R Q s rs q k => by
  obtain ⟨x, bs, rfl, e, q⟩ := q
  obtain ⟨v, rfl, r⟩ := one_of rs
  obtain ⟨p, us, rfl, sq, rr⟩ := rdl_of s r e
  obtain rfl := rps_map (g := V.bl) (fun a v h => by cases h; rfl) rr
  exact ⟨p, bs, rfl, sq, k F _ H _ μ (Step.refl s) (.bl _) q⟩⟩
theorem c_any (hc : X.calm = true) : CallL X (.builtin "any") gAny := ⟨_, cr_any hc, fun F H μ ds vs R Q s rs q k => by
  obtain ⟨x, bs, rfl, e, q⟩ := q
  obtain ⟨v, rfl, r⟩ := one_of rs
  obtain ⟨p, us, rfl, sq, rr⟩ := rdl_of s r e
  obtain rfl := rps_map (g := V.bl) (fun a v h => by cases h; rfl) rr
  exact ⟨p, bs, rfl, sq, k F _ H _ μ (Step.refl s) (.bl _) q⟩⟩
theorem c_sum (hc : X.calm = true) : CallL X (.builtin "sum") gSum := ⟨_, cr_sum hc, fun F H μ ds vs R Q s rs q k => by
  obtain ⟨x, bs, rfl, e, q⟩ := q
  obtain ⟨v, rfl, r⟩ := one_of rs
  obtain ⟨p, us, rfl, sq, rr⟩ := rdl_of s r e
  obtain rfl := rps_map (g := V.int) (fun a v h => by cases h; rfl) rr
  exact ⟨p, bs, rfl, sq, k F _ H _ μ (Step.refl s) (.int _) q⟩⟩
/-- list(x): a frozen copy; tracked -/
def gList : GA := fun ds μ R => ∃ x xs, ds = [x] ∧ seqOf μ x = some xs ∧ R (.lst xs) μ
def gListT : GA := fun ds μ R => ∃ x xs, ds = [x] ∧ seqOf μ x = some xs ∧ ∀ q, μ q = none → R (.ref q) (mset μ q (.lst xs))
theorem c_list : CallL X (.type "list") gList := ⟨_, call_list_of, fun F H μ ds vs R Q s rs q k => by
  obtain ⟨x, xs, rfl, e, q⟩ := q
  obtain ⟨v, rfl, r⟩ := one_of rs
  obtain ⟨p, us, rfl, sq, rr⟩ := seq_of s r e
  refine ⟨p, us, rfl, sq, fun l hl => ?_⟩
  have g := s.frzS (o := .lst us) hl
  exact k _ _ _ _ μ g (.lst (.inr rfl) upd_same (rr.st g)) q⟩
theorem c_listT : CallL X (.type "list") gListT := ⟨_, call_list_of, fun F H μ ds vs R Q s rs q k => by
  obtain ⟨x, xs, rfl, e, q⟩ := q
  obtain ⟨v, rfl, r⟩ := one_of rs
  obtain ⟨p, us, rfl, sq, rr⟩ := seq_of s r e
  refine ⟨p, us, rfl, sq, fun l hl => ?_⟩
  have g := s.trkS (o := .lst us) (m := .lst xs) hl fun g' e => ⟨us, e, rr.grow g'⟩
  exact k _ _ _ _ _ g (.ref l) (q l (s.free hl))⟩
/-! ### methods of built-in types -/
abbrev GM := D → List D → Mu → DK → Prop
def MtL (X : Cx) (id : String) (T : String) (G : GM) : Prop := ∃ r, MtR X id r ∧ ∀ F H μ x ds vx vs R Q, Sim X.K F H μ → Rp X.K F H x vx → Rps X.K F H ds vs → G x ds μ R →
  (∀ F' v H' z μ', Step X.K F H μ F' H' μ' → Rp X.K F' H' z v → R z μ' → Q v H') → r vx vs H Q
/-- a value's type lets the method be found -/
def tyM (T : String) (μ : Mu) (x : D) : Prop := match x with
  | .str _ => T = "str"
  | .lst _ => T = "list"
  | .scr _ => T = "list"
  | .ref a => (T = "list" ∧ ∃ xs, μ a = some (.lst xs)) ∨ (T = "dict" ∧ ∃ kvs, μ a = some (.dct kvs))
  | _ => False
theorem tyM_ok {K : PySem.W.Frag} {F : Addr → Prop} {H : Hp} {μ : Mu} {x : D} {v : V} {T : String} (s : Sim K F H μ) (r : Rp K F H x v) (h : tyM T μ x) : tyV K T v H := by
  cases r with
  | str z => exact h
  | lst f e rs => exact .inl ⟨h, _, SqL.of e⟩
  | scr f rs => exact .inl ⟨h, _, f.sq⟩
  | ref a =>
    rcases h with ⟨e, xs, h⟩ | ⟨e, xs, h⟩
    · obtain ⟨_, vs, e3, rs⟩ := s.obj _ _ h
      exact .inl ⟨e, _, SqL.of e3⟩
    · obtain ⟨_, vs, e3, rs⟩ := s.obj _ _ h
      exact .inr (.inr (.inl ⟨e, .inl ⟨_, e3⟩⟩))
  | _ => exact (show False from h).elim
def vBM0 (T : String) (G : GM) (to : TE3) : TE3 := fun δ μ R => to δ μ fun x μ1 => tyM T μ1 x ∧ G x [] μ1 R
def vBM (T : String) (G : GM) (to : TE3) (tr : TA3) : TE3 := fun δ μ R => to δ μ fun x μ1 => tyM T μ1 x ∧ tr δ μ1 fun ds μ2 => G x ds μ2 R
theorem e_bm0 {name : Str} {T id : String} {G : GM} (pa : PlainAttrs T) (slot : Slot T name id) (hty : typeOf (.builtin id) = pure (.type "method_descriptor")) (hm : MtL X id T G) (ho : E3 X o to)
    (hbase : attributeBase o name X.env (eval o X.env) = eval o X.env := by rfl) (hline : (apos.endLine == cpos.line) = true := by rfl) : E3 X (.Call (.Attribute o name apos) [] [] cpos) (vBM0 T G to) := by
  obtain ⟨r, hr, l⟩ := hm
  refine (pe_bm0 pa slot hty hr ho hbase hline).imp fun σ H Q h => ?_
  obtain ⟨F, δ, μ, R, s, sl, h, k⟩ := h
  exact ⟨F, δ, μ, _, s, sl, h, fun F1 v H1 d μ1 g r1 q1 => ⟨tyM_ok g.sim r1 q1.1, l F1 H1 μ1 d [] v [] R Q g.sim r1 .nil q1.2 fun F2 v H2 d μ2 g2 r2 q2 => k F2 v H2 d μ2 (g.trans g2) r2 q2⟩⟩
theorem e_bm {name : Str} {T id : String} {G : GM} (pa : PlainAttrs T) (slot : Slot T name id) (hty : typeOf (.builtin id) = pure (.type "method_descriptor")) (hm : MtL X id T G) (ho : E3 X o to) (ha : A3 X (e :: es) tr)
    (hbase : attributeBase o name X.env (eval o X.env) = eval o X.env := by rfl)
    (hfew : ((backTo cpos (starEach (e :: es) X.env)).all (fun x => !x.1) && (backToKw cpos (keywordEach [] X.env)).all (fun x => x.1.isSome)
      && decide ((e :: es).length + ([] : List Keyword).length + (if ([] : List Keyword).isEmpty then 0 else 1) < 30)) = true := by rfl)
    (hline : (apos.endLine == cpos.line) = true := by rfl) (hs : starEach (e :: es) X.env = (false, eval e X.env) :: starEach es X.env := by rfl) (hplain : (backTo cpos (starEach es X.env)).any (·.1) = false := by rfl) :
    E3 X (.Call (.Attribute o name apos) (e :: es) [] cpos) (vBM T G to tr) := by
  obtain ⟨r, hr, l⟩ := hm
  refine (pe_bm pa slot hty hr ho ha hbase hfew hline hs hplain).imp fun σ H Q h => ?_
  obtain ⟨F, δ, μ, R, s, sl, h, k⟩ := h
  exact ⟨F, δ, μ, _, s, sl, h, fun F1 v H1 d μ1 g r1 q1 => ⟨tyM_ok g.sim r1 q1.1, F1, δ, μ1, _, g.sim, sl.st g, q1.2, fun F2 vs H2 ds μ2 g2 r2 q2 => l F2 H2 μ2 d ds v vs R Q g2.sim (r1.st g2) r2 q2 fun F3 v H3 d μ3 g3 r3 q3 => k F3 v H3 d μ3 ((g.trans g2).trans g3) r3 q3⟩⟩
def gApp : GM := fun x ds μ R => ∃ a xs d, x = .ref a ∧ ds = [d] ∧ μ a = some (.lst xs) ∧ xs.length < sizeLine ∧ R .non (mset μ a (.lst (xs ++ [d])))
theorem m_append : MtL X "list.append" "list" gApp := ⟨_, mt_append, fun F H μ x ds vx vs R Q s rx rs q k => by
  obtain ⟨a, xs, d, rfl, rfl, e, hz, q⟩ := q
  obtain ⟨v, rfl, r⟩ := one_of rs
  cases rx
  obtain ⟨_, us, e3, rr⟩ := s.obj _ _ e
  refine ⟨a, us, v, rfl, rfl, e3, by rw [← rr.length]; exact hz, ?_⟩
  have g := s.putS (o := .lst (us ++ [v])) (m := .lst (xs ++ [d])) e fun g' e' => ⟨_, e', (rr.grow g').append (.cons (r.grow g') .nil)⟩
  exact k _ _ _ _ _ g .non q⟩
def gPop : GM := fun x ds μ R => ∃ a xs d, x = .ref a ∧ ds = [] ∧ μ a = some (.lst xs) ∧ xs[xs.length - 1]? = some d ∧ R d (mset μ a (.lst xs.dropLast))
theorem m_pop : MtL X "list.pop" "list" gPop := ⟨_, mt_pop, fun F H μ x ds vx vs R Q s rx rs q k => by
  obtain ⟨a, xs, d, rfl, rfl, e, hz, q⟩ := q
  cases rs
  cases rx
  obtain ⟨_, us, e3, rr⟩ := s.obj _ _ e
  obtain ⟨v, ev, r⟩ := rr.get hz
  refine ⟨a, us, v, rfl, rfl, e3, by rw [← rr.length]; exact ev, ?_⟩
  have g := s.putS (o := .lst us.dropLast) (m := .lst xs.dropLast) e fun g' e' => ⟨_, e', (rr.grow g').dropLast⟩
  exact k _ _ _ _ _ g (r.st g) q⟩
def gExt : GM := fun x ds μ R => ∃ a xs y ys, x = .ref a ∧ ds = [y] ∧ μ a = some (.lst xs) ∧ lstOf μ y = some ys ∧ xs.length + ys.length ≤ sizeLine ∧ R .non (mset μ a (.lst (xs ++ ys)))
theorem m_extend : MtL X "list.extend" "list" gExt := ⟨_, mt_extend, fun F H μ x ds vx vs R Q s rx rs q k => by
  obtain ⟨a, xs, y, ys, rfl, rfl, e, ey, hz, q⟩ := q
  obtain ⟨v, rfl, r⟩ := one_of rs
  cases rx
  obtain ⟨_, us, e3, rr⟩ := s.obj _ _ e
  obtain ⟨p, ws, rfl, e4, r4⟩ := lst_of s r ey
  refine ⟨a, p, us, ws, rfl, rfl, e3, e4, by rw [← rr.length, ← r4.length]; exact hz, ?_⟩
  have g := s.putS (o := .lst (us ++ ws)) (m := .lst (xs ++ ys)) e fun g' e' => ⟨_, e', (rr.grow g').append (r4.grow g')⟩
  exact k _ _ _ _ _ g .non q⟩
/-- sep.join(xs) -/
def gJoin : GM := fun x ds μ R => ∃ (a : Str) (y : D) (ys : List Str), x = .str a ∧ ds = [y] ∧ seqOf μ y = some (ys.map D.str) ∧ (ys.map (·.length)).sum + ys.length * a.length ≤ 16777216 ∧ R (.str (Txt.join a ys)) μ
theorem m_join : MtL X "str.join" "str" gJoin := ⟨_, mt_join, fun F H μ x ds vx vs R Q s rx rs q k => by
  obtain ⟨a, y, ys, rfl, rfl, e, hz, q⟩ := q
  obtain ⟨v, rfl, r⟩ := one_of rs
  cases rx
  obtain ⟨p, us, rfl, sq, rr⟩ := seq_of s r e
  obtain rfl := rps_map (g := V.str) (fun a v h => by cases h; rfl) rr
  exact ⟨a, p, ys, rfl, rfl, sq, hz, k F _ H _ μ (Step.refl s) (.str _) q⟩⟩
/-! ### o[i] = v -/
def StL (X : Cx) (G : D → D → D → Mu → (Mu → Prop) → Prop) : Prop := ∃ t, PSet X t ∧ ∀ F H μ o i v vo vi vv R Q, Sim X.K F H μ → Rp X.K F H o vo → Rp X.K F H i vi → Rp X.K F H v vv → G o i v μ R →
  (∀ F' H' μ', Step X.K F H μ F' H' μ' → R μ' → Q H') → t vo vi vv H Q
def sSub (G : D → D → D → Mu → (Mu → Prop) → Prop) (te to ti : TE3) : TS3 := fun D δ μ => te δ μ fun v μ1 => to δ μ1 fun o μ2 => ti δ μ2 fun i μ3 => G o i v μ3 fun μ4 => D.nx δ μ4
theorem s_sub {G : D → D → D → Mu → (Mu → Prop) → Prop} {pos' : Pos} (hS : StL X G) (he : E3 X e te) (ho : E3 X o to) (hi : E3 X i ti)
    (ha : ∀ v, assign (.Subscript o i pos') X.env v = (do
      let ov ← holding [v] (eval o X.env)
      let iv ← holding [v, ov] (eval i X.env)
      standAt pos'
      holding [v, ov, iv] (setItem ov iv v)
      release [v, ov, iv] []) := by intro _; rfl)
    (hs : swapsWithSole [.Subscript o i pos'] e pos.line X.env = pure false := by rfl) (hw : swappedStores [.Subscript o i pos'] e X.env = pure none := by rfl)
    (h1 : (assignEach [.Subscript o i pos'] X.env).map (·.2) = [assign (.Subscript o i pos') X.env] := by rfl) : S3 X (.Assign [.Subscript o i pos'] e pos) (sSub G te to ti) := by
  obtain ⟨t, ht, l⟩ := hS
  refine (ps_asg he (pg_sub ho hi ht ha) hs hw h1).imp fun D σ H h => ?_
  obtain ⟨F, δ, μ, D3, s, sl, h, k⟩ := h
  refine ⟨F, δ, μ, _, s, sl, h, fun F1 v H1 d μ1 g r1 q1 => ?_⟩
  refine ⟨F1, δ, μ1, _, g.sim, sl.st g, q1, fun F2 ov H2 od μ2 g2 r2 q2 => ?_⟩
  refine ⟨F2, δ, μ2, _, g2.sim, sl.st (g.trans g2), q2, fun F3 iv H3 id μ3 g3 r3 q3 => ?_⟩
  exact l F3 H3 μ3 od id d ov iv v _ _ g3.sim (r2.st g3) r3 (r1.st (g2.trans g3)) q3 fun F4 H4 μ4 g4 q4 => k.nx F4 σ H4 δ μ4 (((g.trans g2).trans g3).trans g4) (sl.st (((g.trans g2).trans g3).trans g4)) q4
def gSetL : D → D → D → Mu → (Mu → Prop) → Prop := fun o i v μ R => ∃ a xs k j, o = .ref a ∧ i = .int k ∧ μ a = some (.lst xs) ∧ ixN xs.length k = some j ∧ R (mset μ a (.lst (xs.set j v)))
theorem st_list : StL X gSetL := ⟨_, set_list, fun F H μ o i v vo vi vv R Q s ro ri rv q k => by
  obtain ⟨a, xs, n, j, rfl, rfl, e, hj, q⟩ := q
  cases ro
  cases ri
  obtain ⟨_, us, e3, rr⟩ := s.obj _ _ e
  refine ⟨a, us, n, j, rfl, rfl, e3, by rw [← rr.length]; exact hj, ?_⟩
  have g := s.putS (o := .lst (us.set j vv)) (m := .lst (xs.set j v)) e fun g' e' => ⟨_, e', (rr.grow g').set (rv.grow g') j⟩
  exact k _ _ _ g q⟩
/-! ### what is walked -/
def PIor {tg iter : Expr} {t u : TI} (h : PI X tg iter t) (h' : PI X tg iter u) : PI X tg iter (fun σ H R => t σ H R ∨ u σ H R) := ⟨fun pins s σ H R I q => q.elim (h.run pins s σ H R I) (h'.run pins s σ H R I)⟩
def iSeq (te : TE3) : TI3 := fun δ μ R => te δ μ fun d μ1 => match d with
  | .lst xs => R xs (fun _ => True) μ1
  | .scr xs => R xs (fun _ => True) μ1
  | .tup xs => R xs (fun _ => True) μ1
  | .ref a => ∃ xs, μ1 a = some (.lst xs) ∧ R xs (fun μ => μ a = some (.lst xs)) μ1
  | _ => False
theorem itl_ok {K : PySem.W.Frag} {F : Addr → Prop} {H : Hp} {μ : Mu} {ds : List D} {Pm : Mu → Prop} {a : Addr} (h : ∀ F1 H1 μ1, Step K F H μ F1 H1 μ1 → Pm μ1 → ∃ vs, SqL K H1 a vs ∧ Rps K F1 H1 ds vs) : ItOk K F H μ ds Pm (Itl K a) := by
  refine ⟨fun F1 H1 μ1 i g hp hi => ?_, fun F1 H1 μ1 g hp => ?_, fun F1 H1 μ1 i x H2 g hp hy hi => ?_⟩
  · obtain ⟨vs, sq, rs⟩ := h F1 H1 μ1 g hp
    obtain ⟨v, ev, _⟩ := rs.get (List.getElem?_eq_getElem hi)
    exact ⟨vs, v, sq, ev⟩
  · obtain ⟨vs, sq, rs⟩ := h F1 H1 μ1 g hp
    exact ⟨vs, sq, by rw [rs.length]; exact Nat.le_refl _⟩
  · obtain ⟨vs, sq, rs⟩ := h F1 H1 μ1 g hp
    obtain ⟨rfl, hy⟩ := hy
    obtain ⟨d, ed, rd⟩ := rs.back (hy vs sq)
    exact ⟨F1, d, Step.refl g.sim, ed, rd⟩
theorem itt_ok {K : PySem.W.Frag} {F : Addr → Prop} {H : Hp} {μ : Mu} {ds : List D} {Pm : Mu → Prop} {a : Addr} (h : ∀ F1 H1 μ1, Step K F H μ F1 H1 μ1 → Pm μ1 → ∃ vs, SqT K H1 a vs ∧ Rps K F1 H1 ds vs) : ItOk K F H μ ds Pm (Itt K a) := by
  refine ⟨fun F1 H1 μ1 i g hp hi => ?_, fun F1 H1 μ1 g hp => ?_, fun F1 H1 μ1 i x H2 g hp hy hi => ?_⟩
  · obtain ⟨vs, sq, rs⟩ := h F1 H1 μ1 g hp
    obtain ⟨v, ev, _⟩ := rs.get (List.getElem?_eq_getElem hi)
    exact ⟨vs, v, sq, ev⟩
  · obtain ⟨vs, sq, rs⟩ := h F1 H1 μ1 g hp
    exact ⟨vs, sq, by rw [rs.length]; exact Nat.le_refl _⟩
  · obtain ⟨vs, sq, rs⟩ := h F1 H1 μ1 g hp
    obtain ⟨rfl, hy⟩ := hy
    obtain ⟨d, ed, rd⟩ := rs.back (hy vs sq)
    exact ⟨F1, d, Step.refl g.sim, ed, rd⟩
theorem lst_at {K : PySem.W.Frag} {F F1 : Addr → Prop} {H H1 : Hp} {μ μ1 : Mu} {a : Addr} {ds : List D} (r : Rp K F H (.lst ds) (.ref a)) (g : Step K F H μ F1 H1 μ1) : ∃ vs, SqL K H1 a vs ∧ Rps K F1 H1 ds vs := by
  have r' := r.st g
  cases r' with
  | lst f e rs => exact ⟨_, SqL.of e, rs⟩
theorem scr_at {K : PySem.W.Frag} {F F1 : Addr → Prop} {H H1 : Hp} {μ μ1 : Mu} {a : Addr} {ds : List D} (r : Rp K F H (.scr ds) (.ref a)) (g : Step K F H μ F1 H1 μ1) : ∃ vs, SqL K H1 a vs ∧ Rps K F1 H1 ds vs := by
  have r' := r.st g
  cases r' with
  | scr f rs => exact ⟨_, f.sq, rs⟩
theorem tup_at {K : PySem.W.Frag} {F F1 : Addr → Prop} {H H1 : Hp} {μ μ1 : Mu} {a : Addr} {ds : List D} (r : Rp K F H (.tup ds) (.ref a)) (g : Step K F H μ F1 H1 μ1) : ∃ vs, SqT K H1 a vs ∧ Rps K F1 H1 ds vs := by
  have r' := r.st g
  cases r' with
  | tup f e rs => exact ⟨_, SqT.of e, rs⟩
/-- a list or a tuple is walked, whichever it turns out to be -/
def iEither (K : PySem.W.Frag) (tl : TE) : TI := fun σ H R => tl σ H fun x H1 => ∃ a, x = .ref a ∧ (((∃ ys, SqL K H1 a ys) ∧ R (Itl K a) H1) ∨ ((∃ ys, SqT K H1 a ys) ∧ R (Itt K a) H1))
theorem pi_either {tg l : Expr} {tl : TE} (hl : PE X l tl) : PI X tg l (iEither X.K tl) := by
  refine ⟨fun ps st σ H R I h => thn (hl.run ps st σ H _ I h) fun v st1 ⟨x, H1, J, rx, z⟩ => ?_⟩
  obtain ⟨a, rfl, z⟩ := z
  cases rx
  have fp : ∀ b ∈ [st1.heap.objs.size], FpOk X ps H1 b := fun b hb => by
    obtain rfl : b = st1.heap.objs.size := List.mem_singleton.mp hb
    exact J.fpOk (Nat.le_refl _) (J.hok.fresh (Nat.le_refl _))
  rcases z with ⟨⟨ys, sq⟩, z⟩ | ⟨⟨ys, sq⟩, z⟩
  · obtain ⟨us, _, pl, _⟩ := J.list sq
    exact wpAny_pyIter_list pl.isList ⟨_, _, _, _, H1, rfl, J.kept (t' := st1.toks) fun _ _ w => Heap.get?_push_of_some _ w, turn_list a _, ⟨_, Heap.get?_push_size _ rfl, rfl, rfl⟩, fp, z⟩
  · obtain ⟨us, _, pl, _⟩ := J.tuple sq
    exact wpAny_pyIter_tuple (show st1.heap.IsTuple a us.toArray from pl) ⟨_, _, _, _, H1, rfl, J.kept (t' := st1.toks) fun _ _ w => Heap.get?_push_of_some _ w, turn_tuple a _, ⟨_, Heap.get?_push_size _ rfl, rfl, rfl⟩, fp, z⟩
theorem i_seq {tg : Expr} (he : E3 X e te) : I3 X tg e (iSeq te) := (pi_either he).imp fun σ H R3 h => by
  obtain ⟨F, δ, μ, R, s, sl, h, k⟩ := h
  refine ⟨F, δ, μ, _, s, sl, h, fun F1 v H1 d μ1 g r1 q1 => ?_⟩
  cases r1 with
  | lst f e rs => exact ⟨_, rfl, .inl ⟨⟨_, SqL.of e⟩, k F1 H1 _ _ μ1 _ g (itl_ok fun F2 H2 μ2 g2 _ => lst_at (.lst f e rs) g2) q1⟩⟩
  | scr f rs => exact ⟨_, rfl, .inl ⟨⟨_, f.sq⟩, k F1 H1 _ _ μ1 _ g (itl_ok fun F2 H2 μ2 g2 _ => scr_at (.scr f rs) g2) q1⟩⟩
  | tup f e rs => exact ⟨_, rfl, .inr ⟨⟨_, SqT.of e⟩, k F1 H1 _ _ μ1 _ g (itt_ok fun F2 H2 μ2 g2 _ => tup_at (.tup f e rs) g2) q1⟩⟩
  | ref a =>
    obtain ⟨xs, em, q1⟩ := q1
    refine ⟨a, rfl, .inl ⟨?_, k F1 H1 _ _ μ1 _ g (itl_ok fun F2 H2 μ2 g2 hp => ?_) q1⟩⟩
    · obtain ⟨_, vs, e3, rs⟩ := g.sim.obj _ _ em
      exact ⟨vs, SqL.of e3⟩
    · obtain ⟨_, vs, e3, rs⟩ := g2.sim.obj _ _ hp
      exact ⟨vs, SqL.of e3, rs⟩
  | _ => exact (show False from q1).elim
/-! range -/
def rgD (lo : Int) (n : Nat) : List D := (List.range n).map fun i => .int (lo + (i : Nat))
theorem itr_ok {K : PySem.W.Frag} {F : Addr → Prop} {H : Hp} {μ : Mu} {lo : Int} {n : Nat} : ItOk K F H μ (rgD lo n) (fun _ => True) (Itr lo n) := by
  have hl : (rgD lo n).length = n := by simp [rgD]
  refine ⟨fun F1 H1 μ1 i g hp hi => by rw [hl] at hi; exact hi, fun F1 H1 μ1 g hp => by rw [hl]; exact Nat.le_refl _, fun F1 H1 μ1 i x H2 g hp hy hi => ?_⟩
  obtain ⟨rfl, rfl⟩ := hy
  rw [hl] at hi
  exact ⟨F1, .int (lo + i), Step.refl g.sim, by simp [rgD, hi], .int _⟩
def iRg1 (ta : TA3) : TI3 := fun δ μ R => ta δ μ fun ds μ1 => match ds with
  | [.int j] => -(2 ^ 62) ≤ j ∧ j < 2 ^ 62 ∧ R (rgD 0 j.toNat) (fun _ => True) μ1
  | _ => False
theorem i_range1 {tg : Expr} (hm : X.mg "range" = none) (ha : A3 X [a] tr) (hg : Gl X "range" := by rfl) (hs : starEach [a] X.env = [(false, eval a X.env)] := by rfl) : I3 X tg (.Call (.Name "range" p) [a] [] pos) (iRg1 tr) := (pi_range1 hg hm ha hs).imp fun σ H R3 h => by
  obtain ⟨F, δ, μ, R, s, sl, h, k⟩ := h
  refine ⟨F, δ, μ, _, s, sl, h, fun F1 vs H1 ds μ1 g r1 q1 => ?_⟩
  split at q1
  · rename_i j
    obtain ⟨v, rfl, r⟩ := one_of r1
    cases r
    exact ⟨j, rfl, q1.1, q1.2.1, k F1 H1 _ _ μ1 _ g itr_ok q1.2.2⟩
  · exact q1.elim
def iRg2 (ta : TA3) : TI3 := fun δ μ R => ta δ μ fun ds μ1 => match ds with
  | [.int i, .int j] => (-(2 ^ 62) ≤ i ∧ i < 2 ^ 62 ∧ -(2 ^ 62) ≤ j ∧ j < 2 ^ 62) ∧ R (rgD i (j - i).toNat) (fun _ => True) μ1
  | _ => False
theorem i_range2 {tg : Expr} (hm : X.mg "range" = none) (ha : A3 X [a, b] tr) (hg : Gl X "range" := by rfl) (hs : starEach [a, b] X.env = [(false, eval a X.env), (false, eval b X.env)] := by rfl) (hs2 : starEach [b] X.env = [(false, eval b X.env)] := by rfl) : I3 X tg (.Call (.Name "range" p) [a, b] [] pos) (iRg2 tr) := (pi_range2 hg hm ha hs hs2).imp fun σ H R3 h => by
  obtain ⟨F, δ, μ, R, s, sl, h, k⟩ := h
  refine ⟨F, δ, μ, _, s, sl, h, fun F1 vs H1 ds μ1 g r1 q1 => ?_⟩
  split at q1
  · rename_i i j
    cases r1 with
    | cons r1 t => cases t with
      | cons r2 t =>
        cases t; cases r1; cases r2
        exact ⟨i, j, rfl, q1.1, k F1 H1 _ _ μ1 _ g itr_ok q1.2⟩
  · exact q1.elim
/-! the signs of a text -/
def signsD (z : Str) : List D := z.cps.toList.map fun c => .str ⟨#[c]⟩
def iStr3 (te : TE3) : TI3 := fun δ μ R => te δ μ fun d μ1 => match d with
  | .str z => R (signsD z) (fun _ => True) μ1
  | _ => False
theorem its_ok {K : PySem.W.Frag} {F : Addr → Prop} {H : Hp} {μ : Mu} {z : Str} : ItOk K F H μ (signsD z) (fun _ => True) (Its z) := by
  have hl : (signsD z).length = z.cps.size := by simp [signsD]
  refine ⟨fun F1 H1 μ1 i g hp hi => by rw [hl] at hi; exact hi, fun F1 H1 μ1 g hp => by rw [hl]; exact Nat.le_refl _, fun F1 H1 μ1 i x H2 g hp hy hi => ?_⟩
  obtain ⟨rfl, c, ec, rfl⟩ := hy
  refine ⟨F1, .str ⟨#[c]⟩, Step.refl g.sim, ?_, .str _⟩
  unfold signsD
  rw [List.getElem?_map, Array.getElem?_toList, ec]
  rfl
theorem i_str {tg : Expr} (he : E3 X e te) : I3 X tg e (iStr3 te) := (pi_str he).imp fun σ H R3 h => by
  obtain ⟨F, δ, μ, R, s, sl, h, k⟩ := h
  refine ⟨F, δ, μ, _, s, sl, h, fun F1 v H1 d μ1 g r1 q1 => ?_⟩
  cases r1 <;> first | exact (show False from q1).elim | skip
  exact ⟨_, rfl, k F1 H1 _ _ μ1 _ g its_ok q1⟩
/-! one name as a comprehension's target -/
theorem tg_name {K : PySem.W.Frag} (i : Nat) : TgL K (gName i) (gN i) [i] := ⟨fun F H σ δ δ' d v Q sl r e k => by
    cases e
    exact k _ (fun ws h => wipe_set_mem σ (some v) ws i (h i List.mem_cons_self)) (sl.set i r)⟩
/-! name = [..] where the name is no cell -/
theorem s_setLc {j : Nat} {y : Str} {py spos : Pos} {elt tg iter : Expr} {ifs : List Expr} {scope : Scope} {own : List (Str × Nat)} {wi : TI3} {g : TG3} {tt : TT3} {vs : List Nat} (hc : X.calm = true) (hN : X.N.Nodup) (hi : I3 X tg iter wi) (ok : BlkOk X.N X.env.scope scope own) {g2 : TG}
    (lg : TgL X.K g2 g vs) (hv : ∀ i ∈ vs, i ∈ own.map (·.2))
    (hg : ∀ (s : Shared) (H : Hp) (C : Addr) (cl : List (Str × Addr)) (fp : List Addr), PG (X.blk s H scope (compEnvC scope cl C X.env) fp) tg g2)
    (ht : ∀ (s : Shared) (H : Hp) (C : Addr) (cl : List (Str × Addr)) (fp : List Addr), Ts3 (X.blk s H scope (compEnvC scope cl C X.env) fp) ifs tt)
    (he : ∀ (s : Shared) (H : Hp) (C : Addr) (cl : List (Str × Addr)) (fp : List Addr), E3 (X.blk s H scope (compEnvC scope cl C X.env) fp) elt te)
    (hsw : swapsWith (.ListComp elt [⟨tg, iter, ifs, 0⟩] scope pos) (some (.Name y py)) spos.line X.env = pure true)
    (hy : X.N[j]? = some y := by rfl) (hyl : X.env.scope.names.lookup y = some .local := by rfl)
    (hs : ∀ x, foldedSetIterable iter X.env x = pure x := by intro _; rfl) :
    S3 X (.Assign [.Name y py] (.ListComp elt [⟨tg, iter, ifs, 0⟩] scope pos) spos) (sSet j (vLc wi g tt te (own.map (·.2)))) :=
  (ps_setLc (wi := lowI X.K wi) (g := g2) (tt := lowT X.K tt) (te := low X.K te) hc hN hy hyl hsw hi ok hg ht he hs).imp fun D σ H h => by
    obtain ⟨F, δ, μ, D3, s, sl, h, k⟩ := h
    exact low_lc lg hv ⟨F, δ, μ, _, s, sl, h, fun F1 v H1 d μ1 g r1 q1 => k.nx F1 _ H1 _ μ1 g ((sl.st g).set j r1) q1⟩
/-! {} and written dicts -/
def vDict0 : TE3 := fun _ μ R => R (.dct []) μ
theorem e_dict0 : E3 X (.Dict [] [] pos) vDict0 := pe_dnewK.imp fun σ H Q h => by
  obtain ⟨F, δ, μ, R, s, sl, h, k⟩ := h
  intro p hp
  have g := s.frzS (o := .dK []) hp
  exact k _ _ _ _ μ g (.dct (.inr rfl) (.inl upd_same) .nil) h
def vDict0T : TE3 := fun _ μ R => ∀ q, μ q = none → R (.ref q) (mset μ q (.dct []))
theorem e_dict0T : E3 X (.Dict [] [] pos) vDict0T := pe_dnewK.imp fun σ H Q h => by
  obtain ⟨F, δ, μ, R, s, sl, h, k⟩ := h
  intro p hp
  have g := s.trkS (o := .dK []) (m := .dct []) hp fun g' e => ⟨[], e, .nil⟩
  exact k _ _ _ _ _ g (.ref p) (h p (s.free hp))
end
end L3

namespace L3
open PySem PySem.Spec L2
/-! ### dicts with int and text keys -/
def valD (kvs : List (Key × D)) (k : Key) : Option D := (kvs.find? fun kv => decide (kv.1 = k)).map (·.2)
def putD (kvs : List (Key × D)) (k : Key) (v : D) : List (Key × D) :=
  if (kvs.any fun kv => decide (kv.1 = k)) = true then kvs.map (fun kv => if kv.1 = k then (kv.1, v) else kv) else kvs ++ [(k, v)]
def mergeD (kvs more : List (Key × D)) : List (Key × D) := more.foldl (fun acc kv => putD acc kv.1 kv.2) kvs
def keyOf : D → Option Key
  | .int i => some (.inl i)
  | .str x => some (.inr x)
  | _ => none
section
variable {K : PySem.W.Frag} {F : Addr → Prop} {H : Hp}
theorem keyOf_ok {x : D} {v : V} {k : Key} (r : Rp K F H x v) (h : keyOf x = some k) : v = kV k := by
  cases r <;> cases h <;> rfl
theorem Rpk.length : ∀ {ds : List (Key × D)} {vs : List (Key × V)}, Rpk K F H ds vs → ds.length = vs.length
  | _, _, .nil => rfl
  | _, _, .cons _ t => by rw [List.length_cons, List.length_cons, Rpk.length t]
theorem Rpk.val {k : Key} : ∀ {ds : List (Key × D)} {vs : List (Key × V)}, Rpk K F H ds vs → (∀ d, valD ds k = some d → ∃ v, valV vs k = some v ∧ Rp K F H d v) ∧ (valD ds k = none → valV vs k = none)
  | _, _, .nil => ⟨fun d h => (by cases h), fun _ => rfl⟩
  | _, _, .cons (k := k') (d := d') (v := v') (ds := ds') (vs := vs') r t => by
    have ih := Rpk.val (k := k) t
    by_cases e : k' = k
    · have e1 : valD ((k', d') :: ds') k = some d' := by simp [valD, List.find?_cons, e]
      have e2 : valV ((k', v') :: vs') k = some v' := valV_pos (p := (k', v')) e
      rw [e1, e2]
      exact ⟨fun d h => (by cases h; exact ⟨v', rfl, r⟩), fun h => (by cases h)⟩
    · have e1 : valD ((k', d') :: ds') k = valD ds' k := by simp [valD, List.find?_cons, e]
      have e2 : valV ((k', v') :: vs') k = valV vs' k := valV_neg (p := (k', v')) e
      rw [e1, e2]
      exact ih
theorem Rpk.keys : ∀ {ds : List (Key × D)} {vs : List (Key × V)}, Rpk K F H ds vs → ds.map (·.1) = vs.map (·.1)
  | _, _, .nil => rfl
  | _, _, .cons r t => by rw [List.map_cons, List.map_cons, Rpk.keys t]
theorem Rpk.append : ∀ {ds es : List (Key × D)} {vs us : List (Key × V)}, Rpk K F H ds vs → Rpk K F H es us → Rpk K F H (ds ++ es) (vs ++ us)
  | _, _, _, _, .nil, s => s
  | _, _, _, _, .cons h r, s => .cons h (Rpk.append r s)
theorem Rpk.upd {k : Key} {d : D} {v : V} (h : Rp K F H d v) : ∀ {ds : List (Key × D)} {vs : List (Key × V)}, Rpk K F H ds vs → Rpk K F H (ds.map fun kv => if kv.1 = k then (kv.1, d) else kv) (vs.map fun kv => if kv.1 = k then (kv.1, v) else kv)
  | _, _, .nil => .nil
  | _, _, .cons (k := k') r t => by
    rw [List.map_cons, List.map_cons]
    by_cases e : k' = k
    · simp only [e, if_true]
      exact .cons h (Rpk.upd h t)
    · simp only [e, if_false]
      exact .cons r (Rpk.upd h t)
theorem Rpk.has {k : Key} : ∀ {ds : List (Key × D)} {vs : List (Key × V)}, Rpk K F H ds vs → (ds.any fun kv => decide (kv.1 = k)) = (vs.any fun kv => decide (kv.1 = k))
  | _, _, .nil => rfl
  | _, _, .cons r t => by rw [List.any_cons, List.any_cons, Rpk.has t]
theorem Rpk.put {k : Key} {d : D} {v : V} {ds : List (Key × D)} {vs : List (Key × V)} (r : Rpk K F H ds vs) (h : Rp K F H d v) : Rpk K F H (putD ds k d) (putK vs k v) := by
  unfold putD putK
  rw [r.has]
  split
  · exact r.upd h
  · exact r.append (.cons h .nil)
theorem Rpk.merge : ∀ {es : List (Key × D)} {us : List (Key × V)} {ds : List (Key × D)} {vs : List (Key × V)}, Rpk K F H es us → Rpk K F H ds vs → Rpk K F H (mergeD ds es) (mergeK vs us)
  | _, _, _, _, .nil, r => r
  | _, _, _, _, .cons (k := k) h t, r => by
    have z := Rpk.merge t (r.put (k := k) h)
    exact z
end
/-- the pairs of a dict, frozen or tracked -/
def dctOf (μ : Mu) : D → Option (List (Key × D))
  | .dct kvs => some kvs
  | .ref a => match μ a with
    | some (.dct kvs) => some kvs
    | _ => none
  | _ => none
theorem dct_of {K : PySem.W.Frag} {F : Addr → Prop} {H : Hp} {μ : Mu} {x : D} {v : V} {xs : List (Key × D)} (s : Sim K F H μ) (r : Rp K F H x v) (h : dctOf μ x = some xs) : ∃ p vs, v = .ref p ∧ Rd H p (.dK vs) ∧ Rpk K F H xs vs := by
  cases r with
  | dct f e rs => cases h; exact ⟨_, _, rfl, e, rs⟩
  | ref a =>
    have h' : (match μ a with
      | some (.dct xs) => some xs
      | _ => none) = some xs := h
    split at h'
    · rename_i ys e2
      cases h'
      obtain ⟨_, vs, e3, rs⟩ := s.obj _ _ e2
      exact ⟨_, vs, rfl, .inl e3, rs⟩
    · cases h'
  | _ => cases h
section
variable {X : Cx} {e a b c o i v kx : Expr} {es : List Expr} {ta tb tc te to ti tv tk : TE3} {tr : TA3} {pos p apos cpos : Pos} {x : Str}
def vPairs : List (TE3 × TE3) → St3 → Mu → (List (D × D) → Mu → Prop) → Prop
  | [], _, μ, R => R [] μ
  | (tk, tv) :: r, δ, μ, R => tk δ μ fun x μ1 => tv δ μ1 fun y μ2 => vPairs r δ μ2 fun ps μ3 => R ((x, y) :: ps) μ3
def keysOf : List (D × D) → Option (List (Key × D))
  | [] => some []
  | (k, d) :: r => match keyOf k, keysOf r with
    | some k', some r' => some ((k', d) :: r')
    | _, _ => none
def vDisp (trs : List (TE3 × TE3)) : TE3 := fun δ μ R => vPairs trs δ μ fun ps μ1 => ∃ kvs, keysOf ps = some kvs ∧ kvs.length ≤ 15 ∧ R (.dct (mergeD [] kvs)) μ1
def lowPs (K : PySem.W.Frag) : List (TE3 × TE3) → List (TE × TE)
  | [] => []
  | (a, b) :: r => (low K a, low K b) :: lowPs K r
def Ps3 (X : Cx) (pos : Pos) (keys : List (Option Expr)) (values : List Expr) (trs : List (TE3 × TE3)) : Prop := PPs X pos keys values (lowPs X.K trs)
theorem ps3_nil : Ps3 X pos [] [] [] := pps_nil
theorem ps3_cons {ks : List (Option Expr)} {vs : List Expr} {trs : List (TE3 × TE3)} (hk : E3 X kx tk) (hv : E3 X v tv) (hr : Ps3 X pos ks vs trs) : Ps3 X pos (some kx :: ks) (v :: vs) ((tk, tv) :: trs) := pps_cons hk hv hr
inductive Rpp (K : PySem.W.Frag) (F : Addr → Prop) (H : Hp) : List (D × D) → List (V × V) → Prop
  | nil : Rpp K F H [] []
  | cons {d e : D} {v u : V} {ds : List (D × D)} {vs : List (V × V)} : Rp K F H d v → Rp K F H e u → Rpp K F H ds vs → Rpp K F H ((d, e) :: ds) ((v, u) :: vs)
theorem Rpp.keys {K : PySem.W.Frag} {F : Addr → Prop} {H : Hp} : ∀ {ds : List (D × D)} {vs : List (V × V)} {kvs : List (Key × D)}, Rpp K F H ds vs → keysOf ds = some kvs → ∃ ks, vs = ks.map (fun kv => (kV kv.1, kv.2)) ∧ Rpk K F H kvs ks
  | _, _, _, .nil, h => by cases h; exact ⟨[], rfl, .nil⟩
  | _, _, kvs, .cons (d := d) (ds := ds) r q t, h => by
    unfold keysOf at h
    split at h
    · rename_i k' r' e1 e2
      cases h
      obtain ⟨ks, rfl, rk⟩ := Rpp.keys t e2
      obtain rfl := keyOf_ok r e1
      exact ⟨(k', _) :: ks, rfl, .cons q rk⟩
    · cases h
theorem low_pairs {K : PySem.W.Frag} {σ : L2.St} : ∀ {trs : List (TE3 × TE3)} {F : Addr → Prop} {H : Hp} {δ : St3} {μ : Mu} {R : List (D × D) → Mu → Prop} {Q : List (V × V) → Hp → Prop}, Sim K F H μ → Sl K F H σ δ → vPairs trs δ μ R →
    (∀ F' vs H' ds μ', Step K F H μ F' H' μ' → Rpp K F' H' ds vs → R ds μ' → Q vs H') → tPairs (lowPs K trs) σ H Q
  | [], F, H, δ, μ, R, Q, s, sl, h, k => k F [] H [] μ (Step.refl s) .nil h
  | (a, b) :: r, F, H, δ, μ, R, Q, s, sl, h, k => by
    refine ⟨F, δ, μ, _, s, sl, h, fun F1 v H1 d μ1 g1 r1 q1 => ⟨F1, δ, μ1, _, g1.sim, sl.st g1, q1, fun F2 u H2 d2 μ2 g2 r2 q2 => ?_⟩⟩
    refine low_pairs g2.sim (sl.st (g1.trans g2)) q2 fun F3 vs H3 ds μ3 g3 r3 q3 => ?_
    exact k F3 _ H3 _ μ3 ((g1.trans g2).trans g3) (.cons (r1.st (g2.trans g3)) (r2.st g3) r3) q3
theorem e_disp {keys : List (Option Expr)} {values : List Expr} {trs : List (TE3 × TE3)} (h : Ps3 X pos keys values trs) (hall : keys.all (·.isSome) = true := by rfl) (hl : keys.length = values.length := by rfl) (h0 : keys ≠ [] := by simp) (h15 : keys.length ≤ 15 := by simp) :
    E3 X (.Dict keys values pos) (vDisp trs) := (pe_disp h hall hl h0 h15).imp fun σ H Q h => by
  obtain ⟨F, δ, μ, R, s, sl, h, k⟩ := h
  intro p hp
  have g := s.newS (o := .dK []) hp
  have nF : ¬ F p := fun f => by
    obtain ⟨u, hu⟩ := s.dom p f
    rw [hp] at hu
    cases hu
  refine low_pairs g.sim (sl.st g) h fun F1 vs H1 ds μ1 g1 r1 q1 => ?_
  obtain ⟨n1, e1, f1⟩ := g1.fm p _ upd_same (s.free hp)
  obtain ⟨kvs, ek, hz, q1⟩ := q1
  obtain ⟨ks, rfl, rk⟩ := r1.keys ek
  refine ⟨e1, ks, rfl, by rw [← rk.length]; exact hz, ?_⟩
  have nF1 : ¬ F1 p := fun f => nF (f1 f)
  have gg := (g.trans g1).priv (o := .dK (mergeK [] ks)) hp nF1 n1
  have g2 := gg.shut (o := .dK (mergeK [] ks)) hp n1 upd_same
  have gp := (g1.sim.priv (o := .dK (mergeK [] ks)) nF1 n1).1
  have gq : Grow F1 (L2.upd H1 p (.dK (mergeK [] ks))) (fun a => F1 a ∨ a = p) (L2.upd H1 p (.dK (mergeK [] ks))) := ⟨fun _ h => .inl h, fun _ _ _ h => h, fun _ _ _ _ h => h⟩
  exact k _ _ _ _ μ1 g2 (.dct (.inr rfl) (.inl upd_same) (((Rpk.merge rk .nil).grow gp).grow gq)) q1
end
end L3

namespace L3
open PySem PySem.Spec L2
/-! ### readings that end without changing what is tracked -/
theorem lc_map {te : TE3} {δ : St3} {R : List D → Mu → Prop} {i : Nat} {μ : Mu} (f : D → D) : ∀ (ds acc : List D), (∀ d ∈ ds, ∀ R' : DK, R' (f d) μ → te (δ.set i (some d)) μ R') → acc.length + ds.length ≤ sizeLine → R (acc ++ ds.map f) μ →
    lcW (fun _ => True) (gN i) vYes te δ R ds acc μ
  | [], acc, _, _, k => ⟨trivial, by simpa using k⟩
  | d :: ds, acc, h, hl, k => by
    rw [List.length_cons] at hl
    refine ⟨trivial, by omega, ?_⟩
    change (if true = true then te (δ.set i (some d)) μ (fun y μ2 => lcW (fun _ => True) (gN i) vYes te δ R ds (acc ++ [y]) μ2) else lcW (fun _ => True) (gN i) vYes te δ R ds acc μ)
    rw [if_pos rfl]
    refine h d List.mem_cons_self _ (lc_map f ds (acc ++ [f d]) (fun d' hd => h d' (List.mem_cons_of_mem _ hd)) (by simp; omega) ?_)
    simpa using k
theorem lc_filter {tt : TT3} {te : TE3} {δ : St3} {R : List D → Mu → Prop} {i : Nat} {μ : Mu} (p : D → Bool) (f : D → D) : ∀ (ds acc : List D), (∀ d ∈ ds, ∀ R' : Bool → Mu → Prop, R' (p d) μ → tt (δ.set i (some d)) μ R') →
    (∀ d ∈ ds, p d = true → ∀ R' : DK, R' (f d) μ → te (δ.set i (some d)) μ R') → acc.length + ds.length ≤ sizeLine → R (acc ++ (ds.filter p).map f) μ → lcW (fun _ => True) (gN i) tt te δ R ds acc μ
  | [], acc, _, _, _, k => ⟨trivial, by simpa using k⟩
  | d :: ds, acc, ht, h, hl, k => by
    rw [List.length_cons] at hl
    refine ⟨trivial, by omega, ?_⟩
    show tt (δ.set i (some d)) μ _
    refine ht d List.mem_cons_self _ ?_
    have ht' := fun d' hd => ht d' (List.mem_cons_of_mem _ hd)
    have h' := fun d' hd => h d' (List.mem_cons_of_mem _ hd)
    cases e : p d with
    | true =>
      rw [if_pos rfl]
      refine h d List.mem_cons_self e _ (lc_filter p f ds (acc ++ [f d]) ht' h' (by simp; omega) ?_)
      simpa [List.filter_cons, e] using k
    | false =>
      rw [if_neg Bool.false_ne_true]
      refine lc_filter p f ds acc ht' h' (by omega) ?_
      simpa [List.filter_cons, e] using k
theorem lc_mapOf {α : Type} {te : TE3} {δ : St3} {R : List D → Mu → Prop} {i : Nat} {μ : Mu} (e f : α → D) : ∀ (xs : List α) (acc : List D), (∀ x ∈ xs, ∀ R' : DK, R' (f x) μ → te (δ.set i (some (e x))) μ R') → acc.length + xs.length ≤ sizeLine → R (acc ++ xs.map f) μ →
    lcW (fun _ => True) (gN i) vYes te δ R (xs.map e) acc μ
  | [], acc, _, _, k => ⟨trivial, by simpa using k⟩
  | d :: ds, acc, h, hl, k => by
    rw [List.length_cons] at hl
    refine ⟨trivial, by omega, ?_⟩
    change (if true = true then te (δ.set i (some (e d))) μ (fun y μ2 => lcW (fun _ => True) (gN i) vYes te δ R (ds.map e) (acc ++ [y]) μ2) else lcW (fun _ => True) (gN i) vYes te δ R (ds.map e) acc μ)
    rw [if_pos rfl]
    refine h d List.mem_cons_self _ (lc_mapOf e f ds (acc ++ [f d]) (fun d' hd => h d' (List.mem_cons_of_mem _ hd)) (by simp; omega) ?_)
    simpa using k
theorem lc_filterOf {α : Type} {tt : TT3} {te : TE3} {δ : St3} {R : List D → Mu → Prop} {i : Nat} {μ : Mu} (p : α → Bool) (e f : α → D) : ∀ (xs : List α) (acc : List D), (∀ x ∈ xs, ∀ R' : Bool → Mu → Prop, R' (p x) μ → tt (δ.set i (some (e x))) μ R') →
    (∀ x ∈ xs, p x = true → ∀ R' : DK, R' (f x) μ → te (δ.set i (some (e x))) μ R') → acc.length + xs.length ≤ sizeLine → R (acc ++ (xs.filter p).map f) μ → lcW (fun _ => True) (gN i) tt te δ R (xs.map e) acc μ
  | [], acc, _, _, _, k => ⟨trivial, by simpa using k⟩
  | d :: ds, acc, ht, h, hl, k => by
    rw [List.length_cons] at hl
    refine ⟨trivial, by omega, ?_⟩
    show tt (δ.set i (some (e d))) μ _
    refine ht d List.mem_cons_self _ ?_
    have ht' := fun d' hd => ht d' (List.mem_cons_of_mem _ hd)
    have h' := fun d' hd => h d' (List.mem_cons_of_mem _ hd)
    cases q : p d with
    | true =>
      rw [if_pos rfl]
      refine h d List.mem_cons_self q _ (lc_filterOf p e f ds (acc ++ [f d]) ht' h' (by simp; omega) ?_)
      simpa [List.filter_cons, q] using k
    | false =>
      rw [if_neg Bool.false_ne_true]
      refine lc_filterOf p e f ds acc ht' h' (by omega) ?_
      simpa [List.filter_cons, q] using k
/-- a for by what holds ahead of each turn, by the items that are left; the body for any next that W lets -/
theorem for_ind {Pm : Mu → Prop} {g : TG3} {tb : TS3} {Z : Ends3} (W : List D → St3 → Mu → Prop) (h0 : ∀ δ μ, W [] δ μ → Pm μ ∧ Z.nx δ μ)
    (hs : ∀ d ds δ μ, W (d :: ds) δ μ → Pm μ ∧ ∃ δ', g d δ = some δ' ∧ ∀ N : St3 → Mu → Prop, (∀ δ' μ', W ds δ' μ' → N δ' μ') → tb { Z with nx := N, ct := N, bk := Z.nx } δ' μ) : ∀ ds δ μ, W ds δ μ → forW Pm g tb Z ds δ μ
  | [], δ, μ, w => h0 δ μ w
  | d :: ds, δ, μ, w => by
    obtain ⟨hP, δ', e, h⟩ := hs d ds δ μ w
    refine ⟨hP, ?_⟩
    rw [e]
    exact h _ fun δ2 μ2 w2 => for_ind W h0 hs ds δ2 μ2 w2
/-- a for over a range, by the turn's number -/
theorem for_rg {tb : TS3} {Z : Ends3} {i : Nat} {lo : Int} {n : Nat} (W : Nat → St3 → Mu → Prop) {δ : St3} {μ : Mu} (w0 : W 0 δ μ) (h0 : ∀ δ μ, W n δ μ → Z.nx δ μ)
    (hs : ∀ k δ μ, k < n → W k δ μ → ∀ N : St3 → Mu → Prop, (∀ δ' μ', W (k + 1) δ' μ' → N δ' μ') → tb { Z with nx := N, ct := N, bk := Z.nx } (δ.set i (some (.int (lo + (k : Nat))))) μ) : forW (fun _ => True) (gN i) tb Z (rgD lo n) δ μ := by
  refine for_ind (W := fun ds δ μ => ∃ k, k ≤ n ∧ ds = (rgD lo n).drop k ∧ W k δ μ) ?_ ?_ _ _ _ ⟨0, Nat.zero_le _, rfl, w0⟩
  · rintro δ μ ⟨k, hk, e, w⟩
    have hl : (rgD lo n).length = n := by simp [rgD]
    have : k = n := by
      have := congrArg List.length e
      rw [List.length_drop, hl] at this
      simp at this
      omega
    subst this
    exact ⟨trivial, h0 δ μ w⟩
  · rintro d ds δ μ ⟨k, hk, e, w⟩
    have hl : (rgD lo n).length = n := by simp [rgD]
    have hlt : k < n := by
      have := congrArg List.length e
      rw [List.length_drop, hl] at this
      simp at this
      omega
    rw [List.drop_eq_getElem_cons (by rw [hl]; exact hlt)] at e
    obtain ⟨e1, e2⟩ := List.cons.inj e
    have ed : d = .int (lo + (k : Nat)) := by rw [e1]; simp [rgD]
    subst ed
    exact ⟨trivial, _, rfl, fun N hN => hs k δ μ hlt w N fun δ' μ' w' => hN δ' μ' ⟨k + 1, hlt, e2, w'⟩⟩
/-- a comprehension that may change what is tracked -/
theorem lc_ind {g : TG3} {tt : TT3} {te : TE3} {δ : St3} {R : List D → Mu → Prop} {Pm : Mu → Prop} (W : List D → List D → Mu → Prop) (h0 : ∀ acc μ, W [] acc μ → Pm μ ∧ R acc μ)
    (hs : ∀ d ds acc μ, W (d :: ds) acc μ → Pm μ ∧ acc.length < sizeLine ∧ ∃ δ', g d δ = some δ' ∧ ∀ N : List D → Mu → Prop, (∀ acc' μ', W ds acc' μ' → N acc' μ') → tt δ' μ fun b μ1 => if b = true then te δ' μ1 fun y μ2 => N (acc ++ [y]) μ2 else N acc μ1) : ∀ ds acc μ, W ds acc μ → lcW Pm g tt te δ R ds acc μ
  | [], acc, μ, w => h0 acc μ w
  | d :: ds, acc, μ, w => by
    obtain ⟨hP, hl, δ', e, h⟩ := hs d ds acc μ w
    refine ⟨hP, hl, ?_⟩
    rw [e]
    exact h _ fun acc' μ' w' => lc_ind W h0 hs ds acc' μ' w'
/-- .. over a range, without a test, by the turn's number -/
theorem lc_rg {te : TE3} {δ : St3} {R : List D → Mu → Prop} {i : Nat} {lo : Int} {n : Nat} (hn : n < sizeLine) (W : Nat → List D → Mu → Prop) {μ : Mu} (w0 : W 0 [] μ) (hW : ∀ k acc μ, W k acc μ → acc.length = k) (h0 : ∀ acc μ, W n acc μ → R acc μ)
    (hs : ∀ k acc μ, k < n → W k acc μ → ∀ N : DK, (∀ y μ', W (k + 1) (acc ++ [y]) μ' → N y μ') → te (δ.set i (some (.int (lo + (k : Nat))))) μ N) : lcW (fun _ => True) (gN i) vYes te δ R (rgD lo n) [] μ := by
  have hl : (rgD lo n).length = n := by simp [rgD]
  refine lc_ind (W := fun ds acc μ => ∃ k, k ≤ n ∧ ds = (rgD lo n).drop k ∧ W k acc μ) ?_ ?_ _ _ _ ⟨0, Nat.zero_le _, rfl, w0⟩
  · rintro acc μ ⟨k, hk, e, w⟩
    have : k = n := by
      have := congrArg List.length e
      rw [List.length_drop, hl] at this
      simp at this
      omega
    subst this
    exact ⟨trivial, h0 acc μ w⟩
  · rintro d ds acc μ ⟨k, hk, e, w⟩
    have hlt : k < n := by
      have := congrArg List.length e
      rw [List.length_drop, hl] at this
      simp at this
      omega
    rw [List.drop_eq_getElem_cons (by rw [hl]; exact hlt)] at e
    obtain ⟨e1, e2⟩ := List.cons.inj e
    have ed : d = .int (lo + (k : Nat)) := by rw [e1]; simp [rgD]
    subst ed
    refine ⟨trivial, by rw [hW k acc μ w]; omega, _, rfl, fun N hN => ?_⟩
    change (if true = true then te (δ.set i (some (.int (lo + (k : Nat))))) μ (fun y μ2 => N (acc ++ [y]) μ2) else N acc μ)
    rw [if_pos rfl]
    exact hs k acc μ hlt w _ fun y μ' w' => hN _ _ ⟨k + 1, hlt, e2, w'⟩
theorem ix_ref {μ : Mu} {b : Addr} {xs : List D} {i : Int} {d : D} {R : DK} (e : μ b = some (.lst xs)) (h : atI xs i = some d) (k : R d μ) : gIx (.ref b) (.int i) μ R := ⟨xs, d, by simp only [seqOf, e], h, k⟩
theorem ix_lst {μ : Mu} {xs : List D} {i : Int} {d : D} {R : DK} (h : atI xs i = some d) (k : R d μ) : gIx (.lst xs) (.int i) μ R := ⟨xs, d, rfl, h, k⟩
theorem ix_tup {μ : Mu} {xs : List D} {i : Int} {d : D} {R : DK} (h : atI xs i = some d) (k : R d μ) : gIx (.tup xs) (.int i) μ R := ⟨xs, d, rfl, h, k⟩
theorem set_ref {μ : Mu} {b : Addr} {xs : List D} {i : Int} {j : Nat} {v : D} {R : Mu → Prop} (e : μ b = some (.lst xs)) (h : ixN xs.length i = some j) (k : R (mset μ b (.lst (xs.set j v)))) : gSetL (.ref b) (.int i) v μ R := ⟨b, xs, i, j, rfl, rfl, e, h, k⟩
theorem atI_of {α : Type} {xs : List α} {i : Int} {d : α} (h0 : 0 ≤ i) (h : xs[i.toNat]? = some d) : atI xs i = some d := by
  have hl : i.toNat < xs.length := (List.getElem?_eq_some_iff.mp h).1
  unfold atI ixN
  rw [if_pos h0, if_pos (by omega)]
  exact h
theorem endsOf_rt {R : DK} : (endsOf R).rt = fun d μ => fin R d μ := rfl
theorem endsOf_nx {R : DK} : (endsOf R).nx = fun _ μ => fin R .non μ := rfl
theorem gAdd_ii {i j : Int} {μ : Mu} {R : DK} : gAdd (.int i) (.int j) μ R = R (.int (i + j)) μ := rfl
theorem gAdd_ss {i j : Str} {μ : Mu} {R : DK} : gAdd (.str i) (.str j) μ R = (i.length + j.length ≤ sizeLine ∧ R (.str (i ++ j)) μ) := rfl
theorem gAdd_ll {i j : List D} {μ : Mu} {R : DK} (hz : i.length + j.length ≤ sizeLine) (h : R (.lst (i ++ j)) μ) : gAdd (.lst i) (.lst j) μ R := ⟨i, j, rfl, rfl, hz, h⟩
theorem gNeg_i {i : Int} {μ : Mu} {R : DK} : gNeg (.int i) μ R = R (.int (-i)) μ := rfl
theorem gMax2_ii {i j : Int} {μ : Mu} {R : DK} : gMax2 [.int i, .int j] μ R = R (.int (max i j)) μ := rfl
theorem gMin2_ii {i j : Int} {μ : Mu} {R : DK} : gMin2 [.int i, .int j] μ R = R (.int (min i j)) μ := rfl
theorem gLen_s {z : Str} {μ : Mu} {R : DK} : gLen [.str z] μ R = (z.length ≤ sizeLine ∧ R (.int z.length) μ) := rfl
theorem gLen_of {x : D} {xs : List D} {μ : Mu} {R : DK} (e : seqOf μ x = some xs) (h : R (.int xs.length) μ) : gLen [x] μ R := by
  cases x with
  | str z => cases e
  | _ => exact ⟨xs, e, h⟩
theorem gIsi_of {x : D} {n m : String} {b : Bool} {μ : Mu} {R : DK} (e : tyD μ x = some n) (k : kitB n m = some b) (h : R (.bl b) μ) : gIsi [x, .ty m] μ R := ⟨n, b, e, k, h⟩
theorem gEqS_ii {i j : Int} {μ : Mu} {R : DK} : gEqS (.int i) (.int j) μ R = R (.bl (decide (i = j))) μ := rfl
theorem gEqS_ss {i j : Str} {μ : Mu} {R : DK} : gEqS (.str i) (.str j) μ R = R (.bl (decide (i = j))) μ := rfl
theorem gEqS_bb {i j : Bool} {μ : Mu} {R : DK} : gEqS (.bl i) (.bl j) μ R = R (.bl (decide (i = j))) μ := rfl
theorem gNeS_ii {i j : Int} {μ : Mu} {R : DK} : gNeS (.int i) (.int j) μ R = R (.bl (!decide (i = j))) μ := rfl
theorem gNeS_ss {i j : Str} {μ : Mu} {R : DK} : gNeS (.str i) (.str j) μ R = R (.bl (!decide (i = j))) μ := rfl
theorem gIsN_n {x : D} {μ : Mu} {R : DK} : gIsN x .non μ R = R (.bl (isNonD x)) μ := rfl
theorem gNotN_n {x : D} {μ : Mu} {R : DK} : gNotN x .non μ R = R (.bl (!isNonD x)) μ := rfl
theorem gSl_s {z : Str} {lo hi : Option Int} {μ : Mu} {R : DK} : gSl (.str z) lo hi μ R = (z.length ≤ sizeLine ∧ R (.str (cutS z lo hi)) μ) := rfl
theorem gIx_s {z : Str} {i : Int} {μ : Mu} {R : DK} {c : Nat} (hz : z.length ≤ sizeLine) (h : atI z.cps.toList i = some c) (k : R (.str ⟨#[c]⟩) μ) : gIx (.str z) (.int i) μ R := ⟨c, hz, h, k⟩
/-! ### the law is entered with the script -/
theorem rps_ints {K : PySem.W.Frag} {F : Addr → Prop} {H : Hp} : ∀ ns : List Int, Rps K F H (ns.map D.int) (ns.map V.int)
  | [] => .nil
  | n :: r => .cons (.int n) (rps_ints r)
theorem enter_scr {K : PySem.W.Frag} {H : Hp} {a : Addr} {ns : List Int} {sp : Sp3} (hS : SqL K H a (ns.map V.int)) (h : sp [.scr (ns.map D.int)] (fun _ => none) (fun d _ => d = .bl true)) : lift K 1 sp [.ref a] H (fun v _ => v = .bl true) fun _ _ _ => False := by
  refine ⟨fun x => x = a ∧ Rd H a (.lst (ns.map V.int)), [.scr (ns.map D.int)], fun _ => none, fun d _ => d = .bl true, rfl, ⟨fun x f => ?_, fun x o e => (by cases e)⟩, .cons (.scr ?_ (rps_ints ns)) .nil, h, fun F' v H' d μ' _ r e => ?_⟩
  · obtain ⟨rfl, f | ⟨o, f⟩⟩ := f
    · exact ⟨_, f⟩
    · exact ⟨_, f⟩
  · rcases hS with r | r
    · exact .inl ⟨⟨rfl, r⟩, r⟩
    · exact .inr r
  · subst e
    cases r
    rfl
/-! ### isinstance by the written types -/
theorem kb_NoneType_int : kitB "NoneType" "int" = some false := by decide +kernel
theorem kb_NoneType_bool : kitB "NoneType" "bool" = some false := by decide +kernel
theorem kb_NoneType_str : kitB "NoneType" "str" = some false := by decide +kernel
theorem kb_NoneType_list : kitB "NoneType" "list" = some false := by decide +kernel
theorem kb_NoneType_tuple : kitB "NoneType" "tuple" = some false := by decide +kernel
theorem kb_NoneType_dict : kitB "NoneType" "dict" = some false := by decide +kernel
theorem kb_bool_int : kitB "bool" "int" = some true := by decide +kernel
theorem kb_bool_bool : kitB "bool" "bool" = some true := by decide +kernel
theorem kb_bool_str : kitB "bool" "str" = some false := by decide +kernel
theorem kb_bool_list : kitB "bool" "list" = some false := by decide +kernel
theorem kb_bool_tuple : kitB "bool" "tuple" = some false := by decide +kernel
theorem kb_bool_dict : kitB "bool" "dict" = some false := by decide +kernel
theorem kb_int_int : kitB "int" "int" = some true := by decide +kernel
theorem kb_int_bool : kitB "int" "bool" = some false := by decide +kernel
theorem kb_int_str : kitB "int" "str" = some false := by decide +kernel
theorem kb_int_list : kitB "int" "list" = some false := by decide +kernel
theorem kb_int_tuple : kitB "int" "tuple" = some false := by decide +kernel
theorem kb_int_dict : kitB "int" "dict" = some false := by decide +kernel
theorem kb_str_int : kitB "str" "int" = some false := by decide +kernel
theorem kb_str_bool : kitB "str" "bool" = some false := by decide +kernel
theorem kb_str_str : kitB "str" "str" = some true := by decide +kernel
theorem kb_str_list : kitB "str" "list" = some false := by decide +kernel
theorem kb_str_tuple : kitB "str" "tuple" = some false := by decide +kernel
theorem kb_str_dict : kitB "str" "dict" = some false := by decide +kernel
theorem kb_tuple_int : kitB "tuple" "int" = some false := by decide +kernel
theorem kb_tuple_bool : kitB "tuple" "bool" = some false := by decide +kernel
theorem kb_tuple_str : kitB "tuple" "str" = some false := by decide +kernel
theorem kb_tuple_list : kitB "tuple" "list" = some false := by decide +kernel
theorem kb_tuple_tuple : kitB "tuple" "tuple" = some true := by decide +kernel
theorem kb_tuple_dict : kitB "tuple" "dict" = some false := by decide +kernel
theorem kb_list_int : kitB "list" "int" = some false := by decide +kernel
theorem kb_list_bool : kitB "list" "bool" = some false := by decide +kernel
theorem kb_list_str : kitB "list" "str" = some false := by decide +kernel
theorem kb_list_list : kitB "list" "list" = some true := by decide +kernel
theorem kb_list_tuple : kitB "list" "tuple" = some false := by decide +kernel
theorem kb_list_dict : kitB "list" "dict" = some false := by decide +kernel
theorem kb_dict_int : kitB "dict" "int" = some false := by decide +kernel
theorem kb_dict_bool : kitB "dict" "bool" = some false := by decide +kernel
theorem kb_dict_str : kitB "dict" "str" = some false := by decide +kernel
theorem kb_dict_list : kitB "dict" "list" = some false := by decide +kernel
theorem kb_dict_tuple : kitB "dict" "tuple" = some false := by decide +kernel
theorem kb_dict_dict : kitB "dict" "dict" = some true := by decide +kernel
end L3

namespace K01
open PySem PySem.Spec L2 L3
local macro_rules | `(tactic| walk_at "l3") => `(tactic| simp only [sSeq, sNext, sIf, sRet, sRetN, sSet, sDrop, sSub, sFor, sAsg, vVar, vC, vNil, vCons, vOp, vB, vChain, vAnd, vOr, vNot, vAndV, vOrV, vNotV, vIf, vUn, vCB, vLst, vTup, vLstT, vCall, vSl, vPart, vNoP, vLc, vBM, vBM0, iRg1, iRg2, iSeq, iStr3, vDict0, vDisp, vPairs,
  List.getElem?_cons_zero, List.getElem?_cons_succ, List.set_cons_zero, List.set_cons_succ, wipe3, endsOf_rt, endsOf_nx, g2I, g2I0, gN, gAdd_ii, gAdd_ss, gNeg_i, gMax2_ii, gMin2_ii, gLen_s, gEqS_ii, gEqS_ss, gEqS_bb, gNeS_ii, gNeS_ss, gIsN_n, gNotN_n, gSl_s, isNonD, if_true, if_false, Bool.false_eq_true])
/-! ### the program's words -/
def intD : D → Bool
  | .int _ => true
  | _ => false
def cntD : D → Bool
  | .int i => decide (0 ≤ i)
  | _ => false
def letters : Str := "abcdefghijklmnopqrstuvwxyz"
def nameT (z : Str) : Bool := decide (1 ≤ z.length ∧ z.length ≤ 8) && z.cps.toList.all fun c => decide (c ∈ letters.cps.toList)
def nameD : D → Bool
  | .str z => nameT z
  | _ => false
theorem isi_int {μ : Mu} {x : D} {n : String} (h : tyD μ x = some n) : ∃ b, kitB n "int" = some b ∧ ((∃ i, x = .int i) ∧ b = true ∨ (∃ i, x = .bl i) ∧ b = true ∨ intD x = false ∧ b = false) := by
  cases x with
  | non => cases h; exact ⟨_, kb_NoneType_int, .inr (.inr ⟨rfl, rfl⟩)⟩
  | bl i => cases h; exact ⟨_, kb_bool_int, .inr (.inl ⟨⟨i, rfl⟩, rfl⟩)⟩
  | int i => cases h; exact ⟨_, kb_int_int, .inl ⟨⟨i, rfl⟩, rfl⟩⟩
  | str i => cases h; exact ⟨_, kb_str_int, .inr (.inr ⟨rfl, rfl⟩)⟩
  | tup i => cases h; exact ⟨_, kb_tuple_int, .inr (.inr ⟨rfl, rfl⟩)⟩
  | lst i => cases h; exact ⟨_, kb_list_int, .inr (.inr ⟨rfl, rfl⟩)⟩
  | dct i => cases h; exact ⟨_, kb_dict_int, .inr (.inr ⟨rfl, rfl⟩)⟩
  | ref a =>
    have h' : (match μ a with
      | some (.lst _) => some "list"
      | some (.dct _) => some "dict"
      | _ => none) = some n := h
    split at h'
    · cases h'; exact ⟨_, kb_list_int, .inr (.inr ⟨rfl, rfl⟩)⟩
    · cases h'; exact ⟨_, kb_dict_int, .inr (.inr ⟨rfl, rfl⟩)⟩
    · cases h'
  | _ => cases h
def sp_is_integer : Sp3 := fun ds μ R => ∃ x n, ds = [x] ∧ tyD μ x = some n ∧ R (.bl (intD x)) μ
def t_is_integer : TS3 := (sRet (vAndV (vCB gIsi (vCons (vVar 0) (vCons (vC (.ty "int")) vNil))) (vNotV (vCB gIsi (vCons (vVar 0) (vCons (vC (.ty "bool")) vNil))))))
theorem pure_is_integer (ds : List D) (μ : Mu) (R : DK) (hl : ds.length = 1) (h : sp_is_integer ds μ R) : t_is_integer (endsOf R) (start3 ["value"] ds) μ := by
  obtain ⟨x, n, rfl, ht, h⟩ := h
  show t_is_integer (endsOf R) [some x] μ
  unfold t_is_integer
  walk_at "l3"
  obtain ⟨b, hb, hc⟩ := isi_int ht
  refine ⟨n, b, ht, hb, ?_⟩
  rcases hc with ⟨⟨i, rfl⟩, rfl⟩ | ⟨⟨i, rfl⟩, rfl⟩ | ⟨hi, rfl⟩
  · cases ht
    exact ⟨_, _, rfl, kb_int_bool, fin_now h⟩
  · cases ht
    exact ⟨_, _, rfl, kb_bool_bool, fin_now h⟩
  · rw [hi] at h
    exact fin_now h
def sp_is_count : Sp3 := fun ds μ R => ∃ x n, ds = [x] ∧ tyD μ x = some n ∧ R (.bl (cntD x)) μ
def t_is_count : TS3 := (sRet (vAndV (vCall 1 sp_is_integer (vCons (vVar 0) vNil)) (vOp gGe (vVar 0) (vC (.int 0)))))
theorem pure_is_count (ds : List D) (μ : Mu) (R : DK) (hl : ds.length = 1) (h : sp_is_count ds μ R) : t_is_count (endsOf R) (start3 ["value"] ds) μ := by
  obtain ⟨x, n, rfl, ht, h⟩ := h
  show t_is_count (endsOf R) [some x] μ
  unfold t_is_count
  walk_at "l3"
  refine ⟨rfl, x, n, rfl, ht, ?_⟩
  cases x with
  | int i => exact fin_now h
  | _ => exact fin_now h
theorem isi_str {μ : Mu} {x : D} {n : String} (h : tyD μ x = some n) : ∃ b, kitB n "str" = some b ∧ ((∃ i, x = .str i) ∧ b = true ∨ nameD x = false ∧ b = false) := by
  cases x with
  | non => cases h; exact ⟨_, kb_NoneType_str, .inr ⟨rfl, rfl⟩⟩
  | bl i => cases h; exact ⟨_, kb_bool_str, .inr ⟨rfl, rfl⟩⟩
  | int i => cases h; exact ⟨_, kb_int_str, .inr ⟨rfl, rfl⟩⟩
  | str i => cases h; exact ⟨_, kb_str_str, .inl ⟨⟨i, rfl⟩, rfl⟩⟩
  | tup i => cases h; exact ⟨_, kb_tuple_str, .inr ⟨rfl, rfl⟩⟩
  | lst i => cases h; exact ⟨_, kb_list_str, .inr ⟨rfl, rfl⟩⟩
  | dct i => cases h; exact ⟨_, kb_dict_str, .inr ⟨rfl, rfl⟩⟩
  | ref a =>
    have h' : (match μ a with
      | some (.lst _) => some "list"
      | some (.dct _) => some "dict"
      | _ => none) = some n := h
    split at h'
    · cases h'; exact ⟨_, kb_list_str, .inr ⟨rfl, rfl⟩⟩
    · cases h'; exact ⟨_, kb_dict_str, .inr ⟨rfl, rfl⟩⟩
    · cases h'
  | _ => cases h
def sp_is_name : Sp3 := fun ds μ R => ∃ x n, ds = [x] ∧ tyD μ x = some n ∧ (∀ z, x = .str z → z.length ≤ 1000) ∧ R (.bl (nameD x)) μ
def t_is_name_1 : TS3 := (sRet (vCB gAll (vCons (vLc (iStr3 (vVar 0)) (gN 1) vYes (vOp gInS (vVar 1) (vC (.str "abcdefghijklmnopqrstuvwxyz"))) [1]) vNil)))
def t_is_name : TS3 := sSeq (sIf (vOr (vNot (vB (vCB gIsi (vCons (vVar 0) (vCons (vC (.ty "str")) vNil))))) (vNot (vB (vChain gLe gLe (vC (.int 1)) (vCB gLen (vCons (vVar 0) vNil)) (vC (.int 8)))))) (sRet (vC (.bl false))) sNext) t_is_name_1
theorem pure_is_name (ds : List D) (μ : Mu) (R : DK) (hl : ds.length = 1) (h : sp_is_name ds μ R) : t_is_name (endsOf R) (start3 ["value", "sign"] ds) μ := by
  obtain ⟨x, n, rfl, ht, hz, h⟩ := h
  show t_is_name (endsOf R) [some x, none] μ
  unfold t_is_name t_is_name_1
  walk_at "l3"
  obtain ⟨b, hb, hc⟩ := isi_str ht
  refine ⟨n, b, ht, hb, ?_⟩
  rcases hc with ⟨⟨z, rfl⟩, rfl⟩ | ⟨hi, rfl⟩
  · have hz' := hz z rfl
    have hs : z.length ≤ sizeLine := Nat.le_trans hz' (by decide)
    refine ⟨hs, ?_⟩
    walk_at "l3"
    by_cases h1 : (1 : Int) ≤ z.length
    · by_cases h2 : (z.length : Int) ≤ 8
      · simp only [h1, h2, decide_true, if_true, Bool.not_true, Bool.false_eq_true, if_false]
        refine lc_mapOf _ (fun c => .bl (decide (c ∈ letters.cps.toList))) z.cps.toList [] (fun c hc R' hR => ?_) (by simpa [Str.length] using hs) ?_
        · exact ⟨c, rfl, hR⟩
        · refine ⟨_, z.cps.toList.map fun c => decide (c ∈ letters.cps.toList), rfl, ?_, fin_now ?_⟩
          · show some _ = some _
            simp
          · have e : nameD (.str z) = (z.cps.toList.map fun c => decide (c ∈ letters.cps.toList)).all id := by
              show nameT z = _
              unfold nameT
              rw [decide_eq_true (show 1 ≤ z.length ∧ z.length ≤ 8 by omega)]
              simp
            rw [← e]
            exact h
      · simp only [h1, h2, decide_true, decide_false, if_true, Bool.not_false]
        have e : nameD (.str z) = false := by
          show nameT z = _
          unfold nameT
          rw [decide_eq_false (show ¬ (1 ≤ z.length ∧ z.length ≤ 8) by omega)]
          rfl
        rw [e] at h
        exact fin_now h
    · simp only [h1, decide_false, Bool.false_eq_true, if_false, Bool.not_false, if_true]
      have e : nameD (.str z) = false := by
        show nameT z = _
        unfold nameT
        rw [decide_eq_false (show ¬ (1 ≤ z.length ∧ z.length ≤ 8) by omega)]
        rfl
      rw [e] at h
      exact fin_now h
  · rw [hi] at h
    exact fin_now h
/-! ### the law's draws -/
structure BoxOk (n : Nat) (c0 c1 c2 : Int) : Prop where
  h0 : 0 ≤ c0
  h1 : 0 ≤ c1
  h2 : c1 < 2147483629
  h3 : 0 ≤ c2
  h4 : c2 ≤ n
/-- at b: a box from which at most n draws were made by reckoning -/
def Box (μ : Mu) (b : Addr) (n : Nat) : Prop := ∃ c0 c1 c2, μ b = some (.lst [.int c0, .int c1, .int c2]) ∧ BoxOk n c0 c1 c2
def Onl (b : Addr) (μ μ' : Mu) : Prop := ∀ a, a ≠ b → μ' a = μ a
theorem Onl.refl (b : Addr) (μ : Mu) : Onl b μ μ := fun _ _ => rfl
theorem Onl.trans {b : Addr} {μ μ1 μ2 : Mu} (h : Onl b μ μ1) (k : Onl b μ1 μ2) : Onl b μ μ2 := fun a ha => (k a ha).trans (h a ha)
theorem Box.mono {μ : Mu} {b : Addr} {n m : Nat} (h : Box μ b n) (l : n ≤ m) : Box μ b m := by
  obtain ⟨c0, c1, c2, e, k⟩ := h
  exact ⟨c0, c1, c2, e, k.h0, k.h1, k.h2, k.h3, by have := k.h4; omega⟩
def sp__law_cell : Sp3 := fun ds μ R => ∃ (ns : List Int) (k : Nat), ds = [.scr (ns.map D.int), .int k] ∧ k ≤ 100 ∧ ∀ z, R (.int z) μ
def t__law_cell_1 : TS3 := (sRet (vOp gAdd (vOp gMul (vC (.int 7919)) (vVar 1)) (vC (.int 131))))
def t__law_cell : TS3 := sSeq (sIf (vB (vOp gLt (vVar 1) (vCB gLen (vCons (vVar 0) vNil)))) (sRet (vOp gIx (vVar 0) (vVar 1))) sNext) t__law_cell_1
theorem pure__law_cell (ds : List D) (μ : Mu) (R : DK) (hl : ds.length = 2) (h : sp__law_cell ds μ R) : t__law_cell (endsOf R) (start3 ["_law_script", "_law_k"] ds) μ := by
  obtain ⟨ns, k, rfl, hk, h⟩ := h
  show t__law_cell (endsOf R) [some (.scr (ns.map D.int)), some (.int k)] μ
  unfold t__law_cell t__law_cell_1
  walk_at "l3"
  refine ⟨_, rfl, ?_⟩
  walk_at "l3"
  by_cases hlt : (k : Int) < ((ns.map D.int).length : Nat)
  · simp only [hlt, decide_true, if_true]
    have hk2 : k < ns.length := by simpa using hlt
    refine ⟨ns.map D.int, .int ns[k], rfl, ?_, fin_now (h _)⟩
    unfold atI ixN
    rw [if_pos (by omega), if_pos hlt]
    simp [hk2]
  · simp only [hlt, decide_false, Bool.false_eq_true, if_false]
    refine ⟨?_, fin_now (h _)⟩
    exact wide_mul (a := 20) (b := 20) (by decide) (by omega) (by decide) (by decide) (by decide)
def sp__law_box : Sp3 := fun ds μ R => ∃ z, ds = [.int z] ∧ ∀ b μ', μ b = none → Onl b μ μ' → Box μ' b 0 → R (.ref b) μ'
def t__law_box : TS3 := (sRet (vLstT (vCons (vCB gMax2 (vCons (vC (.int 0)) (vCons (vOp gSub (vVar 0) (vOp gPow (vC (.int 10)) (vC (.int 18)))) vNil))) (vCons (vOp gMod (vVar 0) (vC (.int 2147483629))) (vCons (vC (.int 0)) vNil)))))
theorem pure__law_box (ds : List D) (μ : Mu) (R : DK) (hl : ds.length = 1) (h : sp__law_box ds μ R) : t__law_box (endsOf R) (start3 ["_law_cell_here"] ds) μ := by
  obtain ⟨z, rfl, h⟩ := h
  show t__law_box (endsOf R) [some (.int z)] μ
  unfold t__law_box
  walk_at "l3"
  refine ⟨⟨by decide, by decide, by decide⟩, ?_⟩
  refine ⟨by decide, (by show 3 ≤ sizeLine; decide), fun q hq => fin_now (h q _ hq (fun a ha => mset_ne ha) ⟨_, _, _, mset_same, ?_⟩)⟩
  exact ⟨by omega, by omega, by omega, by decide, by decide⟩
def sp__law_take : Sp3 := fun ds μ R => ∃ b m n, ds = [.ref b, .int m] ∧ Box μ b n ∧ n < 1099511627776 ∧ 0 < m ∧ m < 1152921504606846976 ∧ ∀ r μ', 0 ≤ r → r < m → Onl b μ μ' → Box μ' b (n + 1) → R (.int r) μ'
def t__law_take_4 : TS3 := (sRet (vOp gMod (vOp gDiv (vVar 3) (vC (.int 8))) (vVar 1)))
def t__law_take_3 : TS3 := sSeq (sSet 3 (vOp gMod (vOp gPow (vOp gAdd (vVar 3) (vOp gMul (vC (.int 104729)) (vOp gIx (vVar 0) (vC (.int 2))))) (vC (.int 3))) (vC (.int 2147483587)))) t__law_take_4
def t__law_take_2 : TS3 := sSeq (sSet 3 (vOp gMod (vOp gPow (vOp gAdd (vOp gAdd (vOp gIx (vVar 0) (vC (.int 1))) (vOp gMul (vC (.int 7919)) (vOp gIx (vVar 0) (vC (.int 2))))) (vC (.int 43))) (vC (.int 5))) (vC (.int 2147483647)))) t__law_take_3
def t__law_take_1 : TS3 := sSeq (sSub gSetL (vOp gAdd (vOp gIx (vVar 0) (vC (.int 2))) (vC (.int 1))) (vVar 0) (vC (.int 2))) t__law_take_2
def t__law_take : TS3 := sSeq (sIf (vB (vOp gGt (vOp gIx (vVar 0) (vC (.int 0))) (vC (.int 0)))) (sSeq (sSet 2 (vOp gMod (vOp gIx (vVar 0) (vC (.int 0))) (vVar 1))) (sSeq (sSub gSetL (vOp gDiv (vOp gIx (vVar 0) (vC (.int 0))) (vVar 1)) (vVar 0) (vC (.int 0))) (sRet (vVar 2)))) sNext) t__law_take_1
theorem pure__law_take (ds : List D) (μ : Mu) (R : DK) (hl : ds.length = 2) (h : sp__law_take ds μ R) : t__law_take (endsOf R) (start3 ["_law_box_here", "_law_many", "_law_digit", "_law_number"] ds) μ := by
  obtain ⟨b, m, n, rfl, ⟨c0, c1, c2, e, k⟩, hn, hm, hm2, h⟩ := h
  show t__law_take (endsOf R) [some (.ref b), some (.int m), none, none] μ
  unfold t__law_take t__law_take_1 t__law_take_2 t__law_take_3 t__law_take_4
  walk_at "l3"
  refine ix_ref e rfl ?_
  walk_at "l3"
  by_cases hp : 0 < c0
  · simp only [hp, decide_true, if_true]
    refine ix_ref e rfl ⟨hm, ?_⟩
    refine ix_ref e rfl ⟨⟨hm, ?_⟩, ?_⟩
    · have := PySem.Flt.log2_lt_of (n := m.natAbs) (k := 60) (by decide) (by omega)
      omega
    · refine set_ref e rfl (fin_now ?_)
      refine h _ _ (Int.emod_nonneg _ (by omega)) (Int.emod_lt_of_pos _ hm) (fun a ha => mset_ne ha) ⟨_, _, _, mset_same, ?_⟩
      exact ⟨Int.ediv_nonneg k.h0 (by omega), k.h1, k.h2, k.h3, by have := k.h4; omega⟩
  · simp only [hp, decide_false, Bool.false_eq_true, if_false]
    have k4 := k.h4
    have k3 := k.h3
    have k2 := k.h2
    have k1 := k.h1
    refine ix_ref e rfl ?_
    rw [gAdd_ii]
    refine set_ref (i := 2) (j := 2) (v := .int (c2 + 1)) e rfl ?_
    have e1 : (mset μ b (.lst ([.int c0, .int c1, .int c2].set 2 (.int (c2 + 1))))) b = some (.lst [.int c0, .int c1, .int (c2 + 1)]) := mset_same
    refine ix_ref e1 rfl (ix_ref e1 rfl ⟨?_, ?_⟩)
    · exact wide_mul (a := 20) (b := 64) (by decide) (by omega) (by decide) (by decide) (by decide)
    refine ⟨⟨by decide, by decide, by omega⟩, ?_⟩
    refine ⟨(by show (0 : Int) < 2147483647; decide), ?_⟩
    refine ix_ref e1 rfl ⟨?_, ?_⟩
    · exact wide_mul (a := 20) (b := 64) (by decide) (by omega) (by decide) (by decide) (by decide)
    generalize hx : ((c1 + 7919 * (c2 + 1) + 43) ^ (5 : Int).toNat) % 2147483647 = x1
    have hx0 : 0 ≤ x1 := by rw [← hx]; exact Int.emod_nonneg _ (by decide)
    have hx1 : x1 < 2147483647 := by rw [← hx]; exact Int.emod_lt_of_pos _ (by decide)
    refine ⟨⟨by decide, by decide, by omega⟩, ?_⟩
    refine ⟨(by show (0 : Int) < 2147483587; decide), ?_⟩
    refine ⟨⟨by decide, by decide⟩, hm, fin_now ?_⟩
    refine h _ _ (Int.emod_nonneg _ (by omega)) (Int.emod_lt_of_pos _ hm) (fun a ha => mset_ne ha) ⟨_, _, _, mset_same, ?_⟩
    exact ⟨k.h0, k.h1, k.h2, by omega, by omega⟩
theorem join1 (zs : List Str) (h : ∀ a ∈ zs, a.length = 1) : (Txt.join (Str.ofString "") zs).length = zs.length := PySem.W.KT.join_ones zs h
theorem sum1 (zs : List Str) (h : ∀ a ∈ zs, a.length = 1) : (zs.map (·.length)).sum = zs.length := by
  induction zs with
  | nil => rfl
  | cons a r ih => rw [List.map_cons, List.sum_cons, h a List.mem_cons_self, ih fun b hb => h b (List.mem_cons_of_mem _ hb), List.length_cons]; omega
def sp__law_string : Sp3 := fun ds μ R => ∃ b n, ds = [.ref b] ∧ Box μ b n ∧ n < 1000000000 ∧ ∀ z μ', z.length ≤ 30 → Onl b μ μ' → Box μ' b (n + 20) → R (.str z) μ'
def t__law_string_5 : TS3 := (sRet (vVar 4))
def t__law_string_4 : TS3 := sSeq (sIf (vB (vOp gEqS (vCall 2 sp__law_take (vCons (vVar 0) (vCons (vC (.int 2)) vNil))) (vC (.int 0)))) (sSeq (sSet 6 (vCall 2 sp__law_take (vCons (vVar 0) (vCons (vOp gAdd (vVar 3) (vC (.int 1))) vNil)))) (sSet 4 (vOp gAdd (vOp gAdd (vSl (vVar 4) vNoP (vPart (vVar 6))) (vOp gIx (vVar 2) (vCall 2 sp__law_take (vCons (vVar 0) (vCons (vC (.int 34)) vNil))))) (vSl (vVar 4) (vPart (vOp gAdd (vVar 6) (vCall 2 sp__law_take (vCons (vVar 0) (vCons (vC (.int 2)) vNil))))) vNoP)))) sNext) t__law_string_5
def t__law_string_3 : TS3 := sSeq (sSet 4 (vBM "str" gJoin (vC (.str "")) (vCons (vLc (iRg1 (vCons (vVar 3) vNil)) (gN 5) vYes (vOp gIx (vVar 1) (vCall 2 sp__law_take (vCons (vVar 0) (vCons (vC (.int 26)) vNil)))) [5]) vNil))) t__law_string_4
def t__law_string_2 : TS3 := sSeq (sSet 3 (vOp gIx (vLst (vCons (vCall 2 sp__law_take (vCons (vVar 0) (vCons (vC (.int 11)) vNil))) (vCons (vC (.int 8)) (vCons (vC (.int 9)) vNil)))) (vCall 2 sp__law_take (vCons (vVar 0) (vCons (vC (.int 3)) vNil))))) t__law_string_3
def t__law_string_1 : TS3 := sSeq (sSet 2 (vOp gAdd (vVar 1) (vC (.str "AZ_-09 \n")))) t__law_string_2
def t__law_string : TS3 := sSeq (sSet 1 (vC (.str "abcdefghijklmnopqrstuvwxyz"))) t__law_string_1
theorem pure__law_string (ds : List D) (μ : Mu) (R : DK) (hl : ds.length = 1) (h : sp__law_string ds μ R) : t__law_string (endsOf R) (start3 ["_law_box_here", "_law_letters", "_law_some", "_law_many", "_law_text", "_law_k", "_law_at"] ds) μ := by
  obtain ⟨b, n, rfl, hb, hn, h⟩ := h
  show t__law_string (endsOf R) [some (.ref b), none, none, none, none, none, none] μ
  unfold t__law_string t__law_string_1 t__law_string_2 t__law_string_3 t__law_string_4 t__law_string_5
  walk_at "l3"
  refine ⟨by decide, rfl, b, 11, n, rfl, hb, by omega, by decide, by decide, fun r1 μ1 h1 h2 o1 b1 => ?_⟩
  refine ⟨(by show 3 ≤ sizeLine; decide), rfl, b, 3, n + 1, rfl, b1, by omega, by decide, by decide, fun r2 μ2 h3 h4 o2 b2 => ?_⟩
  have hm : ∃ m : Nat, m ≤ 10 ∧ atI [D.int r1, .int 8, .int 9] r2 = some (.int m) := by
    have : r2 = 0 ∨ r2 = 1 ∨ r2 = 2 := by omega
    rcases this with rfl | rfl | rfl
    · exact ⟨r1.toNat, by omega, by rw [Int.toNat_of_nonneg h1]; rfl⟩
    · exact ⟨8, by decide, rfl⟩
    · exact ⟨9, by decide, rfl⟩
  obtain ⟨m, hm, em⟩ := hm
  refine ix_lst em ?_
  walk_at "l3"
  refine ⟨rfl, by omega, by omega, ?_⟩
  rw [Int.toNat_natCast]
  refine lc_rg (Nat.lt_of_lt_of_le (by omega : m < 100) (by decide)) (fun k acc μ' => ∃ zs : List Str, acc = zs.map D.str ∧ (∀ a ∈ zs, a.length = 1) ∧ zs.length = k ∧ Onl b μ μ' ∧ Box μ' b (n + 2 + k)) ⟨[], rfl, (by simp), rfl, o1.trans o2, b2⟩ ?_ ?_ ?_
  · rintro k acc μ' ⟨zs, rfl, _, rfl, _, _⟩
    rw [List.length_map]
  · rintro acc μ3 ⟨zs, rfl, hz, hlz, o3, b3⟩
    refine ⟨_, _, zs, rfl, rfl, rfl, ?_, ?_⟩
    · rw [sum1 zs hz]
      have e0 : (Str.ofString "").length = 0 := by decide
      rw [e0]
      omega
    have hlt : (Txt.join (Str.ofString "") zs).length = m := by rw [join1 zs hz, hlz]
    generalize Txt.join (Str.ofString "") zs = z at hlt
    walk_at "l3"
    refine ⟨rfl, b, 2, _, rfl, b3, by omega, by decide, by decide, fun r5 μ5 g1 g2 o5 b5 => ?_⟩
    walk_at "l3"
    by_cases h0 : r5 = 0
    · simp only [h0, decide_true, if_true]
      refine ⟨rfl, b, _, _, rfl, b5, by omega, by omega, by omega, fun r6 μ6 g3 g4 o6 b6 => ?_⟩
      have hzs : z.length ≤ sizeLine := Nat.le_trans (by omega : z.length ≤ 100) (by decide)
      refine ⟨hzs, rfl, b, 34, _, rfl, b6, by omega, by decide, by decide, fun r7 μ7 g5 g6 o7 b7 => ?_⟩
      have hsome : ∃ c, atI ((Str.ofString "abcdefghijklmnopqrstuvwxyz") ++ (Str.ofString "AZ_-09 \n")).cps.toList r7 = some c := by
        have hll : ((Str.ofString "abcdefghijklmnopqrstuvwxyz") ++ (Str.ofString "AZ_-09 \n")).cps.toList.length = 34 := by decide +kernel
        refine ⟨((Str.ofString "abcdefghijklmnopqrstuvwxyz") ++ (Str.ofString "AZ_-09 \n")).cps.toList[r7.toNat]'(by rw [hll]; omega), atI_of g5 ?_⟩
        rw [List.getElem?_eq_getElem]
      obtain ⟨c, hc⟩ := hsome
      refine gIx_s (by decide +kernel) hc ?_
      walk_at "l3"
      have l1 : (cutS z none (some r6)).length ≤ z.length := cutS_length z none (some r6)
      have l2 : (⟨#[c]⟩ : Str).length = 1 := rfl
      refine ⟨Nat.le_trans (by omega : (cutS z none (some r6)).length + (⟨#[c]⟩ : Str).length ≤ 100) (by decide), rfl, b, 2, _, rfl, b7, by omega, by decide, by decide, fun r8 μ8 g7 g8 o8 b8 => ?_⟩
      walk_at "l3"
      have l3 : (cutS z (some (r6 + r8)) none).length ≤ z.length := cutS_length z _ _
      have l4 : (cutS z none (some r6) ++ (⟨#[c]⟩ : Str)).length = (cutS z none (some r6)).length + 1 := by rw [PySem.Str.length_append, l2]
      refine ⟨hzs, Nat.le_trans (by omega : _ ≤ 100) (by decide), ?_⟩
      refine fin_now (h _ μ8 ?_ ((((o3.trans o5).trans o6).trans o7).trans o8) (b8.mono (by omega)))
      rw [PySem.Str.length_append]
      omega
    · simp only [h0, decide_false, Bool.false_eq_true, if_false]
      exact fin_now (h z μ5 (by omega) (o3.trans o5) (b5.mono (by omega)))
  · rintro k acc μ' hk ⟨zs, rfl, hz, rfl, o3, b3⟩ N hN
    walk_at "l3"
    refine ⟨rfl, b, 26, _, rfl, b3, by omega, by decide, by decide, fun r μ4 g1 g2 o4 b4 => ?_⟩
    have hsome : ∃ c, atI (Str.ofString "abcdefghijklmnopqrstuvwxyz").cps.toList r = some c := by
      have hll : (Str.ofString "abcdefghijklmnopqrstuvwxyz").cps.toList.length = 26 := by decide +kernel
      refine ⟨(Str.ofString "abcdefghijklmnopqrstuvwxyz").cps.toList[r.toNat]'(by rw [hll]; omega), atI_of g1 ?_⟩
      rw [List.getElem?_eq_getElem]
    obtain ⟨c, hc⟩ := hsome
    refine gIx_s (by decide +kernel) hc (hN _ _ ⟨zs ++ [⟨#[c]⟩], by simp, ?_, by simp, o3.trans o4, b4⟩)
    intro a ha
    rcases List.mem_append.mp ha with ha | ha
    · exact hz a ha
    · rw [List.mem_singleton.mp ha]
      rfl
def sp__law_is : Sp3 := fun ds μ R => ∃ p q, ds = [.bl p, .bl q] ∧ R (.bl (decide (p = q))) μ
def t__law_is : TS3 := (sRet (vAndV (vCB gIsi (vCons (vVar 0) (vCons (vC (.ty "bool")) vNil))) (vOp gEqS (vVar 0) (vVar 1))))
theorem pure__law_is (ds : List D) (μ : Mu) (R : DK) (hl : ds.length = 2) (h : sp__law_is ds μ R) : t__law_is (endsOf R) (start3 ["_law_found", "_law_due"] ds) μ := by
  obtain ⟨p, q, rfl, h⟩ := h
  show t__law_is (endsOf R) [some (.bl p), some (.bl q)] μ
  unfold t__law_is
  walk_at "l3"
  exact ⟨_, _, rfl, kb_bool_bool, fin_now h⟩
def sp__law_right : Sp3 := fun ds μ R => ∃ b n, ds = [.ref b] ∧ Box μ b n ∧ n < 100000000 ∧ ∀ μ', Onl b μ μ' → Box μ' b (n + 40) → R (.bl true) μ'
def t__law_right_8 : TS3 := (sRet (vOrV (vCB gIsi (vCons (vVar 7) (vCons (vC (.ty "str")) vNil))) (vCall 2 sp__law_is (vCons (vCall 1 sp_is_name (vCons (vVar 7) vNil)) (vCons (vC (.bl false)) vNil)))))
def t__law_right_7 : TS3 := sSeq (sIf (vOr (vNot (vB (vCall 2 sp__law_is (vCons (vCall 1 sp_is_integer (vCons (vVar 7) vNil)) (vCons (vC (.bl false)) vNil))))) (vNot (vB (vCall 2 sp__law_is (vCons (vCall 1 sp_is_count (vCons (vVar 7) vNil)) (vCons (vC (.bl false)) vNil)))))) (sRet (vC (.bl false))) sNext) t__law_right_8
def t__law_right_6 : TS3 := sSeq (sSet 7 (vOp gIx (vLst (vCons (vVar 4) (vCons (vC .non) (vCons (vC (.bl true)) (vCons (vC (.bl false)) (vCons (vC (.str "")) (vCons (vC (.str "7")) (vCons (vLst vNil) (vCons (vTup vNil) (vCons vDict0 (vCons (vLst (vCons (vVar 2) vNil)) (vCons (vTup (vCons (vC (.str "a")) vNil)) (vCons (vDisp [((vC (.str "a")), (vC (.int 1)))]) (vCons (vLst (vCons (vVar 4) vNil)) vNil)))))))))))))) (vCall 2 sp__law_take (vCons (vVar 0) (vCons (vC (.int 13)) vNil))))) t__law_right_7
def t__law_right_5 : TS3 := sSeq (sIf (vNot (vB (vCall 2 sp__law_is (vCons (vCall 1 sp_is_name (vCons (vVar 4) vNil)) (vCons (vAndV (vChain gLe gLe (vC (.int 1)) (vCB gLen (vCons (vVar 4) vNil)) (vC (.int 8))) (vOp gEqS (vCB gLen (vCons (vVar 5) vNil)) (vCB gLen (vCons (vVar 4) vNil)))) vNil))))) (sRet (vC (.bl false))) sNext) t__law_right_6
def t__law_right_4 : TS3 := sSeq (sSet 5 (vLc (iStr3 (vVar 4)) (gN 6) (vB (vOp gInS (vVar 6) (vC (.str "abcdefghijklmnopqrstuvwxyz")))) (vVar 6) [6])) t__law_right_5
def t__law_right_3 : TS3 := sSeq (sSet 4 (vCall 1 sp__law_string (vCons (vVar 0) vNil))) t__law_right_4
def t__law_right_2 : TS3 := sSeq (sFor (iSeq (vLst (vCons (vVar 2) (vCons (vUn gNeg (vVar 2)) (vCons (vC (.int 0)) vNil))))) (gN 3) (sSeq (sIf (vOr (vNot (vB (vCall 2 sp__law_is (vCons (vCall 1 sp_is_integer (vCons (vVar 3) vNil)) (vCons (vC (.bl true)) vNil))))) (vNot (vB (vCall 2 sp__law_is (vCons (vCall 1 sp_is_count (vCons (vVar 3) vNil)) (vCons (vOp gGe (vVar 3) (vC (.int 0))) vNil)))))) (sRet (vC (.bl false))) sNext) (sIf (vNot (vB (vCall 2 sp__law_is (vCons (vCall 1 sp_is_name (vCons (vVar 3) vNil)) (vCons (vC (.bl false)) vNil))))) (sRet (vC (.bl false))) sNext))) t__law_right_3
def t__law_right_1 : TS3 := sSeq (sSet 2 (vOp gIx (vLst (vCons (vCall 2 sp__law_take (vCons (vVar 0) (vCons (vC (.int 5)) vNil))) (vCons (vOp gAdd (vC (.int 1)) (vCall 2 sp__law_take (vCons (vVar 0) (vCons (vC (.int 9)) vNil)))) (vCons (vVar 1) vNil)))) (vCall 2 sp__law_take (vCons (vVar 0) (vCons (vC (.int 3)) vNil))))) t__law_right_2
def t__law_right : TS3 := sSeq (sSet 1 (vOp gAdd (vOp gAdd (vOp gMul (vCall 2 sp__law_take (vCons (vVar 0) (vCons (vOp gPow (vC (.int 10)) (vC (.int 8))) vNil))) (vOp gPow (vC (.int 10)) (vC (.int 22)))) (vOp gMul (vCall 2 sp__law_take (vCons (vVar 0) (vCons (vOp gPow (vC (.int 10)) (vC (.int 8))) vNil))) (vOp gPow (vC (.int 10)) (vC (.int 11))))) (vCall 2 sp__law_take (vCons (vVar 0) (vCons (vOp gPow (vC (.int 10)) (vC (.int 8))) vNil))))) t__law_right_1
theorem right_8 {R : DK} {μ : Mu} {b : Addr} {x1 x2 x3 x5 x6 : Option D} {z : Str} {m : Int} {n : Nat} (hb : Box μ b n) (hz : z.length ≤ 30) (x : D) (hx : x ∈ [D.str z, .non, .bl true, .bl false, .str (Str.ofString ""), .str (Str.ofString "7"), .lst [], .tup [], .dct [], .lst [.int m], .tup [.str (Str.ofString "a")], .dct (mergeD [] [(.inr (Str.ofString "a"), .int 1)]), .lst [.str z]])
    (h : R (.bl true) μ) : t__law_right_7 (endsOf R) [some (.ref b), x1, x2, x3, some (.str z), x5, x6, some x] μ := by
  unfold t__law_right_7 t__law_right_8
  walk_at "l3"
  have key : ∃ n', tyD μ x = some n' ∧ intD x = false ∧ cntD x = false ∧ ((∃ y, x = .str y) ∨ nameD x = false ∧ kitB n' "str" = some false) := by
    simp only [List.mem_cons, List.not_mem_nil, or_false] at hx
    rcases hx with rfl | rfl | rfl | rfl | rfl | rfl | rfl | rfl | rfl | rfl | rfl | rfl | rfl
    all_goals first
      | exact ⟨_, rfl, rfl, rfl, .inl ⟨_, rfl⟩⟩
      | exact ⟨_, rfl, rfl, rfl, .inr ⟨rfl, kb_NoneType_str⟩⟩
      | exact ⟨_, rfl, rfl, rfl, .inr ⟨rfl, kb_bool_str⟩⟩
      | exact ⟨_, rfl, rfl, rfl, .inr ⟨rfl, kb_list_str⟩⟩
      | exact ⟨_, rfl, rfl, rfl, .inr ⟨rfl, kb_tuple_str⟩⟩
      | exact ⟨_, rfl, rfl, rfl, .inr ⟨rfl, kb_dict_str⟩⟩
  obtain ⟨n', ht, h1, h2, h3⟩ := key
  refine ⟨rfl, _, _, rfl, ht, rfl, _, _, rfl, ?_⟩
  simp only [h1, decide_true, Bool.not_true, Bool.false_eq_true, if_false]
  refine ⟨rfl, _, _, rfl, ht, rfl, _, _, rfl, ?_⟩
  simp only [h2, decide_true, Bool.not_true, Bool.false_eq_true, if_false]
  rcases h3 with ⟨y, rfl⟩ | ⟨h3, h4⟩
  · exact ⟨_, _, rfl, kb_str_str, fin_now h⟩
  · refine ⟨_, _, ht, h4, rfl, _, _, rfl, ht, ?_, rfl, _, _, rfl, ?_⟩
    · intro y e
      subst e
      cases ht
      rw [kb_str_str] at h4
      cases h4
    · rw [h3]
      exact fin_now h
theorem pure__law_right (ds : List D) (μ : Mu) (R : DK) (hl : ds.length = 1) (h : sp__law_right ds μ R) : t__law_right (endsOf R) (start3 ["_law_box_here", "_law_far", "_law_number", "_law_one", "_law_text", "_law_signs", "_law_sign", "_law_odd"] ds) μ := by
  obtain ⟨b, n, rfl, hb, hn, h⟩ := h
  show t__law_right (endsOf R) [some (.ref b), none, none, none, none, none, none, none] μ
  have p8 : (10 : Int) ^ Int.toNat 8 = 100000000 := by decide
  have p22 : (10 : Int) ^ Int.toNat 22 = 10000000000000000000000 := by decide
  have p11 : (10 : Int) ^ Int.toNat 11 = 100000000000 := by decide
  have cp : CPow 10 8 := ⟨by decide, by decide, by decide⟩
  unfold t__law_right
  walk_at "l3"
  rw [p8, p22, p11]
  refine ⟨cp, rfl, b, _, n, rfl, hb, by omega, by decide, by decide, fun r1 μ1 g1 g1' o1 b1 => ⟨⟨by decide, by decide, by decide⟩, ?_⟩⟩
  refine ⟨wide_mul (a := 30) (b := 80) (by omega) (by decide) (by decide) (by decide) (by decide), ?_⟩
  refine ⟨cp, rfl, b, _, _, rfl, b1, by omega, by decide, by decide, fun r2 μ2 g2 g2' o2 b2 => ⟨⟨by decide, by decide, by decide⟩, ?_⟩⟩
  refine ⟨wide_mul (a := 30) (b := 40) (by omega) (by decide) (by decide) (by decide) (by decide), ?_⟩
  refine ⟨cp, rfl, b, _, _, rfl, b2, by omega, by decide, by decide, fun r3 μ3 g3 g3' o3 b3 => ?_⟩
  generalize hfar : r1 * 10000000000000000000000 + r2 * 100000000000 + r3 = far
  rw [gAdd_ii, hfar]
  unfold t__law_right_1
  walk_at "l3"
  refine ⟨rfl, b, _, _, rfl, b3, by omega, by decide, by decide, fun r4 μ4 g4 g4' o4 b4 => ?_⟩
  refine ⟨rfl, b, _, _, rfl, b4, by omega, by decide, by decide, fun r5 μ5 g5 g5' o5 b5 => ?_⟩
  refine ⟨(by show 3 ≤ sizeLine; decide), rfl, b, _, _, rfl, b5, by omega, by decide, by decide, fun r6 μ6 g6 g6' o6 b6 => ?_⟩
  have o' := ((((o1.trans o2).trans o3).trans o4).trans o5).trans o6
  have hm : ∃ m, atI [D.int r4, .int (1 + r5), .int far] r6 = some (.int m) := by
    have : r6 = 0 ∨ r6 = 1 ∨ r6 = 2 := by omega
    rcases this with rfl | rfl | rfl <;> exact ⟨_, rfl⟩
  obtain ⟨m, em⟩ := hm
  refine ix_lst em ?_
  unfold t__law_right_2
  walk_at "l3"
  refine ⟨(by show 3 ≤ sizeLine; decide), ?_⟩
  refine for_ind (W := fun ds δ μ' => (∀ d ∈ ds, ∃ i, d = .int i) ∧ μ' = μ6 ∧ ∃ y, δ = [some (.ref b), some (.int far), some (.int m), y, none, none, none, none]) ?_ ?_ _ _ _ ⟨?_, rfl, none, rfl⟩
  · rintro δ μ' ⟨_, rfl, y, rfl⟩
    refine ⟨trivial, ?_⟩
    dsimp only
    unfold t__law_right_3
    walk_at "l3"
    refine ⟨rfl, b, _, rfl, b6, by omega, fun z μ7 hz o7 b7 => ?_⟩
    have hzs : z.length ≤ sizeLine := Nat.le_trans (by omega : z.length ≤ 100) (by decide)
    unfold t__law_right_4
    walk_at "l3"
    refine lc_filterOf (fun c => decide (c ∈ letters.cps.toList)) _ (fun c => .str ⟨#[c]⟩) z.cps.toList [] (fun c hc R' hR => ⟨c, rfl, hR⟩) (fun c hc _ R' hR => hR) (by simpa [Str.length] using hzs) ?_
    rw [List.nil_append]
    generalize hsg : (List.filter (fun c => decide (c ∈ letters.cps.toList)) z.cps.toList) = sg
    have rest : ∀ (x6 : Option D), t__law_right_6 (endsOf R) [some (.ref b), some (.int far), some (.int m), y, some (.str z), some (.lst (sg.map fun c => .str ⟨#[c]⟩)), x6, none] μ7 := by
      intro x6
      unfold t__law_right_6
      walk_at "l3"
      refine ⟨by decide, by decide, (by show 1 ≤ sizeLine; decide), (by show 1 ≤ sizeLine; decide), _, rfl, by decide, (by show 1 ≤ sizeLine; decide), (by show 13 ≤ sizeLine; decide), rfl, b, _, _, rfl, b7, by omega, by decide, by decide, fun r8 μ8 g8 g8' o8 b8 => ?_⟩
      have hx : ∃ x, atI [D.str z, .non, .bl true, .bl false, .str (Str.ofString ""), .str (Str.ofString "7"), .lst [], .tup [], .dct [], .lst [.int m], .tup [.str (Str.ofString "a")], .dct (mergeD [] [(.inr (Str.ofString "a"), .int 1)]), .lst [.str z]] r8 = some x ∧
          x ∈ [D.str z, .non, .bl true, .bl false, .str (Str.ofString ""), .str (Str.ofString "7"), .lst [], .tup [], .dct [], .lst [.int m], .tup [.str (Str.ofString "a")], .dct (mergeD [] [(.inr (Str.ofString "a"), .int 1)]), .lst [.str z]] := by
        refine ⟨_, atI_of g8 (List.getElem?_eq_getElem (by simp; omega)), List.getElem_mem _⟩
      obtain ⟨x, ex, hx⟩ := hx
      refine ix_lst ex ?_
      exact right_8 b8 hz x hx (h μ8 ((o'.trans o7).trans o8) (b8.mono (by omega)))
    unfold t__law_right_5
    walk_at "l3"
    have hlen : (((sg.map fun c => D.str ⟨#[c]⟩).length : Int) = z.length) ↔ z.cps.toList.all (fun c => decide (c ∈ letters.cps.toList)) = true := by
      rw [List.length_map, ← hsg]
      have e1 : z.length = z.cps.toList.length := by simp [Str.length]
      rw [e1, List.all_eq_true]
      constructor
      · intro e
        exact List.length_filter_eq_length_iff.mp (by omega)
      · intro e
        rw [List.length_filter_eq_length_iff.mpr e]
    refine ⟨rfl, _, _, rfl, rfl, (fun z' e => by cases e; omega), hzs, ?_⟩
    have hn8 : nameD (.str z) = nameT z := rfl
    rw [hn8]
    by_cases h1 : (1 : Int) ≤ z.length
    · by_cases h2 : (z.length : Int) ≤ 8
      · simp only [h1, h2, decide_true, if_true]
        refine gLen_of rfl ⟨hzs, ?_⟩
        rw [gEqS_ii]
        refine ⟨rfl, _, _, rfl, ?_⟩
        have e : nameT z = decide (((sg.map fun c => D.str ⟨#[c]⟩).length : Int) = z.length) := by
          unfold nameT
          rw [decide_eq_true (show 1 ≤ z.length ∧ z.length ≤ 8 by omega), Bool.true_and]
          by_cases q : z.cps.toList.all (fun c => decide (c ∈ letters.cps.toList)) = true
          · rw [q, decide_eq_true (hlen.mpr q)]
          · rw [decide_eq_false (fun r => q (hlen.mp r))]
            simpa using q
        rw [e]
        simp only [decide_true, Bool.not_true, Bool.false_eq_true, if_false]
        exact rest _
      · simp only [h1, h2, decide_true, decide_false, if_true, Bool.false_eq_true, if_false]
        refine ⟨rfl, _, _, rfl, ?_⟩
        have e : nameT z = false := by
          unfold nameT
          rw [decide_eq_false (show ¬ (1 ≤ z.length ∧ z.length ≤ 8) by omega), Bool.false_and]
        rw [e]
        simp only [decide_true, Bool.not_true, Bool.false_eq_true, if_false]
        exact rest _
    · simp only [h1, decide_false, Bool.false_eq_true, if_false]
      refine ⟨rfl, _, _, rfl, ?_⟩
      have e : nameT z = false := by
        unfold nameT
        rw [decide_eq_false (show ¬ (1 ≤ z.length ∧ z.length ≤ 8) by omega), Bool.false_and]
      rw [e]
      simp only [decide_true, Bool.not_true, Bool.false_eq_true, if_false]
      exact rest _
  · rintro d ds δ μ' ⟨hd, rfl, y, rfl⟩
    obtain ⟨i, rfl⟩ := hd d List.mem_cons_self
    refine ⟨trivial, _, rfl, fun N hN => ?_⟩
    walk_at "l3"
    refine ⟨rfl, _, _, rfl, rfl, rfl, _, _, rfl, ?_⟩
    simp only [intD, decide_true, Bool.not_true, Bool.false_eq_true, if_false]
    refine ⟨rfl, _, _, rfl, rfl, rfl, _, _, rfl, ?_⟩
    simp only [cntD, decide_true, Bool.not_true, Bool.false_eq_true, if_false]
    refine ⟨rfl, _, _, rfl, rfl, (by simp), rfl, _, _, rfl, ?_⟩
    simp only [nameD, decide_true, Bool.not_true, Bool.false_eq_true, if_false]
    exact hN _ _ ⟨fun d' h' => hd d' (List.mem_cons_of_mem _ h'), rfl, _, rfl⟩
  · intro d hd
    simp only [List.mem_cons, List.not_mem_nil, or_false] at hd
    rcases hd with rfl | rfl | rfl
    · exact ⟨_, rfl⟩
    · exact ⟨_, rfl⟩
    · exact ⟨_, rfl⟩
def sp_law : Sp3 := fun ds μ R => ∃ ns : List Int, ds = [.scr (ns.map D.int)] ∧ ns.length ≤ 63 ∧ ∀ μ', R (.bl true) μ'
def t_law_1 : TS3 := (sRet (vC (.bl true)))
def t_law : TS3 := sSeq (sFor (iRg1 (vCons (vCB gMax2 (vCons (vC (.int 2)) (vCons (vCB gMin2 (vCons (vC (.int 12)) (vCons (vCB gLen (vCons (vVar 0) vNil)) vNil))) vNil))) vNil)) (gN 1) (sSeq (sSet 2 (vCall 1 sp__law_box (vCons (vCall 2 sp__law_cell (vCons (vVar 0) (vCons (vVar 1) vNil))) vNil))) (sFor (iRg1 (vCons (vC (.int 6)) vNil)) (gN 3) (sIf (vNot (vB (vCall 1 sp__law_right (vCons (vVar 2) vNil)))) (sRet (vC (.bl false))) sNext)))) t_law_1
theorem pure_law (ds : List D) (μ : Mu) (R : DK) (hl : ds.length = 1) (h : sp_law ds μ R) : t_law (endsOf R) (start3 ["_law_script", "_law_k", "_law_box_here", "_law_turn"] ds) μ := by
  obtain ⟨ns, rfl, hn, h⟩ := h
  show t_law (endsOf R) [some (.scr (ns.map D.int)), none, none, none] μ
  unfold t_law
  walk_at "l3"
  refine gLen_of rfl ?_
  walk_at "l3"
  generalize hq : (max 2 (min 12 ((ns.map D.int).length : Int))) = q
  have hq2 : 0 ≤ q ∧ q ≤ 12 := by omega
  refine ⟨by omega, by omega, ?_⟩
  refine for_rg (fun k δ μ' => ∃ y1 y2 y3, δ = [some (.scr (ns.map D.int)), y1, y2, y3]) ⟨none, none, none, rfl⟩ ?_ ?_
  · rintro δ μ' ⟨y1, y2, y3, rfl⟩
    exact fin_now (h _)
  · rintro k δ μ' hk ⟨y1, y2, y3, rfl⟩ N hN
    walk_at "l3"
    refine ⟨rfl, ns, k, by simp, by omega, fun z => ⟨rfl, z, rfl, fun b μ1 hb o1 b1 => ⟨by decide, by decide, ?_⟩⟩⟩
    refine for_rg (fun j δ μ' => (∃ y3, δ = [some (.scr (ns.map D.int)), some (.int (0 + (k : Int))), some (.ref b), y3]) ∧ Box μ' b (40 * j)) ⟨⟨y3, rfl⟩, b1⟩ ?_ ?_
    · rintro δ μ2 ⟨⟨y, rfl⟩, _⟩
      exact hN _ _ ⟨_, _, _, rfl⟩
    · rintro j δ μ2 hj ⟨⟨y, rfl⟩, b2⟩ N2 hN2
      walk_at "l3"
      have hj6 : j < 6 := hj
      refine ⟨rfl, b, _, rfl, b2, by omega, fun μ3 o3 b3 => ?_⟩
      exact hN2 _ _ ⟨⟨_, rfl⟩, b3.mono (by omega)⟩
theorem enter {K : PySem.W.Frag} {H : Hp} {a : Addr} {ns : List Int} (hl : ns.length ≤ 63) (hS : SqL K H a (ns.map V.int)) : lift K 1 sp_law [.ref a] H (fun v _ => v = .bl true) fun _ _ _ => False := enter_scr hS ⟨ns, rfl, hl, fun _ => rfl⟩

end K01

namespace K01
open PySem PySem.Spec L2 L3
/-! ### the text -/
def topS (j : Nat) : Stmt := (PySem.Challenge.pw_pileups_k01_kinds_of_words).main.body.getD j (Stmt.Pass ⟨0, 0, 0, 0⟩)
/-- what the names of the module hold -/
structure Bl (mg : Str → Option Value) : Prop where
  b_all : mg "all" = none
  b_bool : mg "bool" = none
  b_int : mg "int" = none
  b_isinstance : mg "isinstance" = none
  b_len : mg "len" = none
  b_max : mg "max" = none
  b_min : mg "min" = none
  b_range : mg "range" = none
  b_str : mg "str" = none
  k_LETTERS : ∃ t, mg "LETTERS" = some (.str "abcdefghijklmnopqrstuvwxyz" t)
  k_MOST_LETTERS : ∃ t, mg "MOST_LETTERS" = some (.int 8 t)
section
variable {P : Program} {w : World} {K : PySem.W.Frag} {mg : Str → Option Value} {base : Heap}
theorem sc_is_integer : FnScope ["value"] ["value"] (defScope (topS 3)) := ⟨rfl, rfl, rfl, by decide +kernel, rfl, by decide +kernel, by decide +kernel⟩
theorem ok_is_integer {f : Addr} {fd : FuncData} (T : Bl mg)  (F : Fun K "is_integer" "is_integer" (topS 3) f fd) : FnOk P w K mg base CX0 1 f fd ["value"] (lift K 1 sp_is_integer) := by
  have nd := sc_is_integer.nd
  refine F.ok3 sc_is_integer fun cdv A outer s H E hr => ⟨t_is_integer, ?_, pure_is_integer⟩
  exact (ss_one (s_ret (e_and (e_callB (c_isi) T.b_isinstance (by decide +kernel) (a_cons (e_var 0) (a_cons (e_bty T.b_int (by decide +kernel)) a_nil))) (e_one (e_not (e_callB (c_isi) T.b_isinstance (by decide +kernel) (a_cons (e_var 0) (a_cons (e_bty T.b_bool (by decide +kernel)) a_nil))))))))
theorem sc_is_count : FnScope ["value"] ["value"] (defScope (topS 4)) := ⟨rfl, rfl, rfl, by decide +kernel, rfl, by decide +kernel, by decide +kernel⟩
theorem ok_is_count {f : Addr} {fd : FuncData} (T : Bl mg) (c_is_integer : Fn3 P w K mg base 1 "is_integer" 1 sp_is_integer) (F : Fun K "is_count" "is_count" (topS 4) f fd) : FnOk P w K mg base CX0 2 f fd ["value"] (lift K 1 sp_is_count) := by
  have nd := sc_is_count.nd
  refine F.ok3 sc_is_count fun cdv A outer s H E hr => ⟨t_is_count, ?_, pure_is_count⟩
  exact (ss_one (s_ret (e_and (e_call c_is_integer hr (a_cons (e_var 0) a_nil)) (e_one (e_cmp o_ge (e_var 0) e_int)))))
theorem sc_is_name : FnScope ["value", "sign"] ["value"] (defScope (topS 5)) := ⟨rfl, rfl, rfl, by decide +kernel, rfl, by decide +kernel, by decide +kernel⟩
theorem ok_is_name {f : Addr} {fd : FuncData} (T : Bl mg)  (F : Fun K "is_name" "is_name" (topS 5) f fd) : FnOk P w K mg base CX0 1 f fd ["value"] (lift K 1 sp_is_name) := by
  have nd := sc_is_name.nd
  refine F.ok3 sc_is_name fun cdv A outer s H E hr => ⟨t_is_name, ?_, pure_is_name⟩
  exact (ss_cons (s_if (t_w (w_or (t_not (t_val (e_callB (c_isi) T.b_isinstance (by decide +kernel) (a_cons (e_var 0) (a_cons (e_bty T.b_str (by decide +kernel)) a_nil))))) (w_or1 (t_not (t_chain o_le o_le e_int (e_callB (c_len) T.b_len PySem.boot_len (a_cons (e_var 0) a_nil)) (e_gint (T.k_MOST_LETTERS).choose_spec)))))) (ss_one (s_ret e_bl)) ss_nil) (ss_one (s_ret (e_callB (c_all rfl) T.b_all (by decide +kernel) (a_cons (e_lc (own := [("sign", 1)]) (vs := [1]) (tt := vYes) (te := (vOp gInS (vVar 1) (vC (.str "abcdefghijklmnopqrstuvwxyz")))) rfl nd (i_str (e_var 0)) (blkOk_by (N := ["value", "sign"]) (sc := defScope (topS 5)) (by decide +kernel)) (tg_name 1) (fun j hj => hj) (fun _ _ _ _ _ => pg_name (i := 1) nd rfl (Or.inl rfl)) (fun _ _ _ _ _ => ts_nil) (fun _ _ _ _ _ => (e_cmp o_inS (e_var 1) (e_gstr (T.k_LETTERS).choose_spec)))) a_nil)))))
theorem sc__law_cell : FnScope ["_law_script", "_law_k"] ["_law_script", "_law_k"] (defScope (topS 7)) := ⟨rfl, rfl, rfl, by decide +kernel, rfl, by decide +kernel, by decide +kernel⟩
theorem ok__law_cell {f : Addr} {fd : FuncData} (T : Bl mg)  (F : Fun K "_law_cell" "_law_cell" (topS 7) f fd) : FnOk P w K mg base CX0 1 f fd ["_law_script", "_law_k"] (lift K 2 sp__law_cell) := by
  have nd := sc__law_cell.nd
  refine F.ok3 sc__law_cell fun cdv A outer s H E hr => ⟨t__law_cell, ?_, pure__law_cell⟩
  exact (ss_cons (s_if (t_cmp o_lt (e_var 1) (e_callB (c_len) T.b_len PySem.boot_len (a_cons (e_var 0) a_nil))) (ss_one (s_ret (e_ix (e_var 0) (e_var 1)))) ss_nil) (ss_one (s_ret (e_op o_add (e_op o_mul e_int (e_var 1)) e_int))))
theorem sc__law_box : FnScope ["_law_cell_here"] ["_law_cell_here"] (defScope (topS 8)) := ⟨rfl, rfl, rfl, by decide +kernel, rfl, by decide +kernel, by decide +kernel⟩
theorem ok__law_box {f : Addr} {fd : FuncData} (T : Bl mg)  (F : Fun K "_law_box" "_law_box" (topS 8) f fd) : FnOk P w K mg base CX0 1 f fd ["_law_cell_here"] (lift K 1 sp__law_box) := by
  have nd := sc__law_box.nd
  refine F.ok3 sc__law_box fun cdv A outer s H E hr => ⟨t__law_box, ?_, pure__law_box⟩
  exact (ss_one (s_ret (e_lstT (a_cons (e_callB (c_max2 rfl) T.b_max (by decide +kernel) (a_cons e_int (a_cons (e_op o_sub (e_var 0) (e_op o_pow e_int e_int)) a_nil))) (a_cons (e_op o_mod (e_var 0) e_int) (a_cons e_int a_nil))))))
theorem sc__law_take : FnScope ["_law_box_here", "_law_many", "_law_digit", "_law_number"] ["_law_box_here", "_law_many"] (defScope (topS 9)) := ⟨rfl, rfl, rfl, by decide +kernel, rfl, by decide +kernel, by decide +kernel⟩
theorem ok__law_take {f : Addr} {fd : FuncData} (T : Bl mg)  (F : Fun K "_law_take" "_law_take" (topS 9) f fd) : FnOk P w K mg base CX0 1 f fd ["_law_box_here", "_law_many"] (lift K 2 sp__law_take) := by
  have nd := sc__law_take.nd
  refine F.ok3 sc__law_take fun cdv A outer s H E hr => ⟨t__law_take, ?_, pure__law_take⟩
  exact (ss_cons (s_if (t_cmp o_gt (e_ix (e_var 0) e_int) e_int) (ss_cons (s_set (i := 2) nd (e_op o_mod (e_ix (e_var 0) e_int) (e_var 1))) (ss_cons (s_sub st_list (e_op o_div (e_ix (e_var 0) e_int) (e_var 1)) (e_var 0) e_int) (ss_one (s_ret (e_var 2))))) ss_nil) (ss_cons (s_sub st_list (e_op o_add (e_ix (e_var 0) e_int) e_int) (e_var 0) e_int) (ss_cons (s_set (i := 3) nd (e_op o_mod (e_op o_pow (e_op o_add (e_op o_add (e_ix (e_var 0) e_int) (e_op o_mul e_int (e_ix (e_var 0) e_int))) e_int) e_int) e_int)) (ss_cons (s_set (i := 3) nd (e_op o_mod (e_op o_pow (e_op o_add (e_var 3) (e_op o_mul e_int (e_ix (e_var 0) e_int))) e_int) e_int)) (ss_one (s_ret (e_op o_mod (e_op o_div (e_var 3) e_int) (e_var 1))))))))
theorem sc__law_string : FnScope ["_law_box_here", "_law_letters", "_law_some", "_law_many", "_law_text", "_law_k", "_law_at"] ["_law_box_here"] (defScope (topS 10)) := ⟨rfl, rfl, rfl, by decide +kernel, rfl, by decide +kernel, by decide +kernel⟩
theorem ok__law_string {f : Addr} {fd : FuncData} (T : Bl mg) (c__law_take : Fn3 P w K mg base 1 "_law_take" 2 sp__law_take) (F : Fun K "_law_string" "_law_string" (topS 10) f fd) : FnOk P w K mg base CX0 2 f fd ["_law_box_here"] (lift K 1 sp__law_string) := by
  have nd := sc__law_string.nd
  refine F.ok3 sc__law_string fun cdv A outer s H E hr => ⟨t__law_string, ?_, pure__law_string⟩
  exact (ss_cons (s_set (i := 1) nd e_str) (ss_cons (s_set (i := 2) nd (e_op o_add (e_var 1) e_str)) (ss_cons (s_set (i := 3) nd (e_ix (e_lst (a_cons (e_call c__law_take hr (a_cons (e_var 0) (a_cons e_int a_nil))) (a_cons e_int (a_cons e_int a_nil)))) (e_call c__law_take hr (a_cons (e_var 0) (a_cons e_int a_nil))))) (ss_cons (s_set (i := 4) nd (e_bm PySem.F.plainAttrs_str PySem.F.slot_str_join PySem.F.type_str_join m_join e_str (a_cons (e_lc (own := [("_law_k", 5)]) (vs := [5]) (tt := vYes) (te := (vOp gIx (vVar 1) (vCall 2 sp__law_take (vCons (vVar 0) (vCons (vC (.int 26)) vNil))))) rfl nd (i_range1 T.b_range (a_cons (e_var 3) a_nil)) (blkOk_by (N := ["_law_box_here", "_law_letters", "_law_some", "_law_many", "_law_text", "_law_k", "_law_at"]) (sc := defScope (topS 10)) (by decide +kernel)) (tg_name 5) (fun j hj => hj) (fun _ _ _ _ _ => pg_name (i := 5) nd rfl (Or.inl rfl)) (fun _ _ _ _ _ => ts_nil) (fun _ _ _ _ _ => (e_ix (e_var 1) (e_call c__law_take hr (a_cons (e_var 0) (a_cons e_int a_nil)))))) a_nil))) (ss_cons (s_if (t_cmp o_eqS (e_call c__law_take hr (a_cons (e_var 0) (a_cons e_int a_nil))) e_int) (ss_cons (s_set (i := 6) nd (e_call c__law_take hr (a_cons (e_var 0) (a_cons (e_op o_add (e_var 3) e_int) a_nil)))) (ss_one (s_set (i := 4) nd (e_op o_add (e_op o_add (e_slice (e_var 4) p_none (p_some (e_var 6))) (e_ix (e_var 2) (e_call c__law_take hr (a_cons (e_var 0) (a_cons e_int a_nil))))) (e_slice (e_var 4) (p_some (e_op o_add (e_var 6) (e_call c__law_take hr (a_cons (e_var 0) (a_cons e_int a_nil))))) p_none))))) ss_nil) (ss_one (s_ret (e_var 4))))))))
theorem sc__law_is : FnScope ["_law_found", "_law_due"] ["_law_found", "_law_due"] (defScope (topS 11)) := ⟨rfl, rfl, rfl, by decide +kernel, rfl, by decide +kernel, by decide +kernel⟩
theorem ok__law_is {f : Addr} {fd : FuncData} (T : Bl mg)  (F : Fun K "_law_is" "_law_is" (topS 11) f fd) : FnOk P w K mg base CX0 1 f fd ["_law_found", "_law_due"] (lift K 2 sp__law_is) := by
  have nd := sc__law_is.nd
  refine F.ok3 sc__law_is fun cdv A outer s H E hr => ⟨t__law_is, ?_, pure__law_is⟩
  exact (ss_one (s_ret (e_and (e_callB (c_isi) T.b_isinstance (by decide +kernel) (a_cons (e_var 0) (a_cons (e_bty T.b_bool (by decide +kernel)) a_nil))) (e_one (e_cmp o_eqS (e_var 0) (e_var 1))))))
theorem sc__law_right : FnScope ["_law_box_here", "_law_far", "_law_number", "_law_one", "_law_text", "_law_signs", "_law_sign", "_law_odd"] ["_law_box_here"] (defScope (topS 12)) := ⟨rfl, rfl, rfl, by decide +kernel, rfl, by decide +kernel, by decide +kernel⟩
theorem ok__law_right {f : Addr} {fd : FuncData} (T : Bl mg) (c__law_take : Fn3 P w K mg base 1 "_law_take" 2 sp__law_take) (c_is_integer : Fn3 P w K mg base 1 "is_integer" 1 sp_is_integer) (c__law_is : Fn3 P w K mg base 1 "_law_is" 2 sp__law_is) (c_is_count : Fn3 P w K mg base 2 "is_count" 1 sp_is_count) (c_is_name : Fn3 P w K mg base 1 "is_name" 1 sp_is_name) (c__law_string : Fn3 P w K mg base 2 "_law_string" 1 sp__law_string) (F : Fun K "_law_right" "_law_right" (topS 12) f fd) : FnOk P w K mg base CX0 3 f fd ["_law_box_here"] (lift K 1 sp__law_right) := by
  have nd := sc__law_right.nd
  refine F.ok3 sc__law_right fun cdv A outer s H E hr => ⟨t__law_right, ?_, pure__law_right⟩
  exact (ss_cons (s_set (i := 1) nd (e_op o_add (e_op o_add (e_op o_mul (e_call c__law_take hr (a_cons (e_var 0) (a_cons (e_op o_pow e_int e_int) a_nil))) (e_op o_pow e_int e_int)) (e_op o_mul (e_call c__law_take hr (a_cons (e_var 0) (a_cons (e_op o_pow e_int e_int) a_nil))) (e_op o_pow e_int e_int))) (e_call c__law_take hr (a_cons (e_var 0) (a_cons (e_op o_pow e_int e_int) a_nil))))) (ss_cons (s_set (i := 2) nd (e_ix (e_lst (a_cons (e_call c__law_take hr (a_cons (e_var 0) (a_cons e_int a_nil))) (a_cons (e_op o_add e_int (e_call c__law_take hr (a_cons (e_var 0) (a_cons e_int a_nil)))) (a_cons (e_var 1) a_nil)))) (e_call c__law_take hr (a_cons (e_var 0) (a_cons e_int a_nil))))) (ss_cons (s_for PassesOwn.never rfl (i_seq (e_lst (a_cons (e_var 2) (a_cons (e_un u_neg (e_var 2)) (a_cons e_int a_nil))))) (g_name (i := 3) nd) (ss_cons (s_if (t_w (w_or (t_not (t_val (e_call c__law_is hr (a_cons (e_call c_is_integer hr (a_cons (e_var 3) a_nil)) (a_cons e_bl a_nil))))) (w_or1 (t_not (t_val (e_call c__law_is hr (a_cons (e_call c_is_count hr (a_cons (e_var 3) a_nil)) (a_cons (e_cmp o_ge (e_var 3) e_int) a_nil)))))))) (ss_one (s_ret e_bl)) ss_nil) (ss_one (s_if (t_not (t_val (e_call c__law_is hr (a_cons (e_call c_is_name hr (a_cons (e_var 3) a_nil)) (a_cons e_bl a_nil))))) (ss_one (s_ret e_bl)) ss_nil)))) (ss_cons (s_set (i := 4) nd (e_call c__law_string hr (a_cons (e_var 0) a_nil))) (ss_cons (s_setLc (j := 5) (own := [("_law_sign", 6)]) (vs := [6]) (tt := (vB (vOp gInS (vVar 6) (vC (.str "abcdefghijklmnopqrstuvwxyz"))))) (te := (vVar 6)) rfl nd (i_str (e_var 4)) (blkOk_by (N := ["_law_box_here", "_law_far", "_law_number", "_law_one", "_law_text", "_law_signs", "_law_sign", "_law_odd"]) (sc := defScope (topS 12)) (by decide +kernel)) (tg_name 6) (fun j hj => hj) (fun _ _ _ _ _ => pg_name (i := 6) nd rfl (Or.inl rfl)) (fun _ _ _ _ _ => ts_one (t_cmp o_inS (e_var 6) e_str)) (fun _ _ _ _ _ => (e_var 6)) (sw_true rfl rfl rfl (by decide +kernel))) (ss_cons (s_if (t_not (t_val (e_call c__law_is hr (a_cons (e_call c_is_name hr (a_cons (e_var 4) a_nil)) (a_cons (e_and (e_chain o_le o_le e_int (e_callB (c_len) T.b_len PySem.boot_len (a_cons (e_var 4) a_nil)) e_int) (e_one (e_cmp o_eqS (e_callB (c_len) T.b_len PySem.boot_len (a_cons (e_var 5) a_nil)) (e_callB (c_len) T.b_len PySem.boot_len (a_cons (e_var 4) a_nil))))) a_nil))))) (ss_one (s_ret e_bl)) ss_nil) (ss_cons (s_set (i := 7) nd (e_ix (e_lst (a_cons (e_var 4) (a_cons e_non (a_cons e_bl (a_cons e_bl (a_cons e_str (a_cons e_str (a_cons (e_lst a_nil) (a_cons (e_tup a_nil) (a_cons e_dict0 (a_cons (e_lst (a_cons (e_var 2) a_nil)) (a_cons (e_tup (a_cons e_str a_nil)) (a_cons (e_disp (ps3_cons e_str e_int ps3_nil)) (a_cons (e_lst (a_cons (e_var 4) a_nil)) a_nil)))))))))))))) (e_call c__law_take hr (a_cons (e_var 0) (a_cons e_int a_nil))))) (ss_cons (s_if (t_w (w_or (t_not (t_val (e_call c__law_is hr (a_cons (e_call c_is_integer hr (a_cons (e_var 7) a_nil)) (a_cons e_bl a_nil))))) (w_or1 (t_not (t_val (e_call c__law_is hr (a_cons (e_call c_is_count hr (a_cons (e_var 7) a_nil)) (a_cons e_bl a_nil)))))))) (ss_one (s_ret e_bl)) ss_nil) (ss_one (s_ret (e_or (e_callB (c_isi) T.b_isinstance (by decide +kernel) (a_cons (e_var 7) (a_cons (e_bty T.b_str (by decide +kernel)) a_nil))) (e_one (e_call c__law_is hr (a_cons (e_call c_is_name hr (a_cons (e_var 7) a_nil)) (a_cons e_bl a_nil)))))))))))))))
theorem sc_law : FnScope ["_law_script", "_law_k", "_law_box_here", "_law_turn"] ["_law_script"] (defScope (topS 13)) := ⟨rfl, rfl, rfl, by decide +kernel, rfl, by decide +kernel, by decide +kernel⟩
theorem ok_law {f : Addr} {fd : FuncData} (T : Bl mg) (c__law_cell : Fn3 P w K mg base 1 "_law_cell" 2 sp__law_cell) (c__law_box : Fn3 P w K mg base 1 "_law_box" 1 sp__law_box) (c__law_right : Fn3 P w K mg base 3 "_law_right" 1 sp__law_right) (F : Fun K "law" "law" (topS 13) f fd) : FnOk P w K mg base CX0 4 f fd ["_law_script"] (lift K 1 sp_law) := by
  have nd := sc_law.nd
  refine F.ok3 sc_law fun cdv A outer s H E hr => ⟨t_law, ?_, pure_law⟩
  exact (ss_cons (s_for PassesOwn.never rfl (i_range1 T.b_range (a_cons (e_callB (c_max2 rfl) T.b_max (by decide +kernel) (a_cons e_int (a_cons (e_callB (c_min2 rfl) T.b_min (by decide +kernel) (a_cons e_int (a_cons (e_callB (c_len) T.b_len PySem.boot_len (a_cons (e_var 0) a_nil)) a_nil))) a_nil))) a_nil)) (g_name (i := 1) nd) (ss_cons (s_set (i := 2) nd (e_call c__law_box hr (a_cons (e_call c__law_cell hr (a_cons (e_var 0) (a_cons (e_var 1) a_nil))) a_nil))) (ss_one (s_for PassesOwn.never rfl (i_range1 T.b_range (a_cons e_int a_nil)) (g_name (i := 3) nd) (ss_one (s_if (t_not (t_val (e_call c__law_right hr (a_cons (e_var 2) a_nil)))) (ss_one (s_ret e_bl)) ss_nil)))))) (ss_one (s_ret e_bl)))
end
/-! ### what the top has written -/
theorem all_mk {l : PySem.W.OpenLaw} {w : World} {K : PySem.W.Frag} {h : Heap} {mg : Str → Option Value} {fa f0 f1 f2 f3 f4 f5 f6 f7 f8 f9 : Addr} (X : K.In h) (G : h.Ns mainGlobals mg) (hfa : mg "law" = some (.ref fa))
    {od0 an0 od1 an1 od2 an2 od3 an3 od4 an4 od5 an5 od6 an6 od7 an7 od8 an8 od9 an9 : Option Addr} {sl0 sl1 sl2 sl3 sl4 sl5 sl6 sl7 sl8 sl9 : Array (Option Value)} {oc0 kV0 dc0 pm0 cd0 ct0 oc1 kV1 dc1 pm1 cd1 ct1 oc2 kV2 dc2 pm2 cd2 ct2 oc3 kV3 dc3 pm3 cd3 ct3 oc4 kV4 dc4 pm4 cd4 ct4 oc5 kV5 dc5 pm5 cd5 ct5 oc6 kV6 dc6 pm6 cd6 ct6 oc7 kV7 dc7 pm7 cd7 ct7 oc8 kV8 dc8 pm8 cd8 ct8 oc9 kV9 dc9 pm9 cd9 ct9 : Value} {tk_LETTERS tk_MOST_LETTERS : Tok}
    (a0 : PySem.W.nsIn K mainGlobals "is_integer" = some (some (.ref f0))) (l0 : K.lookup f0 = some ⟨oc0, od0, .func (PySem.W.fnOf "is_integer" "is_integer" (defArgs (topS 3)) (defBody (topS 3)) (defScope (topS 3)) .none kV0 dc0 pm0 an0 cd0 ct0), sl0⟩) (c0 : PySem.W.codeIn K cd0 "is_integer" = true) (k0 : PySem.W.keepIn K (.ref f0) = true)
    (a1 : PySem.W.nsIn K mainGlobals "is_count" = some (some (.ref f1))) (l1 : K.lookup f1 = some ⟨oc1, od1, .func (PySem.W.fnOf "is_count" "is_count" (defArgs (topS 4)) (defBody (topS 4)) (defScope (topS 4)) .none kV1 dc1 pm1 an1 cd1 ct1), sl1⟩) (c1 : PySem.W.codeIn K cd1 "is_count" = true) (k1 : PySem.W.keepIn K (.ref f1) = true)
    (a2 : PySem.W.nsIn K mainGlobals "is_name" = some (some (.ref f2))) (l2 : K.lookup f2 = some ⟨oc2, od2, .func (PySem.W.fnOf "is_name" "is_name" (defArgs (topS 5)) (defBody (topS 5)) (defScope (topS 5)) .none kV2 dc2 pm2 an2 cd2 ct2), sl2⟩) (c2 : PySem.W.codeIn K cd2 "is_name" = true) (k2 : PySem.W.keepIn K (.ref f2) = true)
    (a3 : PySem.W.nsIn K mainGlobals "_law_cell" = some (some (.ref f3))) (l3 : K.lookup f3 = some ⟨oc3, od3, .func (PySem.W.fnOf "_law_cell" "_law_cell" (defArgs (topS 7)) (defBody (topS 7)) (defScope (topS 7)) .none kV3 dc3 pm3 an3 cd3 ct3), sl3⟩) (c3 : PySem.W.codeIn K cd3 "_law_cell" = true) (k3 : PySem.W.keepIn K (.ref f3) = true)
    (a4 : PySem.W.nsIn K mainGlobals "_law_box" = some (some (.ref f4))) (l4 : K.lookup f4 = some ⟨oc4, od4, .func (PySem.W.fnOf "_law_box" "_law_box" (defArgs (topS 8)) (defBody (topS 8)) (defScope (topS 8)) .none kV4 dc4 pm4 an4 cd4 ct4), sl4⟩) (c4 : PySem.W.codeIn K cd4 "_law_box" = true) (k4 : PySem.W.keepIn K (.ref f4) = true)
    (a5 : PySem.W.nsIn K mainGlobals "_law_take" = some (some (.ref f5))) (l5 : K.lookup f5 = some ⟨oc5, od5, .func (PySem.W.fnOf "_law_take" "_law_take" (defArgs (topS 9)) (defBody (topS 9)) (defScope (topS 9)) .none kV5 dc5 pm5 an5 cd5 ct5), sl5⟩) (c5 : PySem.W.codeIn K cd5 "_law_take" = true) (k5 : PySem.W.keepIn K (.ref f5) = true)
    (a6 : PySem.W.nsIn K mainGlobals "_law_string" = some (some (.ref f6))) (l6 : K.lookup f6 = some ⟨oc6, od6, .func (PySem.W.fnOf "_law_string" "_law_string" (defArgs (topS 10)) (defBody (topS 10)) (defScope (topS 10)) .none kV6 dc6 pm6 an6 cd6 ct6), sl6⟩) (c6 : PySem.W.codeIn K cd6 "_law_string" = true) (k6 : PySem.W.keepIn K (.ref f6) = true)
    (a7 : PySem.W.nsIn K mainGlobals "_law_is" = some (some (.ref f7))) (l7 : K.lookup f7 = some ⟨oc7, od7, .func (PySem.W.fnOf "_law_is" "_law_is" (defArgs (topS 11)) (defBody (topS 11)) (defScope (topS 11)) .none kV7 dc7 pm7 an7 cd7 ct7), sl7⟩) (c7 : PySem.W.codeIn K cd7 "_law_is" = true) (k7 : PySem.W.keepIn K (.ref f7) = true)
    (a8 : PySem.W.nsIn K mainGlobals "_law_right" = some (some (.ref f8))) (l8 : K.lookup f8 = some ⟨oc8, od8, .func (PySem.W.fnOf "_law_right" "_law_right" (defArgs (topS 12)) (defBody (topS 12)) (defScope (topS 12)) .none kV8 dc8 pm8 an8 cd8 ct8), sl8⟩) (c8 : PySem.W.codeIn K cd8 "_law_right" = true) (k8 : PySem.W.keepIn K (.ref f8) = true)
    (a9 : PySem.W.nsIn K mainGlobals "law" = some (some (.ref f9))) (l9 : K.lookup f9 = some ⟨oc9, od9, .func (PySem.W.fnOf "law" "law" (defArgs (topS 13)) (defBody (topS 13)) (defScope (topS 13)) .none kV9 dc9 pm9 an9 cd9 ct9), sl9⟩) (c9 : PySem.W.codeIn K cd9 "law" = true) (k9 : PySem.W.keepIn K (.ref f9) = true)
    (z_all : PySem.W.nsIn K mainGlobals "all" = some none)
    (z_bool : PySem.W.nsIn K mainGlobals "bool" = some none)
    (z_int : PySem.W.nsIn K mainGlobals "int" = some none)
    (z_isinstance : PySem.W.nsIn K mainGlobals "isinstance" = some none)
    (z_len : PySem.W.nsIn K mainGlobals "len" = some none)
    (z_max : PySem.W.nsIn K mainGlobals "max" = some none)
    (z_min : PySem.W.nsIn K mainGlobals "min" = some none)
    (z_range : PySem.W.nsIn K mainGlobals "range" = some none)
    (z_str : PySem.W.nsIn K mainGlobals "str" = some none)
    (y_LETTERS : PySem.W.nsIn K mainGlobals "LETTERS" = some (some (.str "abcdefghijklmnopqrstuvwxyz" tk_LETTERS)))
    (y_MOST_LETTERS : PySem.W.nsIn K mainGlobals "MOST_LETTERS" = some (some (.int 8 tk_MOST_LETTERS)))
    : ∃ fd : FuncData, (∀ (s : Shared) (v : Value), BindsTo s fd ⟨[v], []⟩ [("_law_script", v)]) ∧ ∀ base : Heap, K.In base → base.Ns mainGlobals mg → FnOk l.prog w K mg base CX0 4 fa fd ["_law_script"] (lift K 1 sp_law) := by
  have e := hfa.symm.trans (PySem.W.mg_of X G a9)
  cases e
  have T : Bl mg := ⟨PySem.W.mg_none_of X G z_all, PySem.W.mg_none_of X G z_bool, PySem.W.mg_none_of X G z_int, PySem.W.mg_none_of X G z_isinstance, PySem.W.mg_none_of X G z_len, PySem.W.mg_none_of X G z_max, PySem.W.mg_none_of X G z_min, PySem.W.mg_none_of X G z_range, PySem.W.mg_none_of X G z_str, ⟨_, PySem.W.mg_of X G y_LETTERS⟩, ⟨_, PySem.W.mg_of X G y_MOST_LETTERS⟩⟩
  have F0 := fun_mk (st := topS 3) l0 c0 k0
  have F1 := fun_mk (st := topS 4) l1 c1 k1
  have F2 := fun_mk (st := topS 5) l2 c2 k2
  have F3 := fun_mk (st := topS 7) l3 c3 k3
  have F4 := fun_mk (st := topS 8) l4 c4 k4
  have F5 := fun_mk (st := topS 9) l5 c5 k5
  have F6 := fun_mk (st := topS 10) l6 c6 k6
  have F7 := fun_mk (st := topS 11) l7 c7 k7
  have F8 := fun_mk (st := topS 12) l8 c8 k8
  have F9 := fun_mk (st := topS 13) l9 c9 k9
  refine ⟨PySem.W.fnOf "law" "law" (defArgs (topS 13)) (defBody (topS 13)) (defScope (topS 13)) .none kV9 dc9 pm9 an9 cd9 ct9, fun s v => BindsTo.of_eq rfl, fun base _ _ => ?_⟩
  have b0 := F0.binds (ps := ["value"]) fun _ _ _ _ _ _ us hl => match us, hl with | [_], _ => rfl
  have c_is_integer : Fn3 l.prog w K mg base 1 "is_integer" 1 sp_is_integer := ⟨_, _, _, PySem.W.mg_of X G a0, k0, b0, ok_is_integer T  F0⟩
  have b1 := F1.binds (ps := ["value"]) fun _ _ _ _ _ _ us hl => match us, hl with | [_], _ => rfl
  have c_is_count : Fn3 l.prog w K mg base 2 "is_count" 1 sp_is_count := ⟨_, _, _, PySem.W.mg_of X G a1, k1, b1, ok_is_count T c_is_integer F1⟩
  have b2 := F2.binds (ps := ["value"]) fun _ _ _ _ _ _ us hl => match us, hl with | [_], _ => rfl
  have c_is_name : Fn3 l.prog w K mg base 1 "is_name" 1 sp_is_name := ⟨_, _, _, PySem.W.mg_of X G a2, k2, b2, ok_is_name T  F2⟩
  have b3 := F3.binds (ps := ["_law_script", "_law_k"]) fun _ _ _ _ _ _ us hl => match us, hl with | [_, _], _ => rfl
  have c__law_cell : Fn3 l.prog w K mg base 1 "_law_cell" 2 sp__law_cell := ⟨_, _, _, PySem.W.mg_of X G a3, k3, b3, ok__law_cell T  F3⟩
  have b4 := F4.binds (ps := ["_law_cell_here"]) fun _ _ _ _ _ _ us hl => match us, hl with | [_], _ => rfl
  have c__law_box : Fn3 l.prog w K mg base 1 "_law_box" 1 sp__law_box := ⟨_, _, _, PySem.W.mg_of X G a4, k4, b4, ok__law_box T  F4⟩
  have b5 := F5.binds (ps := ["_law_box_here", "_law_many"]) fun _ _ _ _ _ _ us hl => match us, hl with | [_, _], _ => rfl
  have c__law_take : Fn3 l.prog w K mg base 1 "_law_take" 2 sp__law_take := ⟨_, _, _, PySem.W.mg_of X G a5, k5, b5, ok__law_take T  F5⟩
  have b6 := F6.binds (ps := ["_law_box_here"]) fun _ _ _ _ _ _ us hl => match us, hl with | [_], _ => rfl
  have c__law_string : Fn3 l.prog w K mg base 2 "_law_string" 1 sp__law_string := ⟨_, _, _, PySem.W.mg_of X G a6, k6, b6, ok__law_string T c__law_take F6⟩
  have b7 := F7.binds (ps := ["_law_found", "_law_due"]) fun _ _ _ _ _ _ us hl => match us, hl with | [_, _], _ => rfl
  have c__law_is : Fn3 l.prog w K mg base 1 "_law_is" 2 sp__law_is := ⟨_, _, _, PySem.W.mg_of X G a7, k7, b7, ok__law_is T  F7⟩
  have b8 := F8.binds (ps := ["_law_box_here"]) fun _ _ _ _ _ _ us hl => match us, hl with | [_], _ => rfl
  have c__law_right : Fn3 l.prog w K mg base 3 "_law_right" 1 sp__law_right := ⟨_, _, _, PySem.W.mg_of X G a8, k8, b8, ok__law_right T c__law_take c_is_integer c__law_is c_is_count c_is_name c__law_string F8⟩
  exact ok_law T c__law_cell c__law_box c__law_right F9
end K01
open PySem PySem.W PyProof.Rows
set_option maxHeartbeats 0 in
theorem PySem.Challenge.cw_pileups_k01_kinds_of_words_holds : PySem.Challenge.rw_pileups_k01_kinds_of_words.Holds := by
  w_on; o_law; k_head; (case hw => w_witness2)
  k_fill
  refine L2.walk_of (l := PySem.Challenge.rw_pileups_k01_kinds_of_words) (n := 63) (k := 4) (x := "_law_script") (CX := fun _ => L2.CX0) (sp := fun w => L3.lift _ 1 K01.sp_law) rfl (by decide) rfl ⟨rfl, by decide, by decide⟩ (fun w h Y => PySem.W.kIn_of Y) ?F (fun w H a ns hl hO hS => K01.enter hl hS) (fun _ _ _ _ _ h => h)
  case F =>
    intro w mg fa h KX G hmg
    refine' K01.all_mk KX G hmg ?a0 ?l0 ?c0 ?k0 ?a1 ?l1 ?c1 ?k1 ?a2 ?l2 ?c2 ?k2 ?a3 ?l3 ?c3 ?k3 ?a4 ?l4 ?c4 ?k4 ?a5 ?l5 ?c5 ?k5 ?a6 ?l6 ?c6 ?k6 ?a7 ?l7 ?c7 ?k7 ?a8 ?l8 ?c8 ?k8 ?a9 ?l9 ?c9 ?k9 ?z_all ?z_bool ?z_int ?z_isinstance ?z_len ?z_max ?z_min ?z_range ?z_str ?y_LETTERS ?y_MOST_LETTERS
    (case a0 => k_is)
    (case l0 => k_is)
    (case c0 => k_is)
    (case k0 => k_is)
    (case a1 => k_is)
    (case l1 => k_is)
    (case c1 => k_is)
    (case k1 => k_is)
    (case a2 => k_is)
    (case l2 => k_is)
    (case c2 => k_is)
    (case k2 => k_is)
    (case a3 => k_is)
    (case l3 => k_is)
    (case c3 => k_is)
    (case k3 => k_is)
    (case a4 => k_is)
    (case l4 => k_is)
    (case c4 => k_is)
    (case k4 => k_is)
    (case a5 => k_is)
    (case l5 => k_is)
    (case c5 => k_is)
    (case k5 => k_is)
    (case a6 => k_is)
    (case l6 => k_is)
    (case c6 => k_is)
    (case k6 => k_is)
    (case a7 => k_is)
    (case l7 => k_is)
    (case c7 => k_is)
    (case k7 => k_is)
    (case a8 => k_is)
    (case l8 => k_is)
    (case c8 => k_is)
    (case k8 => k_is)
    (case a9 => k_is)
    (case l9 => k_is)
    (case c9 => k_is)
    (case k9 => k_is)
    (case z_all => k_is)
    (case z_bool => k_is)
    (case z_int => k_is)
    (case z_isinstance => k_is)
    (case z_len => k_is)
    (case z_max => k_is)
    (case z_min => k_is)
    (case z_range => k_is)
    (case z_str => k_is)
    (case y_LETTERS => k_is)
    (case y_MOST_LETTERS => k_is)

