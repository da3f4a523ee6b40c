import PyProof.Rows.All
import Wide.All
import OpenK.AllK
import Wide.FinOn
import PySem.Challenge.RW_pileups_k02_numbers_and_words_of_texts
import HandS.ForMost
import HandS.Flow
import HandS.Wide
import HandS.IsInst
import HandS.Steps
import HandS.Codes
import HandS.Style
import HandS.Zip
import HandS.DictComp
import HandS.Conv
import HandS.ListItems
import HandS.FStr
import HandS.Defaults
import HandS.MakeKw
import HandS.SortInts
import HandS.Strs
import HandS.SetFor
import HandS.MapJoin
set_option Elab.async false
set_option linter.all false
set_option maxRecDepth 100000
set_option maxHeartbeats 4000000
namespace L3
open PySem L2

/-- data as trees; an address stands for an object that is tracked by itself -/
inductive D where
  | non | bl (b : Bool) | int (i : Int) | str (x : Str) | ty (n : String) | ref (a : Addr)
  | tup (xs : List D) | lst (xs : List D) | dct (kvs : List (Key × D)) | obj (C : Addr) (fs : List (Str × D))
  /-- a list that is only read (the script) -/
  | scr (xs : List D)
/-- what stands at a tracked address -/
inductive MO where
  | lst (xs : List D) | dct (kvs : List (Key × D)) | ins (C : Addr) (fs : List (Str × D))
abbrev Mu := Addr → Option MO
def mset (μ : Mu) (a : Addr) (o : MO) : Mu := fun b => if b = a then some o else μ b
theorem mset_same {μ : Mu} {a : Addr} {o : MO} : mset μ a o a = some o := by unfold mset; rw [if_pos rfl]
theorem mset_ne {μ : Mu} {a b : Addr} {o : MO} (h : b ≠ a) : mset μ a o b = μ b := by unfold mset; rw [if_neg h]
def keyD : Key → D
  | .inl i => .int i
  | .inr x => .str x
/-- a list of the written part -/
def KL (K : PySem.W.Frag) (a : Addr) (xs : List V) : Prop :=
  ∃ (o : Obj) (its : Array Value) (n : Nat), K.lookup a = some o ∧ o.cls = .type "list" ∧ o.dict = none ∧ o.data = .seq its n ∧ its.size ≤ sizeLine ∧ Vals xs its.toList
def FL (K : PySem.W.Frag) (F : Addr → Prop) (H : Hp) (a : Addr) (vs : List V) : Prop := (F a ∧ Rd H a (.lst vs)) ∨ KL K a vs
mutual
inductive Rp (K : PySem.W.Frag) (F : Addr → Prop) (H : Hp) : D → V → Prop
  | non : Rp K F H .non .non
  | bl (b : Bool) : Rp K F H (.bl b) (.bl b)
  | int (i : Int) : Rp K F H (.int i) (.int i)
  | str (x : Str) : Rp K F H (.str x) (.str x)
  | ty (n : String) : Rp K F H (.ty n) (.ty n)
  | ref (a : Addr) : Rp K F H (.ref a) (.ref a)
  | tup {xs : List D} {vs : List V} {a : Addr} : F a → H a = some (.tup vs) → Rps K F H xs vs → Rp K F H (.tup xs) (.ref a)
  | scr {xs : List D} {vs : List V} {a : Addr} : FL K F H a vs → Rps K F H xs vs → Rp K F H (.scr xs) (.ref a)
  | lst {xs : List D} {vs : List V} {a : Addr} : F a → H a = some (.lst vs) → Rps K F H xs vs → Rp K F H (.lst xs) (.ref a)
  | dct {kvs : List (Key × D)} {ks : List (Key × V)} {a : Addr} : F a → Rd H a (.dK ks) → Rpk K F H kvs ks → Rp K F H (.dct kvs) (.ref a)
  | obj {C : Addr} {fs : List (Str × D)} {gs : List (Str × V)} {a dx : Addr} : F a → H a = some (.ins C dx gs) → Rpf K F H fs gs → Rp K F H (.obj C fs) (.ref a)
inductive Rps (K : PySem.W.Frag) (F : Addr → Prop) (H : Hp) : List D → List V → Prop
  | nil : Rps K F H [] []
  | cons {d : D} {v : V} {ds : List D} {vs : List V} : Rp K F H d v → Rps K F H ds vs → Rps K F H (d :: ds) (v :: vs)
inductive Rpk (K : PySem.W.Frag) (F : Addr → Prop) (H : Hp) : List (Key × D) → List (Key × V) → Prop
  | nil : Rpk K F H [] []
  | cons {k : Key} {d : D} {v : V} {ds : List (Key × D)} {vs : List (Key × V)} : Rp K F H d v → Rpk K F H ds vs → Rpk K F H ((k, d) :: ds) ((k, v) :: vs)
inductive Rpf (K : PySem.W.Frag) (F : Addr → Prop) (H : Hp) : List (Str × D) → List (Str × V) → Prop
  | nil : Rpf K F H [] []
  | cons {f : Str} {d : D} {v : V} {ds : List (Str × D)} {vs : List (Str × V)} : Rp K F H d v → Rpf K F H ds vs → Rpf K F H ((f, d) :: ds) ((f, v) :: vs)
end
def isD : HO → Bool
  | .dK _ => true
  | .frz _ _ => true
  | _ => false
/-- the frozen part only grows, and stays -/
structure Grow (F : Addr → Prop) (H : Hp) (F' : Addr → Prop) (H' : Hp) : Prop where
  mono : ∀ a, F a → F' a
  rd : ∀ a u, F a → Rd H a u → Rd H' a u
  fix : ∀ a u, F a → isD u = false → H a = some u → H' a = some u
section
variable {K : PySem.W.Frag} {F F' F'' : Addr → Prop} {H H' H'' : Hp} {d : D} {v : V}
theorem Grow.refl : Grow F H F H := ⟨fun _ h => h, fun _ _ _ h => h, fun _ _ _ _ h => h⟩
theorem Grow.trans (a : Grow F H F' H') (b : Grow F' H' F'' H'') : Grow F H F'' H'' :=
  ⟨fun x h => b.mono x (a.mono x h), fun x u f h => b.rd x u (a.mono x f) (a.rd x u f h), fun x u f i h => b.fix x u (a.mono x f) i (a.fix x u f i h)⟩
theorem FL.grow {a : Addr} {vs : List V} (g : Grow F H F' H') (h : FL K F H a vs) : FL K F' H' a vs := h.imp (fun ⟨f, r⟩ => ⟨g.mono a f, g.rd a _ f r⟩) id
theorem FL.sq {a : Addr} {vs : List V} (h : FL K F H a vs) : SqL K H a vs := h.imp (fun ⟨_, r⟩ => r) id
mutual
theorem Rp.grow {d : D} {v : V} (g : Grow F H F' H') : Rp K F H d v → Rp K F' H' d v
  | .non => .non
  | .bl b => .bl b
  | .int i => .int i
  | .str x => .str x
  | .ty n => .ty n
  | .ref a => .ref a
  | .tup f h r => .tup (g.mono _ f) (g.fix _ _ f rfl h) (Rps.grow g r)
  | .scr h r => .scr (h.grow g) (Rps.grow g r)
  | .lst f h r => .lst (g.mono _ f) (g.fix _ _ f rfl h) (Rps.grow g r)
  | .dct f h r => .dct (g.mono _ f) (g.rd _ _ f h) (Rpk.grow g r)
  | .obj f h r => .obj (g.mono _ f) (g.fix _ _ f rfl h) (Rpf.grow g r)
theorem Rps.grow {ds : List D} {vs : List V} (g : Grow F H F' H') : Rps K F H ds vs → Rps K F' H' ds vs
  | .nil => .nil
  | .cons h r => .cons (Rp.grow g h) (Rps.grow g r)
theorem Rpk.grow {ds : List (Key × D)} {vs : List (Key × V)} (g : Grow F H F' H') : Rpk K F H ds vs → Rpk K F' H' ds vs
  | .nil => .nil
  | .cons h r => .cons (Rp.grow g h) (Rpk.grow g r)
theorem Rpf.grow {ds : List (Str × D)} {vs : List (Str × V)} (g : Grow F H F' H') : Rpf K F H ds vs → Rpf K F' H' ds vs
  | .nil => .nil
  | .cons h r => .cons (Rp.grow g h) (Rpf.grow g r)
end
theorem Rps.length {ds : List D} {vs : List V} : Rps K F H ds vs → ds.length = vs.length
  | .nil => rfl
  | .cons _ r => by rw [List.length_cons, List.length_cons, Rps.length r]
theorem Rps.get {ds : List D} {vs : List V} : ∀ {i : Nat} {d : D}, Rps K F H ds vs → ds[i]? = some d → ∃ v, vs[i]? = some v ∧ Rp K F H d v
  | _, _, .nil, e => by simp at e
  | 0, _, .cons h _, e => by simp at e; subst e; exact ⟨_, rfl, h⟩
  | i + 1, _, .cons _ r, e => by
    obtain ⟨v, e1, h⟩ := Rps.get (i := i) r (by simpa using e)
    exact ⟨v, by simpa using e1, h⟩
theorem Rps.back {ds : List D} {vs : List V} : ∀ {i : Nat} {v : V}, Rps K F H ds vs → vs[i]? = some v → ∃ d, ds[i]? = some d ∧ Rp K F H d v
  | _, _, .nil, e => by simp at e
  | 0, _, .cons h _, e => by simp at e; subst e; exact ⟨_, rfl, h⟩
  | i + 1, _, .cons _ r, e => by
    obtain ⟨v, e1, h⟩ := Rps.back (i := i) r (by simpa using e)
    exact ⟨v, by simpa using e1, h⟩
theorem Rps.append : ∀ {ds es : List D} {vs us : List V}, Rps K F H ds vs → Rps K F H es us → Rps K F H (ds ++ es) (vs ++ us)
  | _, _, _, _, .nil, s => s
  | _, _, _, _, .cons h r, s => .cons h (Rps.append r s)
theorem Rps.set {d : D} {v : V} (h : Rp K F H d v) : ∀ {ds : List D} {vs : List V} (i : Nat), Rps K F H ds vs → Rps K F H (ds.set i d) (vs.set i v)
  | _, _, _, .nil => .nil
  | _, _, 0, .cons _ t => .cons h t
  | _, _, i + 1, .cons q t => .cons q (Rps.set h i t)
theorem Rps.take : ∀ {ds : List D} {vs : List V} (n : Nat), Rps K F H ds vs → Rps K F H (ds.take n) (vs.take n)
  | _, _, 0, _ => .nil
  | _, _, _ + 1, .nil => .nil
  | _, _, n + 1, .cons r t => .cons r (Rps.take n t)
theorem Rps.drop : ∀ {ds : List D} {vs : List V} (n : Nat), Rps K F H ds vs → Rps K F H (ds.drop n) (vs.drop n)
  | _, _, 0, r => r
  | _, _, _ + 1, .nil => .nil
  | _, _, n + 1, .cons _ t => Rps.drop n t
theorem Rps.dropLast {ds : List D} {vs : List V} (h : Rps K F H ds vs) : Rps K F H ds.dropLast vs.dropLast := by
  rw [List.dropLast_eq_take, List.dropLast_eq_take, h.length]
  exact h.take _
theorem Rps.reverse : ∀ {ds : List D} {vs : List V}, Rps K F H ds vs → Rps K F H ds.reverse vs.reverse
  | _, _, .nil => .nil
  | _, _, .cons h t => by
    rw [List.reverse_cons, List.reverse_cons]
    exact (Rps.reverse t).append (.cons h .nil)

def MoOk (K : PySem.W.Frag) (F : Addr → Prop) (H : Hp) (a : Addr) : MO → Prop
  | .lst xs => ∃ vs, H a = some (.lst vs) ∧ Rps K F H xs vs
  | .dct kvs => ∃ ks, H a = some (.dK ks) ∧ Rpk K F H kvs ks
  | .ins C fs => ∃ dx gs, H a = some (.ins C dx gs) ∧ Rpf K F H fs gs
structure Sim (K : PySem.W.Frag) (F : Addr → Prop) (H : Hp) (μ : Mu) : Prop where
  dom : ∀ a, F a → ∃ u, H a = some u
  obj : ∀ a o, μ a = some o → ¬ F a ∧ MoOk K F H a o
abbrev St3 := List (Option D)
structure Sl (K : PySem.W.Frag) (F : Addr → Prop) (H : Hp) (σ : St) (δ : St3) : Prop where
  len : σ.length = δ.length
  at_ : ∀ (i : Nat) (d : D), δ[i]? = some (some d) → ∃ v, σ[i]? = some (some v) ∧ Rp K F H d v
theorem Sl.grow {σ : St} {δ : St3} (g : Grow F H F' H') (s : Sl K F H σ δ) : Sl K F' H' σ δ :=
  ⟨s.len, fun i d e => let ⟨v, e1, r⟩ := s.at_ i d e; ⟨v, e1, r.grow g⟩⟩
theorem Sl.set {σ : St} {δ : St3} {d : D} {v : V} (s : Sl K F H σ δ) (i : Nat) (r : Rp K F H d v) : Sl K F H (σ.set i (some v)) (δ.set i (some d)) := by
  refine ⟨by simpa using s.len, fun j e h => ?_⟩
  by_cases hj : i = j
  · subst hj
    by_cases hl : i < δ.length
    · rw [List.getElem?_set_self hl] at h
      cases h
      exact ⟨v, List.getElem?_set_self (by rw [s.len]; exact hl), r⟩
    · rw [List.getElem?_eq_none_iff.mpr (by simpa using hl)] at h
      cases h
  · rw [List.getElem?_set_ne hj] at h
    obtain ⟨u, e1, r1⟩ := s.at_ j e h
    exact ⟨u, by rw [List.getElem?_set_ne hj]; exact e1, r1⟩
/-- a new object at p, tracked in H -/
theorem Sim.new {μ : Mu} {p : Addr} {o : HO} (s : Sim K F H μ) (hp : H p = none) : Grow F H F (upd H p o) ∧ Sim K F (upd H p o) μ := by
  have ne : ∀ a, F a → a ≠ p := fun a f e => by
    obtain ⟨u, h⟩ := s.dom a f
    rw [e, hp] at h
    cases h
  have g : Grow F H F (upd H p o) := by
    refine ⟨fun _ h => h, fun a u f h => ?_, fun a u f _ h => by rw [upd_ne (ne a f)]; exact h⟩
    rcases h with h | ⟨ob, h⟩
    · exact .inl (by rw [upd_ne (ne a f)]; exact h)
    · exact .inr ⟨ob, by rw [upd_ne (ne a f)]; exact h⟩
  refine ⟨g, fun a f => ?_, fun a o' h => ?_⟩
  · rw [upd_ne (ne a f)]; exact s.dom a f
  · obtain ⟨nf, m⟩ := s.obj a o' h
    refine ⟨nf, ?_⟩
    have neA : ∀ u, H a = some u → a ≠ p := fun u hu e => by rw [e, hp] at hu; cases hu
    cases o' with
    | lst xs => obtain ⟨vs, e, r⟩ := m; exact ⟨vs, by rw [upd_ne (neA _ e)]; exact e, r.grow g⟩
    | dct kvs => obtain ⟨vs, e, r⟩ := m; exact ⟨vs, by rw [upd_ne (neA _ e)]; exact e, r.grow g⟩
    | ins C fs => obtain ⟨dx, vs, e, r⟩ := m; exact ⟨dx, vs, by rw [upd_ne (neA _ e)]; exact e, r.grow g⟩
/-- .. and frozen -/
theorem Sim.frz {μ : Mu} {p : Addr} {o : HO} (s : Sim K F H μ) (hp : H p = none) : Grow F H (fun a => F a ∨ a = p) (upd H p o) ∧ Sim K (fun a => F a ∨ a = p) (upd H p o) μ := by
  obtain ⟨g, s1⟩ := s.new (o := o) hp
  have g1 : Grow F (upd H p o) (fun a => F a ∨ a = p) (upd H p o) := ⟨fun _ h => .inl h, fun _ _ _ h => h, fun _ _ _ _ h => h⟩
  refine ⟨g.trans g1, fun a f => ?_, fun a o' h => ?_⟩
  · rcases f with f | rfl
    · exact s1.dom a f
    · exact ⟨o, upd_same⟩
  · obtain ⟨nf, m⟩ := s1.obj a o' h
    refine ⟨fun f => ?_, ?_⟩
    · rcases f with f | rfl
      · exact nf f
      · obtain ⟨_, m0⟩ := s.obj a o' h
        cases o' with
        | lst xs => obtain ⟨vs, e, r⟩ := m0; rw [hp] at e; cases e
        | dct kvs => obtain ⟨vs, e, r⟩ := m0; rw [hp] at e; cases e
        | ins C fs => obtain ⟨dx, vs, e, r⟩ := m0; rw [hp] at e; cases e
    · cases o' with
      | lst xs => obtain ⟨vs, e, r⟩ := m; exact ⟨vs, e, r.grow g1⟩
      | dct kvs => obtain ⟨vs, e, r⟩ := m; exact ⟨vs, e, r.grow g1⟩
      | ins C fs => obtain ⟨dx, vs, e, r⟩ := m; exact ⟨dx, vs, e, r.grow g1⟩
theorem Sim.free {μ : Mu} {p : Addr} (s : Sim K F H μ) (hp : H p = none) : μ p = none := by
  cases h : μ p with
  | none => rfl
  | some o =>
    obtain ⟨_, m⟩ := s.obj p o h
    cases o with
    | lst xs => obtain ⟨vs, e, r⟩ := m; rw [hp] at e; cases e
    | dct kvs => obtain ⟨vs, e, r⟩ := m; rw [hp] at e; cases e
    | ins C fs => obtain ⟨dx, vs, e, r⟩ := m; rw [hp] at e; cases e
/-- .. and tracked -/
theorem Sim.trk {μ : Mu} {p : Addr} {o : HO} {m : MO} (s : Sim K F H μ) (hp : H p = none) (ok : ∀ {F' : Addr → Prop} {H' : Hp}, Grow F H F' H' → H' p = some o → MoOk K F' H' p m) :
    Grow F H F (upd H p o) ∧ Sim K F (upd H p o) (mset μ p m) := by
  obtain ⟨g, s1⟩ := s.new (o := o) hp
  refine ⟨g, s1.dom, fun a o' h => ?_⟩
  by_cases e : a = p
  · subst e
    rw [mset_same] at h
    cases h
    refine ⟨fun f => ?_, ok g upd_same⟩
    obtain ⟨u, hu⟩ := s.dom a f
    rw [hp] at hu
    cases hu
  · rw [mset_ne e] at h
    exact s1.obj a o' h
/-- a tracked object is changed -/
theorem Sim.put {μ : Mu} {p : Addr} {o : HO} {m m0 : MO} (s : Sim K F H μ) (h0 : μ p = some m0) (ok : ∀ {F' : Addr → Prop} {H' : Hp}, Grow F H F' H' → H' p = some o → MoOk K F' H' p m) :
    Grow F H F (upd H p o) ∧ Sim K F (upd H p o) (mset μ p m) := by
  have ne : ∀ a, F a → a ≠ p := fun a f e => (s.obj p m0 h0).1 (e ▸ f)
  have g : Grow F H F (upd H p o) := by
    refine ⟨fun _ h => h, fun a u f h => ?_, fun a u f _ h => by rw [upd_ne (ne a f)]; exact h⟩
    rcases h with h | ⟨ob, h⟩
    · exact .inl (by rw [upd_ne (ne a f)]; exact h)
    · exact .inr ⟨ob, by rw [upd_ne (ne a f)]; exact h⟩
  refine ⟨g, fun a f => by rw [upd_ne (ne a f)]; exact s.dom a f, fun a o' h => ?_⟩
  by_cases e : a = p
  · subst e
    rw [mset_same] at h
    cases h
    exact ⟨(s.obj a m0 h0).1, ok g upd_same⟩
  · rw [mset_ne e] at h
    obtain ⟨nf, m⟩ := s.obj a o' h
    refine ⟨nf, ?_⟩
    cases o' with
    | lst xs => obtain ⟨vs, q, r⟩ := m; exact ⟨vs, by rw [upd_ne e]; exact q, r.grow g⟩
    | dct kvs => obtain ⟨vs, q, r⟩ := m; exact ⟨vs, by rw [upd_ne e]; exact q, r.grow g⟩
    | ins C fs => obtain ⟨dx, vs, q, r⟩ := m; exact ⟨dx, vs, by rw [upd_ne e]; exact q, r.grow g⟩
/-- what is neither tracked nor new stays, and is not frozen meanwhile -/
def Fm (F : Addr → Prop) (μ : Mu) (H : Hp) (F' : Addr → Prop) (μ' : Mu) (H' : Hp) : Prop := ∀ a u, H a = some u → μ a = none → μ' a = none ∧ H' a = some u ∧ (F' a → F a)
theorem Fm.refl {μ : Mu} : Fm F μ H F μ H := fun _ _ h n => ⟨n, h, id⟩
theorem Fm.trans {μ μ1 μ2 : Mu} {H1 H2 : Hp} {F1 F2 : Addr → Prop} (a : Fm F μ H F1 μ1 H1) (b : Fm F1 μ1 H1 F2 μ2 H2) : Fm F μ H F2 μ2 H2 := fun x u h n =>
  let ⟨n1, h1, f1⟩ := a x u h n
  let ⟨n2, h2, f2⟩ := b x u h1 n1
  ⟨n2, h2, fun z => f1 (f2 z)⟩
theorem Fm.new {μ : Mu} {p : Addr} {o : HO} (hp : H p = none) : Fm F μ H F μ (upd H p o) := fun a u h n => ⟨n, by rw [upd_ne (ne_of_none h hp)]; exact h, id⟩
theorem Fm.frz {μ : Mu} {p : Addr} {o : HO} (hp : H p = none) : Fm F μ H (fun a => F a ∨ a = p) μ (upd H p o) := fun a u h n => ⟨n, by rw [upd_ne (ne_of_none h hp)]; exact h, fun z => z.elim id fun e => absurd e (ne_of_none h hp)⟩
theorem Fm.trk {μ : Mu} {p : Addr} {o : HO} {m : MO} (hp : H p = none) : Fm F μ H F (mset μ p m) (upd H p o) := fun a u h n => ⟨by rw [mset_ne (ne_of_none h hp)]; exact n, by rw [upd_ne (ne_of_none h hp)]; exact h, id⟩
theorem Fm.put {μ : Mu} {p : Addr} {o : HO} {m m0 : MO} (h0 : μ p = some m0) : Fm F μ H F (mset μ p m) (upd H p o) := fun a u h n => by
  have ne : a ≠ p := fun e => by rw [e, h0] at n; cases n
  exact ⟨by rw [mset_ne ne]; exact n, by rw [upd_ne ne]; exact h, id⟩
structure Step (K : PySem.W.Frag) (F : Addr → Prop) (H : Hp) (μ : Mu) (F' : Addr → Prop) (H' : Hp) (μ' : Mu) : Prop where
  grow : Grow F H F' H'
  fm : Fm F μ H F' μ' H'
  sim : Sim K F' H' μ'
theorem Step.refl {μ : Mu} (s : Sim K F H μ) : Step K F H μ F H μ := ⟨.refl, .refl, s⟩
theorem Step.trans {μ μ' μ'' : Mu} (a : Step K F H μ F' H' μ') (b : Step K F' H' μ' F'' H'' μ'') : Step K F H μ F'' H'' μ'' := ⟨a.grow.trans b.grow, a.fm.trans b.fm, b.sim⟩
/-- a private object (neither frozen nor tracked, made since) is changed -/
theorem Sim.priv {μ : Mu} {p : Addr} {o : HO} (s : Sim K F H μ) (nF : ¬ F p) (nμ : μ p = none) : Grow F H F (upd H p o) ∧ Sim K F (upd H p o) μ := by
  have ne : ∀ a, F a → a ≠ p := fun a f e => nF (e ▸ f)
  have g : Grow F H F (upd H p o) := by
    refine ⟨fun _ h => h, fun a u f h => ?_, fun a u f _ h => by rw [upd_ne (ne a f)]; exact h⟩
    rcases h with h | ⟨ob, h⟩
    · exact .inl (by rw [upd_ne (ne a f)]; exact h)
    · exact .inr ⟨ob, by rw [upd_ne (ne a f)]; exact h⟩
  refine ⟨g, fun a f => by rw [upd_ne (ne a f)]; exact s.dom a f, fun a o' h => ?_⟩
  have e : a ≠ p := fun e => by rw [e, nμ] at h; cases h
  obtain ⟨nf, m⟩ := s.obj a o' h
  refine ⟨nf, ?_⟩
  cases o' with
  | lst xs => obtain ⟨vs, q, r⟩ := m; exact ⟨vs, by rw [upd_ne e]; exact q, r.grow g⟩
  | dct kvs => obtain ⟨vs, q, r⟩ := m; exact ⟨vs, by rw [upd_ne e]; exact q, r.grow g⟩
  | ins C fs => obtain ⟨dx, vs, q, r⟩ := m; exact ⟨dx, vs, by rw [upd_ne e]; exact q, r.grow g⟩
theorem Step.priv {μ μ' : Mu} {p : Addr} {o : HO} (s : Step K F H μ F' H' μ') (hp : H p = none) (nF : ¬ F' p) (nμ : μ' p = none) : Step K F H μ F' (upd H' p o) μ' := by
  obtain ⟨g, z⟩ := s.sim.priv (o := o) nF nμ
  refine ⟨s.grow.trans g, fun a u h n => ?_, z⟩
  obtain ⟨n1, h1, f1⟩ := s.fm a u h n
  exact ⟨n1, by rw [upd_ne (ne_of_none h hp)]; exact h1, f1⟩
/-- .. and frozen at last -/
theorem Step.shut {μ μ' : Mu} {p : Addr} {o : HO} (s : Step K F H μ F' H' μ') (hp : H p = none) (nμ : μ' p = none) (e : H' p = some o) : Step K F H μ (fun a => F' a ∨ a = p) H' μ' := by
  have g1 : Grow F' H' (fun a => F' a ∨ a = p) H' := ⟨fun _ h => .inl h, fun _ _ _ h => h, fun _ _ _ _ h => h⟩
  refine ⟨s.grow.trans g1, fun a u h n => ?_, fun a f => ?_, fun a o' h => ?_⟩
  · obtain ⟨n1, h1, f1⟩ := s.fm a u h n
    exact ⟨n1, h1, fun z => z.elim f1 fun e => absurd e (ne_of_none h hp)⟩
  · rcases f with f | rfl
    · exact s.sim.dom a f
    · exact ⟨o, e⟩
  · obtain ⟨nf, m⟩ := s.sim.obj a o' h
    refine ⟨fun f => f.elim nf (fun e => by rw [e, nμ] at h; cases h), ?_⟩
    cases o' with
    | lst xs => obtain ⟨vs, e, r⟩ := m; exact ⟨vs, e, r.grow g1⟩
    | dct kvs => obtain ⟨vs, e, r⟩ := m; exact ⟨vs, e, r.grow g1⟩
    | ins C fs => obtain ⟨dx, vs, e, r⟩ := m; exact ⟨dx, vs, e, r.grow g1⟩
theorem Rp.st {μ μ' : Mu} (r : Rp K F H d v) (s : Step K F H μ F' H' μ') : Rp K F' H' d v := r.grow s.grow
theorem Rps.st {μ μ' : Mu} {ds : List D} {vs : List V} (r : Rps K F H ds vs) (s : Step K F H μ F' H' μ') : Rps K F' H' ds vs := r.grow s.grow
theorem Rpk.st {μ μ' : Mu} {ds : List (Key × D)} {vs : List (Key × V)} (r : Rpk K F H ds vs) (s : Step K F H μ F' H' μ') : Rpk K F' H' ds vs := r.grow s.grow
theorem Sl.st {μ μ' : Mu} {σ : St} {δ : St3} (r : Sl K F H σ δ) (s : Step K F H μ F' H' μ') : Sl K F' H' σ δ := r.grow s.grow
theorem Sim.frzS {μ : Mu} {p : Addr} {o : HO} (s : Sim K F H μ) (hp : H p = none) : Step K F H μ (fun a => F a ∨ a = p) (upd H p o) μ := let ⟨g, z⟩ := s.frz hp; ⟨g, Fm.frz hp, z⟩
theorem Sim.newS {μ : Mu} {p : Addr} {o : HO} (s : Sim K F H μ) (hp : H p = none) : Step K F H μ F (upd H p o) μ := let ⟨g, z⟩ := s.new hp; ⟨g, Fm.new hp, z⟩
theorem Sim.trkS {μ : Mu} {p : Addr} {o : HO} {m : MO} (s : Sim K F H μ) (hp : H p = none) (ok : ∀ {F' : Addr → Prop} {H' : Hp}, Grow F H F' H' → H' p = some o → MoOk K F' H' p m) :
    Step K F H μ F (upd H p o) (mset μ p m) := let ⟨g, z⟩ := s.trk hp ok; ⟨g, Fm.trk hp, z⟩
theorem Sim.putS {μ : Mu} {p : Addr} {o : HO} {m m0 : MO} (s : Sim K F H μ) (h0 : μ p = some m0) (ok : ∀ {F' : Addr → Prop} {H' : Hp}, Grow F H F' H' → H' p = some o → MoOk K F' H' p m) :
    Step K F H μ F (upd H p o) (mset μ p m) := let ⟨g, z⟩ := s.put h0 ok; ⟨g, Fm.put h0, z⟩
end
end L3

namespace L3
open PySem L2
abbrev DK := D → Mu → Prop
abbrev TE3 := St3 → Mu → DK → Prop
abbrev TT3 := St3 → Mu → (Bool → Mu → Prop) → Prop
abbrev TA3 := St3 → Mu → (List D → Mu → Prop) → Prop
structure Ends3 where
  nx : St3 → Mu → Prop
  rt : DK
  bk : St3 → Mu → Prop := fun _ _ => False
  ct : St3 → Mu → Prop := fun _ _ => False
abbrev TS3 := Ends3 → St3 → Mu → Prop
def low (K : PySem.W.Frag) (t : TE3) : TE := fun σ H Q => ∃ (F : Addr → Prop) (δ : St3) (μ : Mu) (R : DK), Sim K F H μ ∧ Sl K F H σ δ ∧ t δ μ R ∧
  ∀ F' v H' d μ', Step K F H μ F' H' μ' → Rp K F' H' d v → R d μ' → Q v H'
def lowT (K : PySem.W.Frag) (t : TT3) : TT := fun σ H Q => ∃ (F : Addr → Prop) (δ : St3) (μ : Mu) (R : Bool → Mu → Prop), Sim K F H μ ∧ Sl K F H σ δ ∧ t δ μ R ∧
  ∀ F' b H' μ', Step K F H μ F' H' μ' → R b μ' → Q b H'
def lowA (K : PySem.W.Frag) (t : TA3) : TA := fun σ H Q => ∃ (F : Addr → Prop) (δ : St3) (μ : Mu) (R : List D → Mu → Prop), Sim K F H μ ∧ Sl K F H σ δ ∧ t δ μ R ∧
  ∀ F' vs H' ds μ', Step K F H μ F' H' μ' → Rps K F' H' ds vs → R ds μ' → Q vs H'
structure EndsOk (K : PySem.W.Frag) (F : Addr → Prop) (H : Hp) (μ : Mu) (D3 : Ends3) (D : Ends) : Prop where
  nx : ∀ F' σ' H' δ' μ', Step K F H μ F' H' μ' → Sl K F' H' σ' δ' → D3.nx δ' μ' → D.nx σ' H'
  bk : ∀ F' σ' H' δ' μ', Step K F H μ F' H' μ' → Sl K F' H' σ' δ' → D3.bk δ' μ' → D.bk σ' H'
  ct : ∀ F' σ' H' δ' μ', Step K F H μ F' H' μ' → Sl K F' H' σ' δ' → D3.ct δ' μ' → D.ct σ' H'
  rt : ∀ F' v H' d μ', Step K F H μ F' H' μ' → Rp K F' H' d v → D3.rt d μ' → D.rt v H'
theorem EndsOk.st {K : PySem.W.Frag} {F F' : Addr → Prop} {H H' : Hp} {μ μ' : Mu} {D3 : Ends3} {D : Ends} (e : EndsOk K F H μ D3 D) (g : Step K F H μ F' H' μ') : EndsOk K F' H' μ' D3 D :=
  ⟨fun a b c d m g' => e.nx a b c d m (g.trans g'), fun a b c d m g' => e.bk a b c d m (g.trans g'), fun a b c d m g' => e.ct a b c d m (g.trans g'), fun a b c d m g' => e.rt a b c d m (g.trans g')⟩
def lowS (K : PySem.W.Frag) (t : TS3) : TS := fun D σ H => ∃ (F : Addr → Prop) (δ : St3) (μ : Mu) (D3 : Ends3), Sim K F H μ ∧ Sl K F H σ δ ∧ t D3 δ μ ∧ EndsOk K F H μ D3 D
def E3 (X : Cx) (e : Expr) (t : TE3) : Prop := PE X e (low X.K t)
def T3 (X : Cx) (e : Expr) (t : TT3) : Prop := PT X e (lowT X.K t)
def W3 (X : Cx) (e : Expr) (t : TT3) : Prop := PW X e (lowT X.K t)
def A3 (X : Cx) (es : List Expr) (t : TA3) : Prop := PA X es (lowA X.K t)
def S3 (X : Cx) (st : Stmt) (t : TS3) : Prop := PS X st (lowS X.K t)
def Ss3 (X : Cx) (st : List Stmt) (t : TS3) : Prop := PSs X st (lowS X.K t)
theorem _root_.L2.PE.imp {X : Cx} {e : Expr} {t t' : TE} (h : PE X e t) (i : ∀ σ H Q, t' σ H Q → t σ H Q) : PE X e t' := ⟨fun pins s σ H Q I q => h.run pins s σ H Q I (i _ _ _ q)⟩
theorem _root_.L2.PT.imp {X : Cx} {e : Expr} {t t' : TT} (h : PT X e t) (i : ∀ σ H Q, t' σ H Q → t σ H Q) : PT X e t' := ⟨fun pins s σ H Q I q => h.run pins s σ H Q I (i _ _ _ q)⟩
theorem _root_.L2.PW.imp {X : Cx} {e : Expr} {t t' : TT} (h : PW X e t) (i : ∀ σ H Q, t' σ H Q → t σ H Q) : PW X e t' := ⟨fun wh pins s σ H Q I q => h.run wh pins s σ H Q I (i _ _ _ q)⟩
theorem _root_.L2.PA.imp {X : Cx} {es : List Expr} {t t' : TA} (h : PA X es t) (i : ∀ σ H Q, t' σ H Q → t σ H Q) : PA X es t' := ⟨fun pos pins s σ H Q I q => h.run pos pins s σ H Q I (i _ _ _ q)⟩
theorem _root_.L2.PS.imp {X : Cx} {e : Stmt} {t t' : TS} (h : PS X e t) (i : ∀ D σ H, t' D σ H → t D σ H) : PS X e t' := ⟨fun pins s σ H D I q => h.run pins s σ H D I (i _ _ _ q)⟩
theorem _root_.L2.PSs.imp {X : Cx} {e : List Stmt} {t t' : TS} (h : PSs X e t) (i : ∀ D σ H, t' D σ H → t D σ H) : PSs X e t' := ⟨fun pins s σ H D I q => h.run pins s σ H D I (i _ _ _ q)⟩
/-- what an option is worth -/
def giv (o : Option D) (μ : Mu) (R : DK) : Prop := match o with
  | some d => R d μ
  | none => False
section
variable {X : Cx} {e a b c : Expr} {es rest : List Expr} {ta tb tc : TE3} {pos : Pos}
/-! ### names, constants -/
def vVar (i : Nat) : TE3 := fun δ μ R => match δ[i]? with
  | some (some d) => R d μ
  | _ => False
theorem lowVar {K : PySem.W.Frag} {i : Nat} {σ : St} {H : Hp} {Q : VK} (h : low K (vVar i) σ H Q) : tVar i σ H Q := by
  obtain ⟨F, δ, μ, R, s, sl, h, k⟩ := h
  unfold vVar at h
  split at h
  · rename_i d e
    obtain ⟨v, e1, r⟩ := sl.at_ i d e
    exact ⟨v, e1, k F v H d μ (Step.refl s) r h⟩
  · exact h.elim
theorem e_var {x : Str} (i : Nat) (hN : X.N[i]? = some x := by rfl) (hv : Vis X.env.scope x := by first | exact Or.inl rfl | exact Or.inr (Or.inl rfl) | exact Or.inr (Or.inr rfl)) (hd : (x == ("__debug__" : Str)) = false := by decide) (hcd : (x == ("__classdict__" : Str)) = false := by decide) :
    E3 X (.Name x pos) (vVar i) := (pe_var hN hv hd hcd).imp fun _ _ _ h => lowVar h
def vC (d : D) : TE3 := fun _ μ R => R d μ
theorem lowC {K : PySem.W.Frag} {d : D} {v : V} {σ : St} {H : Hp} {Q : VK} (r : ∀ F H, Rp K F H d v) (h : low K (vC d) σ H Q) : tC v σ H Q := by
  obtain ⟨F, δ, μ, R, s, sl, h, k⟩ := h
  exact k F v H d μ (Step.refl s) (r F H) h
theorem e_int {i j} : E3 X (.Constant (.int i) j pos) (vC (.int i)) := pe_int.imp fun _ _ _ h => lowC (fun _ _ => .int i) h
theorem e_bl {b j} : E3 X (.Constant (.bool b) j pos) (vC (.bl b)) := pe_bl.imp fun _ _ _ h => lowC (fun _ _ => .bl b) h
theorem e_non {j} : E3 X (.Constant .none j pos) (vC .non) := pe_non.imp fun _ _ _ h => lowC (fun _ _ => .non) h
theorem e_str {x j} : E3 X (.Constant (.str x) j pos) (vC (.str x)) := pe_str.imp fun _ _ _ h => lowC (fun _ _ => .str x) h
/-- a module's constant -/
theorem e_gint {x : Str} {i : Int} {t : Tok} (hm : X.mg x = some (.int i t)) (hg : Gl X x := by rfl) (hd : (x == ("__debug__" : Str)) = false := by decide) : E3 X (.Name x pos) (vC (.int i)) :=
  (pe_glob (v := .int i) hg hm ⟨t, rfl⟩ hd).imp fun _ _ _ h => lowC (v := .int i) (fun _ _ => .int i) h
theorem e_gstr {x z : Str} {t : Tok} (hm : X.mg x = some (.str z t)) (hg : Gl X x := by rfl) (hd : (x == ("__debug__" : Str)) = false := by decide) : E3 X (.Name x pos) (vC (.str z)) :=
  (pe_glob (v := .str z) hg hm ⟨t, rfl⟩ hd).imp fun _ _ _ h => lowC (v := .str z) (fun _ _ => .str z) h
/-- a class of the program as a value -/
theorem e_gref {x : Str} {C : Addr} (hm : X.mg x = some (.ref C)) (hg : Gl X x := by rfl) (hd : (x == ("__debug__" : Str)) = false := by decide) : E3 X (.Name x pos) (vC (.ref C)) :=
  (pe_glob (v := .ref C) hg hm rfl hd).imp fun _ _ _ h => lowC (v := .ref C) (fun _ _ => .ref C) h
/-- a built-in class as a value -/
theorem e_bty {x : Str} {n : String} (hm : X.mg x = none) (hv : bootBuiltins x = some (.type n)) (hg : Gl X x := by rfl) (hn : x ≠ "__name__" := by decide) (hd : (x == ("__debug__" : Str)) = false := by decide) : E3 X (.Name x pos) (vC (.ty n)) :=
  (pe_bltn (v := .ty n) hg hm hv rfl hn hd).imp fun _ _ _ h => lowC (v := .ty n) (fun _ _ => .ty n) h
/-! ### argument lists -/
def vNil : TA3 := fun _ μ R => R [] μ
def vCons (ta : TE3) (tr : TA3) : TA3 := fun δ μ R => ta δ μ fun d μ1 => tr δ μ1 fun ds μ2 => R (d :: ds) μ2
theorem a_nil : A3 X [] vNil := pa_nil.imp fun _ H Q h => by
  obtain ⟨F, δ, μ, R, s, sl, h, k⟩ := h
  exact k F [] H [] μ (Step.refl s) .nil h
theorem low_cons {K : PySem.W.Frag} {tr : TA3} {σ : St} {H : Hp} {Q : List V → Hp → Prop} (h : lowA K (vCons ta tr) σ H Q) : tCons (low K ta) (lowA K tr) σ H Q := by
  obtain ⟨F, δ, μ, R, s, sl, h, k⟩ := h
  exact ⟨F, δ, μ, _, s, sl, h, fun F' v H' d μ' g r q => ⟨F', δ, μ', _, g.sim, sl.st g, q, fun F'' vs H'' ds μ'' g' rs q' => k F'' (v :: vs) H'' (d :: ds) μ'' (g.trans g') (.cons (r.st g') rs) q'⟩⟩
theorem a_cons {tr : TA3} (ha : E3 X e ta) (hr : A3 X es tr) (hs : starEach (e :: es) X.env = (false, eval e X.env) :: starEach es X.env := by rfl) : A3 X (e :: es) (vCons ta tr) :=
  (pa_cons ha hr hs).imp fun _ _ _ h => low_cons h
/-! ### operators by values -/
abbrev G2 := D → D → Mu → DK → Prop
/-- an operator's rule, lifted -/
def OpL (X : Cx) (f : Value → Value → Sem Value) (G : G2) : Prop := ∃ r : R2, OpR X f r ∧ ∀ F H μ x y vx vy R Q, Sim X.K F H μ → Rp X.K F H x vx → Rp X.K F H y vy → G x y μ R →
  (∀ F' v H' z μ', Step X.K F H μ F' H' μ' → Rp X.K F' H' z v → R z μ' → Q v H') → r vx vy H Q
def vOp (G : G2) (ta tb : TE3) : TE3 := fun δ μ R => ta δ μ fun x μ1 => tb δ μ1 fun y μ2 => G x y μ2 R
theorem low_op {K : PySem.W.Frag} {r : R2} {G : G2} {σ : St} {H : Hp} {Q : VK} (hr : ∀ F H μ x y vx vy R Q, Sim K F H μ → Rp K F H x vx → Rp K F H y vy → G x y μ R →
    (∀ F' v H' z μ', Step K F H μ F' H' μ' → Rp K F' H' z v → R z μ' → Q v H') → r vx vy H Q) (h : low K (vOp G ta tb) σ H Q) : tOp r (low K ta) (low K tb) σ H Q := by
  obtain ⟨F, δ, μ, R, s, sl, h, k⟩ := h
  exact ⟨F, δ, μ, _, s, sl, h, fun F1 v H1 d μ1 g r1 q1 => ⟨F1, δ, μ1, _, g.sim, sl.st g, q1, fun F2 u H2 d2 μ2 g2 r2 q2 =>
    hr F2 H2 μ2 d d2 v u R Q g2.sim (r1.st g2) r2 q2 fun F3 w H3 z μ3 g3 r3 q3 => k F3 w H3 z μ3 ((g.trans g2).trans g3) r3 q3⟩⟩
theorem e_op {op : Operator} {G : G2} (ho : OpL X (binaryOp op) G) (ha : E3 X a ta) (hb : E3 X b tb) : E3 X (.BinOp a op b pos) (vOp G ta tb) := by
  obtain ⟨r, hr, hl⟩ := ho
  exact (pe_op hr ha hb).imp fun _ _ _ h => low_op hl h
theorem e_cmp {op : CmpOp} {G : G2} (ho : OpL X (compareOp op) G) (ha : E3 X a ta) (hb : E3 X b tb) (hm : behindInMarks op b = false := by first | exact nomark _ | rfl) : E3 X (.Compare a [op] [b] pos) (vOp G ta tb) := by
  obtain ⟨r, hr, hl⟩ := ho
  exact (pe_cmpR hr ha hb hm).imp fun _ _ _ h => low_op hl h
/-- a test that is a bool -/
def vB (t : TE3) : TT3 := fun δ μ R => t δ μ fun d μ1 => match d with
  | .bl b => R b μ1
  | _ => False
theorem low_B {K : PySem.W.Frag} {σ : St} {H : Hp} {Q : Bool → Hp → Prop} (h : lowT K (vB ta) σ H Q) : low K ta σ H fun x H1 => ∃ c, x = .bl c ∧ Q c H1 := by
  obtain ⟨F, δ, μ, R, s, sl, h, k⟩ := h
  refine ⟨F, δ, μ, _, s, sl, h, fun F1 v H1 d μ1 g r1 q1 => ?_⟩
  cases d with
  | bl b => cases r1; exact ⟨b, rfl, k F1 b H1 μ1 g q1⟩
  | _ => exact (show False from q1).elim
theorem t_val (h : E3 X e ta) (he : ∀ whole, isTrue e X.env whole = (do let v ← whole; standAt e.pos; holding [v] (truthy v)) := by intro _; rfl) : T3 X e (vB ta) := (pt_val h he).imp fun _ _ _ h => low_B h
theorem t_cmp {op : CmpOp} {G : G2} (ho : OpL X (compareOp op) G) (ha : E3 X a ta) (hb : E3 X b tb) (hm : behindInMarks op b = false := by first | exact nomark _ | rfl) : T3 X (.Compare a [op] [b] pos) (vB (vOp G ta tb)) := by
  obtain ⟨r, hr, hl⟩ := ho
  refine (pt_cmpR hr ha hb hm).imp fun σ H Q h => ?_
  obtain ⟨F, δ, μ, R, s, sl, h, k⟩ := h
  refine low_op (Q := fun x H' => ∃ k, x = .bl k ∧ Q k H') hl ⟨F, δ, μ, _, s, sl, h, fun F1 v H1 d μ1 g r1 q1 => ?_⟩
  cases d with
  | bl b => cases r1; exact ⟨b, rfl, k F1 b H1 μ1 g q1⟩
  | _ => exact (show False from q1).elim
/-- a < b < c -/
def vChain (G G' : G2) (ta tb tc : TE3) : TE3 := fun δ μ R => ta δ μ fun x μ1 => tb δ μ1 fun y μ2 => G x y μ2 fun z μ3 => match z with
  | .bl k => if k = true then tc δ μ3 fun w μ4 => G' y w μ4 R else R (.bl false) μ3
  | _ => False
theorem e_chain {op op' : CmpOp} {G G' : G2} (ho : OpL X (compareOp op) G) (ho' : OpL X (compareOp op') G') (ha : E3 X a ta) (hb : E3 X b tb) (hc : E3 X c tc) (hm : lastMarks [op, op'] [b, c] = false := by rfl) : E3 X (.Compare a [op, op'] [b, c] pos) (vChain G G' ta tb tc) := by
  obtain ⟨r, hr, hl⟩ := ho
  obtain ⟨r', hr', hl'⟩ := ho'
  refine (pe_chain hr hr' ha hb hc hm).imp fun σ H Q h => ?_
  obtain ⟨F, δ, μ, R, s, sl, h, k⟩ := h
  refine ⟨F, δ, μ, _, s, sl, h, fun F1 v H1 d μ1 g r1 q1 => ⟨F1, δ, μ1, _, g.sim, sl.st g, q1, fun F2 u H2 d2 μ2 g2 r2 q2 => ?_⟩⟩
  refine hl F2 H2 μ2 d d2 v u _ _ g2.sim (r1.st g2) r2 q2 fun F3 w H3 z μ3 g3 r3 q3 => ?_
  cases z with
  | bl b =>
    cases r3
    refine ⟨b, rfl, ?_⟩
    cases b with
    | true => exact ⟨F3, δ, μ3, _, g3.sim, sl.st ((g.trans g2).trans g3), q3, fun F4 y H4 z μ4 g4 r4 q4 => hl' F4 H4 μ4 d2 z u y R Q g4.sim (r2.st (g3.trans g4)) r4 q4 fun F5 w H5 z μ5 g5 r5 q5 => k F5 w H5 z μ5 ((((g.trans g2).trans g3).trans g4).trans g5) r5 q5⟩
    | false => exact k F3 (.bl false) H3 (.bl false) μ3 ((g.trans g2).trans g3) (.bl false) q3
  | _ => exact (show False from q3).elim
theorem t_chain {op op' : CmpOp} {G G' : G2} (ho : OpL X (compareOp op) G) (ho' : OpL X (compareOp op') G') (ha : E3 X a ta) (hb : E3 X b tb) (hc : E3 X c tc) (hm : lastMarks [op, op'] [b, c] = false := by rfl) : T3 X (.Compare a [op, op'] [b, c] pos) (vB (vChain G G' ta tb tc)) := by
  obtain ⟨r, hr, hl⟩ := ho
  obtain ⟨r', hr', hl'⟩ := ho'
  refine (pt_chain hr hr' ha hb hc hm).imp fun σ H Q h => ?_
  obtain ⟨F, δ, μ, R, s, sl, h, k⟩ := h
  refine ⟨F, δ, μ, _, s, sl, h, fun F1 v H1 d μ1 g r1 q1 => ⟨F1, δ, μ1, _, g.sim, sl.st g, q1, fun F2 u H2 d2 μ2 g2 r2 q2 => ?_⟩⟩
  refine hl F2 H2 μ2 d d2 v u _ _ g2.sim (r1.st g2) r2 q2 fun F3 w H3 z μ3 g3 r3 q3 => ?_
  cases z with
  | bl b =>
    cases r3
    refine ⟨b, rfl, ?_⟩
    cases b with
    | true =>
      refine ⟨F3, δ, μ3, _, g3.sim, sl.st ((g.trans g2).trans g3), q3, fun F4 y H4 z μ4 g4 r4 q4 => hl' F4 H4 μ4 d2 z u y _ _ g4.sim (r2.st (g3.trans g4)) r4 q4 fun F5 w H5 z μ5 g5 r5 q5 => ?_⟩
      cases z with
      | bl b => cases r5; exact ⟨b, rfl, k F5 b H5 μ5 ((((g.trans g2).trans g3).trans g4).trans g5) q5⟩
      | _ => exact (show False from q5).elim
    | false => exact ⟨false, rfl, k F3 false H3 μ3 ((g.trans g2).trans g3) q3⟩
  | _ => exact (show False from q3).elim
/-! ### and, or, not, if else -/
variable {tA tB' : TT3}
def vAnd (t u : TT3) : TT3 := fun δ μ R => t δ μ fun c μ1 => if c = true then u δ μ1 R else R false μ1
def vOr (t u : TT3) : TT3 := fun δ μ R => t δ μ fun c μ1 => if c = true then R true μ1 else u δ μ1 R
def vNot (t : TT3) : TT3 := fun δ μ R => t δ μ fun c μ1 => R (!c) μ1
theorem w_and1 (ha : T3 X a tA) : W3 X (.BoolOp .And [a] pos) tA := pw_and1 ha
theorem w_or1 (ha : T3 X a tA) : W3 X (.BoolOp .Or [a] pos) tA := pw_or1 ha
theorem w_and (ha : T3 X a tA) (hb : W3 X (.BoolOp .And (b :: rest) pos) tB') : W3 X (.BoolOp .And (a :: b :: rest) pos) (vAnd tA tB') := (pw_and ha hb).imp fun σ H Q h => by
  obtain ⟨F, δ, μ, R, s, sl, h, k⟩ := h
  refine ⟨F, δ, μ, _, s, sl, h, fun F1 c H1 μ1 g q1 => ?_⟩
  cases c with
  | true => exact ⟨F1, δ, μ1, _, g.sim, sl.st g, q1, fun F2 c H2 μ2 g2 q2 => k F2 c H2 μ2 (g.trans g2) q2⟩
  | false => exact k F1 false H1 μ1 g q1
theorem w_or (ha : T3 X a tA) (hb : W3 X (.BoolOp .Or (b :: rest) pos) tB') : W3 X (.BoolOp .Or (a :: b :: rest) pos) (vOr tA tB') := (pw_or ha hb).imp fun σ H Q h => by
  obtain ⟨F, δ, μ, R, s, sl, h, k⟩ := h
  refine ⟨F, δ, μ, _, s, sl, h, fun F1 c H1 μ1 g q1 => ?_⟩
  cases c with
  | true => exact k F1 true H1 μ1 g q1
  | false => exact ⟨F1, δ, μ1, _, g.sim, sl.st g, q1, fun F2 c H2 μ2 g2 q2 => k F2 c H2 μ2 (g.trans g2) q2⟩
theorem t_w (h : W3 X e tA) : T3 X e tA := PW.pt h
theorem t_not (ha : T3 X a tA) : T3 X (.UnaryOp .Not a pos) (vNot tA) := (pt_not ha).imp fun σ H Q h => by
  obtain ⟨F, δ, μ, R, s, sl, h, k⟩ := h
  exact ⟨F, δ, μ, _, s, sl, h, fun F1 c H1 μ1 g q1 => k F1 (!c) H1 μ1 g q1⟩
def vAndV (ta tb : TE3) : TE3 := fun δ μ R => ta δ μ fun x μ1 => match x with
  | .bl c => if c = true then tb δ μ1 R else R (.bl false) μ1
  | _ => False
def vOrV (ta tb : TE3) : TE3 := fun δ μ R => ta δ μ fun x μ1 => match x with
  | .bl c => if c = true then R (.bl true) μ1 else tb δ μ1 R
  | _ => False
def vNotV (ta : TE3) : TE3 := fun δ μ R => ta δ μ fun x μ1 => match x with
  | .bl c => R (.bl (!c)) μ1
  | _ => False
theorem e_one {op} (h : E3 X a ta) : E3 X (.BoolOp op [a] pos) ta := pe_one h
theorem e_and (ha : E3 X a ta) (hb : E3 X (.BoolOp .And (b :: rest) pos) tb) : E3 X (.BoolOp .And (a :: b :: rest) pos) (vAndV ta tb) := (pe_and ha hb).imp fun σ H Q h => by
  obtain ⟨F, δ, μ, R, s, sl, h, k⟩ := h
  refine ⟨F, δ, μ, _, s, sl, h, fun F1 v H1 d μ1 g r1 q1 => ?_⟩
  cases d with
  | bl c =>
    cases r1
    refine ⟨c, rfl, ?_⟩
    cases c with
    | true => exact ⟨F1, δ, μ1, _, g.sim, sl.st g, q1, fun F2 v H2 d μ2 g2 r2 q2 => k F2 v H2 d μ2 (g.trans g2) r2 q2⟩
    | false => exact k F1 (.bl false) H1 (.bl false) μ1 g (.bl false) q1
  | _ => exact (show False from q1).elim
theorem e_or (ha : E3 X a ta) (hb : E3 X (.BoolOp .Or (b :: rest) pos) tb) : E3 X (.BoolOp .Or (a :: b :: rest) pos) (vOrV ta tb) := (pe_or ha hb).imp fun σ H Q h => by
  obtain ⟨F, δ, μ, R, s, sl, h, k⟩ := h
  refine ⟨F, δ, μ, _, s, sl, h, fun F1 v H1 d μ1 g r1 q1 => ?_⟩
  cases d with
  | bl c =>
    cases r1
    refine ⟨c, rfl, ?_⟩
    cases c with
    | true => exact k F1 (.bl true) H1 (.bl true) μ1 g (.bl true) q1
    | false => exact ⟨F1, δ, μ1, _, g.sim, sl.st g, q1, fun F2 v H2 d μ2 g2 r2 q2 => k F2 v H2 d μ2 (g.trans g2) r2 q2⟩
  | _ => exact (show False from q1).elim
theorem e_not (ha : E3 X a ta) : E3 X (.UnaryOp .Not a pos) (vNotV ta) := (pe_not ha).imp fun σ H Q h => by
  obtain ⟨F, δ, μ, R, s, sl, h, k⟩ := h
  refine ⟨F, δ, μ, _, s, sl, h, fun F1 v H1 d μ1 g r1 q1 => ?_⟩
  cases d with
  | bl c => cases r1; exact ⟨c, rfl, k F1 (.bl (!c)) H1 (.bl (!c)) μ1 g (.bl (!c)) q1⟩
  | _ => exact (show False from q1).elim
def vIf (t : TT3) (ta tb : TE3) : TE3 := fun δ μ R => t δ μ fun c μ1 => if c = true then ta δ μ1 R else tb δ μ1 R
theorem e_if (hc : T3 X c tA) (ha : E3 X a ta) (hb : E3 X b tb) : E3 X (.IfExp c a b pos) (vIf tA ta tb) := (pe_ifExp hc ha hb).imp fun σ H Q h => by
  obtain ⟨F, δ, μ, R, s, sl, h, k⟩ := h
  refine ⟨F, δ, μ, _, s, sl, h, fun F1 c H1 μ1 g q1 => ?_⟩
  cases c with
  | true => exact ⟨F1, δ, μ1, _, g.sim, sl.st g, q1, fun F2 v H2 d μ2 g2 r2 q2 => k F2 v H2 d μ2 (g.trans g2) r2 q2⟩
  | false => exact ⟨F1, δ, μ1, _, g.sim, sl.st g, q1, fun F2 v H2 d μ2 g2 r2 q2 => k F2 v H2 d μ2 (g.trans g2) r2 q2⟩
/-! ### unary, calls of built-ins -/
def UnL (X : Cx) (f : Value → Sem Value) (G : D → Mu → DK → Prop) : Prop := ∃ r, UnR X f r ∧ ∀ F H μ x vx R Q, Sim X.K F H μ → Rp X.K F H x vx → G x μ R →
  (∀ F' v H' z μ', Step X.K F H μ F' H' μ' → Rp X.K F' H' z v → R z μ' → Q v H') → r vx H Q
def vUn (G : D → Mu → DK → Prop) (ta : TE3) : TE3 := fun δ μ R => ta δ μ fun x μ1 => G x μ1 R
theorem e_un {op : UnaryOp} {G : D → Mu → DK → Prop} (ho : UnL X (unaryOp op) G) (ha : E3 X a ta) : E3 X (.UnaryOp op a pos) (vUn G ta) := by
  obtain ⟨r, hr, hl⟩ := ho
  refine (pe_un hr ha).imp fun σ H Q h => ?_
  obtain ⟨F, δ, μ, R, s, sl, h, k⟩ := h
  exact ⟨F, δ, μ, _, s, sl, h, fun F1 v H1 d μ1 g r1 q1 => hl F1 H1 μ1 d v R Q g.sim r1 q1 fun F2 w H2 z μ2 g2 r2 q2 => k F2 w H2 z μ2 (g.trans g2) r2 q2⟩
abbrev GA := List D → Mu → DK → Prop
def CallL (X : Cx) (f : Value) (G : GA) : Prop := ∃ r, CallR X f r ∧ ∀ F H μ ds vs R Q, Sim X.K F H μ → Rps X.K F H ds vs → G ds μ R →
  (∀ F' v H' z μ', Step X.K F H μ F' H' μ' → Rp X.K F' H' z v → R z μ' → Q v H') → r vs H Q
def vCB (G : GA) (ta : TA3) : TE3 := fun δ μ R => ta δ μ fun ds μ1 => G ds μ1 R
variable {tr : TA3} {x : Str} {p : Pos} {id T : String}
theorem low_cb {K : PySem.W.Frag} {r : List V → Hp → VK → Prop} {G : GA} {σ : St} {H : Hp} {Q : VK} (hl : ∀ F H μ ds vs R Q, Sim K F H μ → Rps K F H ds vs → G ds μ R →
    (∀ F' v H' z μ', Step K F H μ F' H' μ' → Rp K F' H' z v → R z μ' → Q v H') → r vs H Q) (h : low K (vCB G tr) σ H Q) : tCB r (lowA K tr) σ H Q := by
  obtain ⟨F, δ, μ, R, s, sl, h, k⟩ := h
  exact ⟨F, δ, μ, _, s, sl, h, fun F1 v H1 d μ1 g r1 q1 => hl F1 H1 μ1 d v R Q g.sim r1 q1 fun F2 w H2 z μ2 g2 r2 q2 => k F2 w H2 z μ2 (g.trans g2) r2 q2⟩
theorem e_callB {G : GA} (hc : CallL X (.builtin id) G) (hm : X.mg x = none) (hv : bootBuiltins x = some (.builtin id)) (ha : A3 X (e :: es) tr) (hg : Gl X x := by rfl) (hn : x ≠ "__name__" := by decide) (hdb : (x == ("__debug__" : Str)) = false := by decide)
    (he : starEach (e :: es) X.env = (false, eval e X.env) :: starEach es X.env := by rfl) (hpl : (backTo pos (starEach es X.env)).any (·.1) = false := by rfl) : E3 X (.Call (.Name x p) (e :: es) [] pos) (vCB G tr) := by
  obtain ⟨r, hr, hl⟩ := hc
  exact (pe_callB hr hg hm hv ha hn hdb he hpl).imp fun σ H Q h => low_cb hl h
theorem e_callTy {G : GA} (hc : CallL X (.type T) G) (hm : X.mg x = none) (hv : bootBuiltins x = some (.type T)) (ha : A3 X (e :: es) tr) (hg : Gl X x := by rfl) (hn : x ≠ "__name__" := by decide) (hdb : (x == ("__debug__" : Str)) = false := by decide)
    (he : starEach (e :: es) X.env = (false, eval e X.env) :: starEach es X.env := by rfl) (hpl : (backTo pos (starEach es X.env)).any (·.1) = false := by rfl) : E3 X (.Call (.Name x p) (e :: es) [] pos) (vCB G tr) := by
  obtain ⟨r, hr, hl⟩ := hc
  exact (pe_callTy hr hg hm hv ha hn hdb he hpl).imp fun σ H Q h => low_cb hl h
/-! ### displays -/
/-- a frozen list, a frozen tuple, a tracked list -/
def vLst (ta : TA3) : TE3 := fun δ μ R => ta δ μ fun ds μ1 => ds.length ≤ sizeLine ∧ R (.lst ds) μ1
def vTup (ta : TA3) : TE3 := fun δ μ R => ta δ μ fun ds μ1 => ds.length ≤ sizeLine ∧ R (.tup ds) μ1
def vLstT (ta : TA3) : TE3 := fun δ μ R => ta δ μ fun ds μ1 => ds.length ≤ sizeLine ∧ ∀ q, μ1 q = none → R (.ref q) (mset μ1 q (.lst ds))
theorem e_lst (h : A3 X es tr) : E3 X (.List es pos) (vLst tr) := (pe_lst h).imp fun σ H Q h => by
  obtain ⟨F, δ, μ, R, s, sl, h, k⟩ := h
  refine ⟨F, δ, μ, _, s, sl, h, fun F1 vs H1 ds μ1 g r1 ⟨z, q1⟩ => ⟨by rw [← r1.length]; exact z, fun p hp => ?_⟩⟩
  have g2 := g.sim.frzS (o := .lst vs) hp
  exact k _ (.ref p) _ (.lst ds) μ1 (g.trans g2) (.lst (.inr rfl) upd_same (r1.st g2)) q1
theorem e_tup {x1} (h : A3 X es tr) : E3 X (.Tuple es x1 pos) (vTup tr) := (pe_tup h).imp fun σ H Q h => by
  obtain ⟨F, δ, μ, R, s, sl, h, k⟩ := h
  refine ⟨F, δ, μ, _, s, sl, h, fun F1 vs H1 ds μ1 g r1 ⟨z, q1⟩ => ⟨by rw [← r1.length]; exact z, fun p hp => ?_⟩⟩
  have g2 := g.sim.frzS (o := .tup vs) hp
  exact k _ (.ref p) _ (.tup ds) μ1 (g.trans g2) (.tup (.inr rfl) upd_same (r1.st g2)) q1
theorem e_lstT (h : A3 X es tr) : E3 X (.List es pos) (vLstT tr) := (pe_lst h).imp fun σ H Q h => by
  obtain ⟨F, δ, μ, R, s, sl, h, k⟩ := h
  refine ⟨F, δ, μ, _, s, sl, h, fun F1 vs H1 ds μ1 g r1 ⟨z, q1⟩ => ⟨by rw [← r1.length]; exact z, fun p hp => ?_⟩⟩
  have g2 := g.sim.trkS (o := .lst vs) (m := .lst ds) hp fun g' e => ⟨vs, e, r1.grow g'⟩
  exact k _ (.ref p) _ (.ref p) _ (g.trans g2) (.ref p) (q1 p (g.sim.free hp))
end
end L3

namespace L3
open PySem PySem.Spec L2
/-! ### what was tracked is forgotten, and frozen -/
mutual
inductive Fr (μ μ' : Mu) : D → D → Prop
  | same (d : D) : Fr μ μ' d d
  | lst {a : Addr} {xs ys : List D} : μ a = some (.lst xs) → μ' a = none → Frs μ μ' xs ys → Fr μ μ' (.ref a) (.lst ys)
  | dct {a : Addr} {xs ys : List (Key × D)} : μ a = some (.dct xs) → μ' a = none → Frk μ μ' xs ys → Fr μ μ' (.ref a) (.dct ys)
  | obj {a C : Addr} {xs ys : List (Str × D)} : μ a = some (.ins C xs) → μ' a = none → Frf μ μ' xs ys → Fr μ μ' (.ref a) (.obj C ys)
  | inL {xs ys : List D} : Frs μ μ' xs ys → Fr μ μ' (.lst xs) (.lst ys)
  | inT {xs ys : List D} : Frs μ μ' xs ys → Fr μ μ' (.tup xs) (.tup ys)
  | inD {xs ys : List (Key × D)} : Frk μ μ' xs ys → Fr μ μ' (.dct xs) (.dct ys)
  | inO {C : Addr} {xs ys : List (Str × D)} : Frf μ μ' xs ys → Fr μ μ' (.obj C xs) (.obj C ys)
inductive Frs (μ μ' : Mu) : List D → List D → Prop
  | nil : Frs μ μ' [] []
  | cons {d e : D} {ds es : List D} : Fr μ μ' d e → Frs μ μ' ds es → Frs μ μ' (d :: ds) (e :: es)
inductive Frk (μ μ' : Mu) : List (Key × D) → List (Key × D) → Prop
  | nil : Frk μ μ' [] []
  | cons {k : Key} {d e : D} {ds es : List (Key × D)} : Fr μ μ' d e → Frk μ μ' ds es → Frk μ μ' ((k, d) :: ds) ((k, e) :: es)
inductive Frf (μ μ' : Mu) : List (Str × D) → List (Str × D) → Prop
  | nil : Frf μ μ' [] []
  | cons {k : Str} {d e : D} {ds es : List (Str × D)} : Fr μ μ' d e → Frf μ μ' ds es → Frf μ μ' ((k, d) :: ds) ((k, e) :: es)
end
theorem Frs.same {μ μ' : Mu} : ∀ xs : List D, Frs μ μ' xs xs
  | [] => .nil
  | x :: r => .cons (.same x) (Frs.same r)
theorem Frk.same {μ μ' : Mu} : ∀ xs : List (Key × D), Frk μ μ' xs xs
  | [] => .nil
  | (k, x) :: r => .cons (.same x) (Frk.same r)
theorem Frf.same {μ μ' : Mu} : ∀ xs : List (Str × D), Frf μ μ' xs xs
  | [] => .nil
  | (k, x) :: r => .cons (.same x) (Frf.same r)
def Le (μ' μ : Mu) : Prop := ∀ a o, μ' a = some o → μ a = some o
theorem Le.refl (μ : Mu) : Le μ μ := fun _ _ h => h
theorem Le.trans {a b c : Mu} (h : Le a b) (k : Le b c) : Le a c := fun x o e => k x o (h x o e)
theorem Le.mset {μ' μ : Mu} {a : Addr} {o : MO} (h : Le μ' μ) (hn : μ' a = none) : Le μ' (mset μ a o) := fun b u e => by
  by_cases hb : b = a
  · subst hb; rw [hn] at e; cases e
  · rw [mset_ne hb]; exact h b u e
section
variable {K : PySem.W.Frag} {F : Addr → Prop} {H : Hp} {μ μ' : Mu}
def gone (F : Addr → Prop) (μ μ' : Mu) : Addr → Prop := fun a => F a ∨ ((∃ o, μ a = some o) ∧ μ' a = none)
theorem gone_grow : Grow F H (gone F μ μ') H := ⟨fun _ h => .inl h, fun _ _ _ h => h, fun _ _ _ _ h => h⟩
theorem Sim.dropped (s : Sim K F H μ) (l : Le μ' μ) : Sim K (gone F μ μ') H μ' := by
  have mo : ∀ {a o}, MoOk K F H a o → MoOk K (gone F μ μ') H a o := fun {a o} m => by
    cases o with
    | lst xs => obtain ⟨vs, e, r⟩ := m; exact ⟨vs, e, r.grow gone_grow⟩
    | dct kvs => obtain ⟨vs, e, r⟩ := m; exact ⟨vs, e, r.grow gone_grow⟩
    | ins C fs => obtain ⟨dx, vs, e, r⟩ := m; exact ⟨dx, vs, e, r.grow gone_grow⟩
  refine ⟨fun a f => ?_, fun a o e => ?_⟩
  · rcases f with f | ⟨⟨o, e⟩, _⟩
    · exact s.dom a f
    · have m := (s.obj a o e).2
      cases o with
      | lst xs => obtain ⟨vs, e, r⟩ := m; exact ⟨_, e⟩
      | dct kvs => obtain ⟨vs, e, r⟩ := m; exact ⟨_, e⟩
      | ins C fs => obtain ⟨dx, vs, e, r⟩ := m; exact ⟨_, e⟩
  · obtain ⟨nf, m⟩ := s.obj a o (l a o e)
    refine ⟨fun f => ?_, mo m⟩
    rcases f with f | ⟨_, n⟩
    · exact nf f
    · rw [e] at n; cases n
theorem Sim.dropS (s : Sim K F H μ) (l : Le μ' μ) : Step K F H μ (gone F μ μ') H μ' := by
  have ee : ∀ a, μ a = none → μ' a = none := fun a n => by
    cases e : μ' a with
    | none => rfl
    | some o => rw [l a o e] at n; cases n
  refine ⟨gone_grow, fun a u h n => ⟨ee a n, h, fun z => ?_⟩, s.dropped l⟩
  rcases z with z | ⟨⟨o, z⟩, _⟩
  · exact z
  · rw [n] at z; cases z
mutual
theorem Rp.gone (s : Sim K F H μ) {d d' : D} : ∀ {v : V}, Fr μ μ' d d' → Rp K F H d v → Rp K (gone F μ μ') H d' v
  | _, .same _, r => r.grow gone_grow
  | _, .lst h n q, r => by
    cases r
    obtain ⟨vs, e, rs⟩ := (s.obj _ _ h).2
    exact .lst (.inr ⟨⟨_, h⟩, n⟩) e (Rps.gone s q rs)
  | _, .dct h n q, r => by
    cases r
    obtain ⟨vs, e, rs⟩ := (s.obj _ _ h).2
    exact .dct (.inr ⟨⟨_, h⟩, n⟩) (.inl e) (Rpk.gone s q rs)
  | _, .obj h n q, r => by
    cases r
    obtain ⟨dx, vs, e, rs⟩ := (s.obj _ _ h).2
    exact .obj (.inr ⟨⟨_, h⟩, n⟩) e (Rpf.gone s q rs)
  | _, .inL q, r => by
    cases r with
    | lst f e rs => exact .lst (.inl f) e (Rps.gone s q rs)
  | _, .inT q, r => by
    cases r with
    | tup f e rs => exact .tup (.inl f) e (Rps.gone s q rs)
  | _, .inD q, r => by
    cases r with
    | dct f e rs => exact .dct (.inl f) e (Rpk.gone s q rs)
  | _, .inO q, r => by
    cases r with
    | obj f e rs => exact .obj (.inl f) e (Rpf.gone s q rs)
theorem Rps.gone (s : Sim K F H μ) {ds es : List D} : ∀ {vs : List V}, Frs μ μ' ds es → Rps K F H ds vs → Rps K (gone F μ μ') H es vs
  | _, .nil, r => by cases r; exact .nil
  | _, .cons q t, r => by
    cases r with
    | cons h rs => exact .cons (Rp.gone s q h) (Rps.gone s t rs)
theorem Rpk.gone (s : Sim K F H μ) {ds es : List (Key × D)} : ∀ {vs : List (Key × V)}, Frk μ μ' ds es → Rpk K F H ds vs → Rpk K (gone F μ μ') H es vs
  | _, .nil, r => by cases r; exact .nil
  | _, .cons q t, r => by
    cases r with
    | cons h rs => exact .cons (Rp.gone s q h) (Rpk.gone s t rs)
theorem Rpf.gone (s : Sim K F H μ) {ds es : List (Str × D)} : ∀ {vs : List (Str × V)}, Frf μ μ' ds es → Rpf K F H ds vs → Rpf K (gone F μ μ') H es vs
  | _, .nil, r => by cases r; exact .nil
  | _, .cons q t, r => by
    cases r with
    | cons h rs => exact .cons (Rp.gone s q h) (Rpf.gone s t rs)
end
end
/-- the end of a def: what was made here is forgotten, the answer frozen -/
def fin (R : DK) (d : D) (μ : Mu) : Prop := ∃ d' μ', Le μ' μ ∧ Fr μ μ' d d' ∧ R d' μ'
theorem fin_same {R : DK} {d : D} {μ μ' : Mu} (l : Le μ' μ) (h : R d μ') : fin R d μ := ⟨d, μ', l, .same d, h⟩
theorem fin_now {R : DK} {d : D} {μ : Mu} (h : R d μ) : fin R d μ := fin_same (Le.refl μ) h
theorem fin_lst {R : DK} {a : Addr} {xs : List D} {μ μ' : Mu} (l : Le μ' μ) (e : μ a = some (.lst xs)) (n : μ' a = none) (h : R (.lst xs) μ') : fin R (.ref a) μ := ⟨_, μ', l, .lst e n (Frs.same xs), h⟩
theorem fin_dct {R : DK} {a : Addr} {xs : List (Key × D)} {μ μ' : Mu} (l : Le μ' μ) (e : μ a = some (.dct xs)) (n : μ' a = none) (h : R (.dct xs) μ') : fin R (.ref a) μ := ⟨_, μ', l, .dct e n (Frk.same xs), h⟩
/-! ### what a def promises -/
abbrev Sp3 := List D → Mu → DK → Prop
def lift (K : PySem.W.Frag) (n : Nat) (sp : Sp3) : Sp := fun vs H Q _ => ∃ (F : Addr → Prop) (ds : List D) (μ : Mu) (R : DK), ds.length = n ∧ Sim K F H μ ∧ Rps K F H ds vs ∧ sp ds μ R ∧
  ∀ F' v H' d μ', Step K F H μ F' H' μ' → Rp K F' H' d v → R d μ' → Q v H'
def start3 (N : List Str) (ds : List D) : St3 := ds.map some ++ List.replicate (N.length - ds.length) none
theorem Sl.start {K : PySem.W.Frag} {F : Addr → Prop} {H : Hp} {N : List Str} {ds : List D} {vs : List V} (r : Rps K F H ds vs) : Sl K F H (L2.start N vs) (start3 N ds) := by
  have hl := r.length
  refine ⟨by simp [L2.start, start3, hl], fun i d e => ?_⟩
  unfold start3 at e
  by_cases h : i < ds.length
  · rw [List.getElem?_append_left (by simpa using h), List.getElem?_map] at e
    cases q : ds[i]? with
    | none => rw [q] at e; cases e
    | some x =>
      rw [q] at e
      cases e
      obtain ⟨v, e1, r1⟩ := r.get q
      refine ⟨v, ?_, r1⟩
      unfold L2.start
      rw [List.getElem?_append_left (by simp [← hl, h]), List.getElem?_map, e1]
      rfl
  · rw [List.getElem?_append_right (by simpa using Nat.le_of_not_lt h), List.getElem?_replicate] at e
    split at e <;> cases e
def endsOf (R : DK) : Ends3 := { nx := fun _ μ => fin R .non μ, rt := fun d μ => fin R d μ }
section
variable {P : Program} {w : World} {K : PySem.W.Frag} {mg : Str → Option Value} {base : Heap}
theorem lift_len {n : Nat} {sp : Sp3} {vs : List V} {H : Hp} {Q : VK} {E : XK} (h : lift K n sp vs H Q E) : vs.length = n := by
  obtain ⟨F, ds, μ, R, l, _, r, _⟩ := h
  rw [← r.length]
  exact l
theorem fin_ends {F : Addr → Prop} {H : Hp} {μ : Mu} {R : DK} {Q : VK} (k : ∀ F' v H' d μ', Step K F H μ F' H' μ' → Rp K F' H' d v → R d μ' → Q v H') : EndsOk K F H μ (endsOf R) { nx := fun _ H' => Q .non H', rt := Q } := by
  refine ⟨fun F' σ' H' δ' μ' g _ h => ?_, fun _ _ _ _ _ _ _ h => h.elim, fun _ _ _ _ _ _ _ h => h.elim, fun F' v H' d μ' g r h => ?_⟩
  · obtain ⟨d', μ'', l, f, q⟩ := h
    exact k _ .non H' d' μ'' (g.trans (g.sim.dropS l)) (Rp.gone g.sim f .non) q
  · obtain ⟨d', μ'', l, f, q⟩ := h
    exact k _ v H' d' μ'' (g.trans (g.sim.dropS l)) (Rp.gone g.sim f r) q
theorem _root_.L2.Fun.ok3 {x qual : Str} {st : Stmt} {f : Addr} {fd : FuncData} {N ps : List Str} {k : Nat} {sp : Sp3} (F : Fun K x qual st f fd) (S : FnScope N ps (defScope st))
    (hbody : ∀ (cdv : Value) (A : Around) (outer : List Env) (s : Shared) (H : Hp) (E : XK), Room k (A.deeper (PyProof.Rows.envOfC qual (defScope st) s.heap.objs.size f cdv)) →
      ∃ t, Ss3 (cxOf CX0 P w K mg base N qual (defScope st) f cdv A outer s H E).nox (defBody st) t ∧ ∀ ds μ R, ds.length = ps.length → sp ds μ R → t (endsOf R) (start3 N ds) μ) : FnOk P w K mg base CX0 (k + 1) f fd ps (lift K ps.length sp) := by
  refine F.ok S (fun vs H Q E h => lift_len h) fun cdv A outer s H vs Q E hr h => ?_
  obtain ⟨F', ds, μ, R, l, sm, r, hsp, kk⟩ := h
  obtain ⟨t, h1, h2⟩ := hbody cdv A outer s H E hr
  exact ⟨_, h1, F', _, μ, _, sm, Sl.start r, h2 ds μ R l hsp, fin_ends kk⟩
end
/-- a def by its name -/
structure Fn3 (P : Program) (w : World) (K : PySem.W.Frag) (mg : Str → Option Value) (base : Heap) (k : Nat) (x : Str) (n : Nat) (sp : Sp3) : Prop where
  ex : ∃ (f : Addr) (fd : FuncData) (ps : List Str), mg x = some (.ref f) ∧ PySem.W.keepIn K (.ref f) = true ∧ Binds K fd ps [] ∧ FnOk P w K mg base CX0 k f fd ps (lift K n sp)
def vCall (n : Nat) (sp : Sp3) (tr : TA3) : TE3 := fun δ μ R => tr δ μ fun ds μ1 => ds.length = n ∧ sp ds μ1 R
section
variable {X : Cx} {e : Expr} {es : List Expr} {tr : TA3} {te : TE3} {x : Str} {p pos : Pos} {st : Stmt} {rest : List Stmt} {t u : TS3}
theorem e_call {k n : Nat} {sp : Sp3} {j : Nat} (c : Fn3 X.prog X.w X.K X.mg X.base k x n sp) (hr : Room j X.A) (ha : A3 X (e :: es) tr) (hk : k ≤ j := by decide) (hg : Gl X x := by rfl)
    (hd : (x == ("__debug__" : Str)) = false := by decide) (he : starEach (e :: es) X.env = (false, eval e X.env) :: starEach es X.env := by rfl) (hpl : (backTo pos (starEach es X.env)).any (·.1) = false := by rfl) :
    E3 X (.Call (.Name x p) (e :: es) [] pos) (vCall n sp tr) := by
  obtain ⟨f, fd, ps, hm, kp, hb, F⟩ := c.ex
  refine (pe_call (dvs := []) (E := E0) F (hr.mono hk) hg hm kp hb .nil pass0 ha (hdb := hd) (he := he) (hpl := hpl)).imp fun σ H Q h => ?_
  obtain ⟨F, δ, μ, R, s, sl, h, kk⟩ := h
  refine ⟨F, δ, μ, _, s, sl, h, fun F1 vs H1 ds μ1 g r1 q1 => ?_⟩
  show lift X.K n sp (vs ++ []) H1 Q E0
  rw [List.append_nil]
  exact ⟨F1, ds, μ1, R, q1.1, g.sim, r1, q1.2, fun F2 v H2 d μ2 g2 r2 q2 => kk F2 v H2 d μ2 (g.trans g2) r2 q2⟩
/-! ### statements -/
def sNext : TS3 := fun D δ μ => D.nx δ μ
def sSeq (t u : TS3) : TS3 := fun D δ μ => t { D with nx := u D } δ μ
theorem ss_nil : Ss3 X [] sNext := pss_nil.imp fun D σ H h => by
  obtain ⟨F, δ, μ, D3, s, sl, h, k⟩ := h
  exact k.nx F σ H δ μ (Step.refl s) sl h
theorem ss_cons (h1 : S3 X st t) (h2 : Ss3 X rest u) : Ss3 X (st :: rest) (sSeq t u) := (pss_cons h1 h2).imp fun D σ H h => by
  obtain ⟨F, δ, μ, D3, s, sl, h, k⟩ := h
  exact ⟨F, δ, μ, _, s, sl, h, ⟨fun F' σ' H' δ' μ' g sl' q => ⟨F', δ', μ', D3, g.sim, sl', q, k.st g⟩, k.bk, k.ct, k.rt⟩⟩
theorem ss_one (h1 : S3 X st t) : Ss3 X [st] t := pss_one h1
def sBreak : TS3 := fun D δ μ => D.bk δ μ
def sCont : TS3 := fun D δ μ => D.ct δ μ
theorem s_pass : S3 X (.Pass pos) sNext := ps_pass.imp fun D σ H h => by
  obtain ⟨F, δ, μ, D3, s, sl, h, k⟩ := h
  exact k.nx F σ H δ μ (Step.refl s) sl h
theorem s_break : S3 X (.Break pos) sBreak := ps_break.imp fun D σ H h => by
  obtain ⟨F, δ, μ, D3, s, sl, h, k⟩ := h
  exact k.bk F σ H δ μ (Step.refl s) sl h
theorem s_cont : S3 X (.Continue pos) sCont := ps_continue.imp fun D σ H h => by
  obtain ⟨F, δ, μ, D3, s, sl, h, k⟩ := h
  exact k.ct F σ H δ μ (Step.refl s) sl h
def sNever : TS3 := fun _ _ _ => False
theorem s_never : S3 X st sNever := ps_never.imp fun D σ H h => by
  obtain ⟨F, δ, μ, D3, s, sl, h, k⟩ := h
  exact h
def sDrop (te : TE3) : TS3 := fun D δ μ => te δ μ fun _ μ1 => D.nx δ μ1
theorem s_expr (he : E3 X e te) (hs : swapsWith e none pos.line X.env = pure false := by rfl) : S3 X (.Expr e pos) (sDrop te) := (ps_expr he hs).imp fun D σ H h => by
  obtain ⟨F, δ, μ, D3, s, sl, h, k⟩ := h
  exact ⟨F, δ, μ, _, s, sl, h, fun F1 v H1 d μ1 g r1 q1 => k.nx F1 σ H1 δ μ1 g (sl.st g) q1⟩
def sRet (te : TE3) : TS3 := fun D δ μ => te δ μ D.rt
theorem s_ret (he : E3 X e te) : S3 X (.Return (some e) pos) (sRet te) := (ps_ret he).imp fun D σ H h => by
  obtain ⟨F, δ, μ, D3, s, sl, h, k⟩ := h
  exact ⟨F, δ, μ, _, s, sl, h, fun F1 v H1 d μ1 g r1 q1 => k.rt F1 v H1 d μ1 g r1 q1⟩
def sRetN : TS3 := fun D _ μ => D.rt .non μ
theorem s_retN : S3 X (.Return none pos) sRetN := ps_retN.imp fun D σ H h => by
  obtain ⟨F, δ, μ, D3, s, sl, h, k⟩ := h
  exact k.rt F .non H .non μ (Step.refl s) .non h
def sIf (c : TT3) (t u : TS3) : TS3 := fun D δ μ => c δ μ fun b μ1 => if b = true then t D δ μ1 else u D δ μ1
theorem s_if {c : Expr} {a b : List Stmt} {tc : TT3} (hc : T3 X c tc) (ha : Ss3 X a t) (hb : Ss3 X b u) : S3 X (.If c a b pos) (sIf tc t u) := (ps_if hc ha hb).imp fun D σ H h => by
  obtain ⟨F, δ, μ, D3, s, sl, h, k⟩ := h
  refine ⟨F, δ, μ, _, s, sl, h, fun F1 c H1 μ1 g q1 => ?_⟩
  cases c with
  | true => exact ⟨F1, δ, μ1, D3, g.sim, sl.st g, q1, k.st g⟩
  | false => exact ⟨F1, δ, μ1, D3, g.sim, sl.st g, q1, k.st g⟩
/-! ### targets -/
abbrev TG3 := D → St3 → Option St3
/-- a target that changes only the slots vs -/
structure TgL (K : PySem.W.Frag) (g2 : TG) (g3 : TG3) (vs : List Nat) : Prop where
  run : ∀ (F : Addr → Prop) (H : Hp) (σ : L2.St) (δ δ' : St3) (d : D) (v : V) (Q : L2.St → Hp → Prop), Sl K F H σ δ → Rp K F H d v → g3 d δ = some δ' →
    (∀ σ', (∀ ws : List Nat, (∀ i ∈ vs, i ∈ ws) → wipe σ' ws = wipe σ ws) → Sl K F H σ' δ' → Q σ' H) → g2 v σ H Q
def G3 (X : Cx) (tg : Expr) (g3 : TG3) (vs : List Nat) : Prop := ∃ g2, PG X tg g2 ∧ TgL X.K g2 g3 vs
def gN (i : Nat) : TG3 := fun d δ => some (δ.set i (some d))
theorem wipe_set_mem (σ : L2.St) (x : Option V) : ∀ (ws : List Nat) (i : Nat), i ∈ ws → wipe (σ.set i x) ws = wipe σ ws
  | [], _, h => by cases h
  | w :: ws, i, h => by
    show (wipe (σ.set i x) ws).set w none = (wipe σ ws).set w none
    by_cases hi : i ∈ ws
    · rw [wipe_set_mem σ x ws i hi]
    · have hw : i = w := by
        rcases List.mem_cons.mp h with e | e
        · exact e
        · exact absurd e hi
      subst hw
      have : ∀ (vs : List Nat) (τ : L2.St), i ∉ vs → wipe (τ.set i x) vs = (wipe τ vs).set i x := by
        intro vs
        induction vs with
        | nil => intro τ _; rfl
        | cons v vs ih =>
          intro τ hn
          show (wipe (τ.set i x) vs).set v none = ((wipe τ vs).set v none).set i x
          rw [ih τ (fun z => hn (List.mem_cons_of_mem _ z))]
          rw [List.set_comm _ _ (show i ≠ v from fun e => hn (e ▸ List.mem_cons_self))]
      rw [this ws σ hi, List.set_set]
theorem g_name {i : Nat} {x : Str} (hN : X.N.Nodup) (hi : X.N[i]? = some x := by rfl) (hx : Loc X.env.scope x := by first | exact Or.inl rfl | exact Or.inr rfl) (hf : X.fn x = true ∨ X.env.scope.names.lookup x = some .local := by first | exact .inl rfl | exact .inr rfl) : G3 X (.Name x pos) (gN i) [i] :=
  ⟨gName i, pg_name hN hi hx hf, ⟨fun F H σ δ δ' d v Q sl r e k => by
    cases e
    exact k _ (fun ws h => wipe_set_mem σ (some v) ws i (h i List.mem_cons_self)) (sl.set i r)⟩⟩
def gGo : List TG3 → List D → St3 → Option St3
  | [], [], δ => some δ
  | g :: gs, d :: ds, δ => (g d δ).bind fun δ' => gGo gs ds δ'
  | _, _, _ => none
def gT (gs : List TG3) : TG3 := fun d δ => match d with
  | .tup ds => gGo gs ds δ
  | _ => none
def gL (gs : List TG3) : TG3 := fun d δ => match d with
  | .lst ds => gGo gs ds δ
  | _ => none
structure TgsL (K : PySem.W.Frag) (g2 : TGs) (gs : List TG3) (vs : List Nat) : Prop where
  run : ∀ (F : Addr → Prop) (H : Hp) (σ : L2.St) (δ δ' : St3) (ds : List D) (us : List V) (Q : L2.St → Hp → Prop), Sl K F H σ δ → Rps K F H ds us → gGo gs ds δ = some δ' →
    (∀ σ', (∀ ws : List Nat, (∀ i ∈ vs, i ∈ ws) → wipe σ' ws = wipe σ ws) → Sl K F H σ' δ' → Q σ' H) → g2 us σ H Q
def Gs3 (X : Cx) (ts : List Expr) (gs : List TG3) (vs : List Nat) : Prop := ∃ g2, PGs X ts g2 ∧ TgsL X.K g2 gs vs
theorem gs_nil : Gs3 X [] [] [] := ⟨gNil, pgs_nil, ⟨fun F H σ δ δ' ds us Q sl r e k => by
  cases r with
  | nil => cases e; exact ⟨rfl, k σ (fun _ _ => rfl) sl⟩
  | cons h t => cases e⟩⟩
theorem gs_cons {tg : Expr} {ts : List Expr} {g : TG3} {gs : List TG3} {vs ws : List Nat} (h1 : G3 X tg g vs) (h2 : Gs3 X ts gs ws) (hs : (assignEach (tg :: ts) X.env).map (·.2) = assign tg X.env :: (assignEach ts X.env).map (·.2) := by rfl) : Gs3 X (tg :: ts) (g :: gs) (vs ++ ws) := by
  obtain ⟨a, ha, la⟩ := h1
  obtain ⟨b, hb, lb⟩ := h2
  refine ⟨gCons a b, pgs_cons ha hb hs, ⟨fun F H σ δ δ' ds us Q sl r e k => ?_⟩⟩
  cases r with
  | nil => cases e
  | @cons d v ds vs2 h t =>
    have e' : (g d δ).bind (fun δ'' => gGo gs ds δ'') = some δ' := e
    cases q : g d δ with
    | none => rw [q] at e'; cases e'
    | some δ1 =>
      rw [q] at e'
      refine ⟨v, vs2, rfl, ?_⟩
      refine la.run F H σ δ δ1 d v _ sl h q fun σ1 w1 sl1 => ?_
      exact lb.run F H σ1 δ1 δ' ds vs2 _ sl1 t e' fun σ2 w2 sl2 => k σ2 (fun us hu => (w2 us fun i hi => hu i (List.mem_append_right _ hi)).trans (w1 us fun i hi => hu i (List.mem_append_left _ hi))) sl2
theorem g_tup {ts : List Expr} {n : Nat} {gs : List TG3} {vs : List Nat} {m : Nat} (hc : X.calm = true) (h : Gs3 X ts gs vs) (hm : gs.length = m := by rfl) (hn : (assignEach ts X.env).length = m := by rfl) (hst : (assignEach ts X.env).findIdx? (·.1) = none := by rfl) : G3 X (.Tuple ts n pos) (gT gs) vs := by
  obtain ⟨a, ha, la⟩ := h
  refine ⟨_, pg_tup hc ha hn hst, ⟨fun F H σ δ δ' d v Q sl r e k => ?_⟩⟩
  cases r with
  | @tup ds us a f h rs =>
    refine ⟨_, us, rfl, SqT.of h, ?_, la.run F H σ δ δ' ds us Q sl rs e k⟩
    have : ∀ (gs : List TG3) (ds : List D) (δ δ' : St3), gGo gs ds δ = some δ' → ds.length = gs.length := by
      intro gs
      induction gs with
      | nil => intro ds δ δ' e; cases ds with
        | nil => rfl
        | cons _ _ => cases e
      | cons g gs ih => intro ds δ δ' e; cases ds with
        | nil => cases e
        | cons d ds =>
          have e' : (g d δ).bind (fun δ'' => gGo gs ds δ'') = some δ' := e
          cases q : g d δ with
          | none => rw [q] at e'; cases e'
          | some δ1 =>
            rw [q] at e'
            rw [List.length_cons, List.length_cons, ih _ _ _ e']
    rw [← rs.length, this gs ds δ δ' e, hm]
  | _ => cases e
def sAsg (te : TE3) (g : TG3) : TS3 := fun D δ μ => te δ μ fun d μ1 => match g d δ with
  | some δ' => D.nx δ' μ1
  | none => False
theorem s_asg {tg : Expr} {g : TG3} {vs : List Nat} (he : E3 X e te) (hg : G3 X tg g vs) (hs : swapsWithSole [tg] e pos.line X.env = pure false := by rfl) (hw : swappedStores [tg] e X.env = pure none := by rfl)
    (h1 : (assignEach [tg] X.env).map (·.2) = [assign tg X.env] := by rfl) : S3 X (.Assign [tg] e pos) (sAsg te g) := by
  obtain ⟨g2, hg2, lg⟩ := hg
  refine (ps_asg he hg2 hs hw h1).imp fun D σ H h => ?_
  obtain ⟨F, δ, μ, D3, s, sl, h, k⟩ := h
  refine ⟨F, δ, μ, _, s, sl, h, fun F1 v H1 d μ1 g1 r1 q1 => ?_⟩
  split at q1
  · rename_i δ' e'
    exact lg.run F1 H1 σ δ δ' d v _ (sl.st g1) r1 e' fun σ' _ sl' => k.nx F1 σ' H1 δ' μ1 g1 sl' q1
  · exact q1.elim
def sSet (i : Nat) (te : TE3) : TS3 := fun D δ μ => te δ μ fun d μ1 => D.nx (δ.set i (some d)) μ1
theorem s_set {i : Nat} {pos' : Pos} (hN : X.N.Nodup) (he : E3 X e te) (hi : X.N[i]? = some x := by rfl) (hx : Loc X.env.scope x := by first | exact Or.inl rfl | exact Or.inr rfl) (hs : swapsWith e (some (.Name x pos')) pos.line X.env = pure false := by rfl) (hf : X.fn x = true ∨ X.env.scope.names.lookup x = some .local := by first | exact .inl rfl | exact .inr rfl) :
    S3 X (.Assign [.Name x pos'] e pos) (sSet i te) := (ps_set hN hi hx he hs hf).imp fun D σ H h => by
  obtain ⟨F, δ, μ, D3, s, sl, h, k⟩ := h
  exact ⟨F, δ, μ, _, s, sl, h, fun F1 v H1 d μ1 g r1 q1 => k.nx F1 _ H1 _ μ1 g ((sl.st g).set i r1) q1⟩
/-- name op= e, by the operator's rule -/
def IpL (X : Cx) (op : Operator) (G : G2) : Prop := ∃ t : TIp, PIp X op t ∧ ∀ F H μ x y vx vy R Q, Sim X.K F H μ → Rp X.K F H x vx → Rp X.K F H y vy → G x y μ R →
  (∀ F' v H' z μ', Step X.K F H μ F' H' μ' → Rp X.K F' H' z v → R z μ' → Q v H') → t vx vy H Q
def sAug (i : Nat) (te : TE3) (G : G2) : TS3 := fun D δ μ => match δ[i]? with
  | some (some x) => te δ μ fun y μ1 => G x y μ1 fun z μ2 => D.nx (δ.set i (some z)) μ2
  | _ => False
theorem s_aug {i : Nat} {pos' : Pos} {op : Operator} {G : G2} (hN : X.N.Nodup) (he : E3 X e te) (ho : IpL X op G) (hi : X.N[i]? = some x := by rfl) (hx : Loc X.env.scope x := by first | exact Or.inl rfl | exact Or.inr rfl) (hf : X.fn x = true ∨ X.env.scope.names.lookup x = some .local := by first | exact .inl rfl | exact .inr rfl) :
    S3 X (.AugAssign (.Name x pos') op e pos) (sAug i te G) := by
  obtain ⟨ti, hti, hl⟩ := ho
  refine (ps_aug hN hi hx he hti hf).imp fun D σ H h => ?_
  obtain ⟨F, δ, μ, D3, s, sl, h, k⟩ := h
  unfold sAug at h
  split at h
  · rename_i d e
    obtain ⟨v, e1, r⟩ := sl.at_ i d e
    refine ⟨v, e1, F, δ, μ, _, s, sl, h, fun F1 v1 H1 d1 μ1 g r1 q1 => ?_⟩
    refine hl F1 H1 μ1 d d1 v v1 _ _ g.sim (r.st g) r1 q1 fun F2 v2 H2 z μ2 g2 r2 q2 => ?_
    exact k.nx F2 _ H2 _ μ2 (g.trans g2) ((sl.st (g.trans g2)).set i r2) q2
  · exact h.elim
/-! ### while -/
def whileW (c : TT3) (tb : TS3) (D : Ends3) : Nat → St3 → Mu → Prop
  | 0, _, _ => False
  | n + 1, δ, μ => c δ μ fun b μ1 => if b = true then tb { D with nx := whileW c tb D n, ct := whileW c tb D n, bk := D.nx } δ μ1 else D.nx δ μ1
def sWhile (c : TT3) (tb : TS3) : TS3 := fun D δ μ => ∃ n, whileW c tb D n δ μ
theorem s_while {c : Expr} {body : List Stmt} {tc : TT3} {tb : TS3} (hp : PassesOwn (model X.prog X.w) X.A X.env X.xe) (hc : T3 X c tc) (hb : Ss3 X body tb) : S3 X (.While c body [] pos) (sWhile tc tb) := (ps_while hp hc hb).imp fun D σ H h => by
  obtain ⟨F, δ, μ, D3, s, sl, ⟨n, h⟩, k⟩ := h
  refine ⟨fun m σ1 H1 => ∃ F1 δ1 μ1, Step X.K F H μ F1 H1 μ1 ∧ Sl X.K F1 H1 σ1 δ1 ∧ whileW tc tb D3 m δ1 μ1, ⟨n, F, δ, μ, Step.refl s, sl, h⟩, ?_⟩
  rintro m σ1 H1 ⟨F1, δ1, μ1, g1, sl1, h1⟩
  cases m with
  | zero => exact h1.elim
  | succ m =>
    refine ⟨F1, δ1, μ1, _, g1.sim, sl1, h1, fun F2 b H2 μ2 g2 q2 => ?_⟩
    cases b with
    | true =>
      refine ⟨fun σ' H' => ∃ F1 δ1 μ1, Step X.K F H μ F1 H' μ1 ∧ Sl X.K F1 H' σ' δ1 ∧ whileW tc tb D3 m δ1 μ1, fun σ' H' q => ⟨m, Nat.lt_succ_self m, q⟩, ?_⟩
      refine ⟨F2, δ1, μ2, _, g2.sim, sl1.st g2, q2, ⟨fun F3 σ3 H3 δ3 μ3 g3 sl3 q3 => ⟨F3, δ3, μ3, (g1.trans g2).trans g3, sl3, q3⟩, fun F3 σ3 H3 δ3 μ3 g3 sl3 q3 => k.nx F3 σ3 H3 δ3 μ3 ((g1.trans g2).trans g3) sl3 q3, fun F3 σ3 H3 δ3 μ3 g3 sl3 q3 => ⟨F3, δ3, μ3, (g1.trans g2).trans g3, sl3, q3⟩, (k.st (g1.trans g2)).rt⟩⟩
    | false => exact k.nx F2 σ1 H2 δ1 μ2 (g1.trans g2) (sl1.st g2) q2
/-! ### what is walked: its items; Pμ what must stay so while it is walked -/
structure ItOk (K : PySem.W.Frag) (F : Addr → Prop) (H : Hp) (μ : Mu) (ds : List D) (Pm : Mu → Prop) (J : It) : Prop where
  go : ∀ F1 H1 μ1 i, Step K F H μ F1 H1 μ1 → Pm μ1 → i < ds.length → J.go i H1
  stop : ∀ F1 H1 μ1, Step K F H μ F1 H1 μ1 → Pm μ1 → J.stop ds.length H1
  yld : ∀ F1 H1 μ1 i x H2, Step K F H μ F1 H1 μ1 → Pm μ1 → J.yld i H1 x H2 → i < ds.length → ∃ F2 d, Step K F1 H1 μ1 F2 H2 μ1 ∧ ds[i]? = some d ∧ Rp K F2 H2 d x
abbrev TI3 := St3 → Mu → (List D → (Mu → Prop) → Mu → Prop) → Prop
def lowI (K : PySem.W.Frag) (wi : TI3) : TI := fun σ H R => ∃ (F : Addr → Prop) (δ : St3) (μ : Mu) (R3 : List D → (Mu → Prop) → Mu → Prop), Sim K F H μ ∧ Sl K F H σ δ ∧ wi δ μ R3 ∧
  ∀ F' H' ds Pm μ' J, Step K F H μ F' H' μ' → ItOk K F' H' μ' ds Pm J → R3 ds Pm μ' → R J H'
def I3 (X : Cx) (tg iter : Expr) (wi : TI3) : Prop := PI X tg iter (lowI X.K wi)
theorem _root_.L2.PI.imp {X : Cx} {tg e : Expr} {t t' : TI} (h : PI X tg e t) (i : ∀ σ H R, t' σ H R → t σ H R) : PI X tg e t' := ⟨fun pins s σ H R I q => h.run pins s σ H R I (i _ _ _ q)⟩
def forW (Pm : Mu → Prop) (g : TG3) (tb : TS3) (Z : Ends3) : List D → St3 → Mu → Prop
  | [], δ, μ => Pm μ ∧ Z.nx δ μ
  | d :: ds, δ, μ => Pm μ ∧ match g d δ with
    | some δ' => tb { Z with nx := forW Pm g tb Z ds, ct := forW Pm g tb Z ds, bk := Z.nx } δ' μ
    | none => False
def sFor (wi : TI3) (g : TG3) (tb : TS3) : TS3 := fun D δ μ => wi δ μ fun ds Pm μ1 => forW Pm g tb D ds δ μ1
theorem s_for {tg iter : Expr} {body : List Stmt} {wi : TI3} {g : TG3} {vs : List Nat} {tb : TS3} (hp : PassesOwn (model X.prog X.w) X.A X.env X.xe) (hc : X.calm = true) (hi : I3 X tg iter wi) (hg : G3 X tg g vs) (hb : Ss3 X body tb)
    (hs : ∀ x, foldedSetIterable iter X.env x = pure x := by intro _; rfl) : S3 X (.For tg iter body [] pos) (sFor wi g tb) := by
  obtain ⟨g2, hg2, lg⟩ := hg
  refine (ps_for hp hc hi hg2 hb hs).imp fun D σ H h => ?_
  obtain ⟨F, δ, μ, D3, s, sl, h, k⟩ := h
  refine ⟨F, δ, μ, _, s, sl, h, fun F0 H0 ds Pm μ0 J g0 it q0 => ?_⟩
  refine ⟨fun i m σ1 H1 => ∃ F1 δ1 μ1, Step X.K F0 H0 μ0 F1 H1 μ1 ∧ Sl X.K F1 H1 σ1 δ1 ∧ m + i = ds.length ∧ forW Pm g tb D3 (ds.drop i) δ1 μ1, ⟨ds.length, F0, δ, μ0, Step.refl g0.sim, sl.st g0, rfl, q0⟩, ?_⟩
  rintro i m σ1 H1 ⟨F1, δ1, μ1, g1, sl1, em, h1⟩
  by_cases hi : i < ds.length
  · rw [List.drop_eq_getElem_cons hi] at h1
    obtain ⟨hP, h1⟩ := h1
    refine .inr ⟨it.go F1 H1 μ1 i g1 hP hi, fun σ' H' => ∃ F1 δ1 μ1, Step X.K F0 H0 μ0 F1 H' μ1 ∧ Sl X.K F1 H' σ' δ1 ∧ forW Pm g tb D3 (ds.drop (i + 1)) δ1 μ1, fun σ' H' ⟨F2, δ2, μ2, a, c, d⟩ => ⟨m - 1, by omega, F2, δ2, μ2, a, c, by omega, d⟩, fun x H2 hy => ?_⟩
    obtain ⟨F2, d, g2, ed, r2⟩ := it.yld F1 H1 μ1 i x H2 g1 hP hy hi
    rw [List.getElem?_eq_getElem hi] at ed
    cases ed
    split at h1
    · rename_i δ' eg
      refine lg.run F2 H2 σ1 δ1 δ' _ x _ (sl1.st g2) r2 eg fun σ' _ sl' => ?_
      refine ⟨F2, δ', μ1, _, g2.sim, sl', h1, ⟨fun F3 σ3 H3 δ3 μ3 g3 sl3 q3 => ⟨F3, δ3, μ3, (g1.trans g2).trans g3, sl3, q3⟩, fun F3 σ3 H3 δ3 μ3 g3 sl3 q3 => k.nx F3 σ3 H3 δ3 μ3 (((g0.trans g1).trans g2).trans g3) sl3 q3, fun F3 σ3 H3 δ3 μ3 g3 sl3 q3 => ⟨F3, δ3, μ3, (g1.trans g2).trans g3, sl3, q3⟩, (k.st ((g0.trans g1).trans g2)).rt⟩⟩
    · exact h1.elim
  · have e : i = ds.length := by omega
    subst e
    rw [List.drop_length] at h1
    exact .inl ⟨it.stop F1 H1 μ1 g1 h1.1, k.nx F1 σ1 H1 δ1 μ1 (g0.trans g1) sl1 h1.2⟩
/-! ### comprehensions -/
def wipe3 (δ : St3) : List Nat → St3
  | [] => δ
  | v :: vs => (wipe3 δ vs).set v none
theorem Sl.wipe {K : PySem.W.Frag} {F : Addr → Prop} {H : Hp} {σ : L2.St} {δ : St3} (s : Sl K F H σ δ) : ∀ vs : List Nat, Sl K F H (wipe σ vs) (wipe3 δ vs)
  | [] => s
  | v :: vs => by
    have ih := Sl.wipe s vs
    refine ⟨by show ((L2.wipe σ vs).set v none).length = ((wipe3 δ vs).set v none).length; simpa using ih.len, fun i d e => ?_⟩
    have e' : ((wipe3 δ vs).set v none)[i]? = some (some d) := e
    show ∃ u, ((L2.wipe σ vs).set v none)[i]? = some (some u) ∧ _
    by_cases hv : v = i
    · subst hv
      by_cases hl : v < (wipe3 δ vs).length
      · rw [List.getElem?_set_self hl] at e'; cases e'
      · rw [List.getElem?_eq_none_iff.mpr (by simpa using hl)] at e'; cases e'
    · rw [List.getElem?_set_ne hv] at e'
      rw [List.getElem?_set_ne hv]
      exact ih.at_ i d e'
theorem wipe_set_none (σ : L2.St) : ∀ (ws : List Nat) (i : Nat), L2.wipe (σ.set i none) ws = (L2.wipe σ ws).set i none
  | [], _ => rfl
  | w :: ws, i => by
    show (L2.wipe (σ.set i none) ws).set w none = ((L2.wipe σ ws).set w none).set i none
    rw [wipe_set_none σ ws i]
    by_cases h : i = w
    · subst h; rfl
    · rw [List.set_comm _ _ h]
theorem wipe_wipe (σ : L2.St) : ∀ ws : List Nat, L2.wipe (L2.wipe σ ws) ws = L2.wipe σ ws
  | [] => rfl
  | w :: ws => by
    show (L2.wipe ((L2.wipe σ ws).set w none) ws).set w none = (L2.wipe σ ws).set w none
    rw [wipe_set_none, wipe_wipe σ ws, List.set_set]
/-- [elt for target in iter if test] -/
def lcW (Pm : Mu → Prop) (g : TG3) (tt : TT3) (te : TE3) (δ : St3) (R : List D → Mu → Prop) : List D → List D → Mu → Prop
  | [], acc, μ => Pm μ ∧ R acc μ
  | d :: ds, acc, μ => Pm μ ∧ acc.length < sizeLine ∧ match g d δ with
    | some δ' => tt δ' μ fun b μ1 => if b = true then te δ' μ1 fun y μ2 => lcW Pm g tt te δ R ds (acc ++ [y]) μ2 else lcW Pm g tt te δ R ds acc μ1
    | none => False
def vLc (wi : TI3) (g : TG3) (tt : TT3) (te : TE3) (vs : List Nat) : TE3 := fun δ μ R => wi δ μ fun ds Pm μ1 => lcW Pm g tt te (wipe3 δ vs) (fun out μ2 => R (.lst out) μ2) ds [] μ1
def vYes : TT3 := fun _ μ R => R true μ
def Ts3 (X : Cx) (es : List Expr) (t : TT3) : Prop := PTs X es (lowT X.K t)
theorem _root_.L2.PTs.imp {X : Cx} {e : List Expr} {t t' : TT} (h : PTs X e t) (i : ∀ σ H Q, t' σ H Q → t σ H Q) : PTs X e t' := ⟨fun pins s σ H Q I q => h.run pins s σ H Q I (i _ _ _ q)⟩
theorem ts_nil : Ts3 X [] vYes := pts_nil.imp fun σ H Q h => by
  obtain ⟨F, δ, μ, R, s, sl, h, k⟩ := h
  exact k F true H μ (Step.refl s) h
theorem ts_one {c : Expr} {t : TT3} (h : T3 X c t) : Ts3 X [c] t := pts_one h
theorem low_lc {K : PySem.W.Frag} {wi : TI3} {g : TG3} {g2 : TG} {tt : TT3} {te : TE3} {vs ws : List Nat} {σ : L2.St} {H : Hp} {Q : VK} (lg : TgL K g2 g vs) (hv : ∀ i ∈ vs, i ∈ ws) (h : low K (vLc wi g tt te ws) σ H Q) : tLc (lowI K wi) g2 (lowT K tt) (low K te) ws σ H Q := by
  obtain ⟨F, δ, μ, R, s, sl, h, k⟩ := h
  refine ⟨F, δ, μ, _, s, sl, h, fun F0 H0 ds Pm μ0 J g0 it q0 Dl hD => ?_⟩
  have gD := g0.sim.newS (o := .lst []) hD
  refine ⟨fun i m H1 => ∃ F1 μ1 acc out, Step K F0 H0 μ0 F1 H1 μ1 ∧ ¬ F1 Dl ∧ μ1 Dl = none ∧ H1 Dl = some (.lst acc) ∧ Rps K F1 H1 out acc ∧ m + i = ds.length ∧ lcW Pm g tt te (wipe3 δ ws) (fun out μ2 => R (.lst out) μ2) (ds.drop i) out μ1,
    ⟨ds.length, F0, μ0, [], [], gD, ?_, g0.sim.free hD, upd_same, .nil, rfl, q0⟩, ?_⟩
  · intro f
    obtain ⟨u, hu⟩ := g0.sim.dom Dl f
    rw [hD] at hu
    cases hu
  rintro i m H1 ⟨F1, μ1, acc, out, g1, nF, nμ, eD, rs, em, h1⟩
  by_cases hi : i < ds.length
  · rw [List.drop_eq_getElem_cons hi] at h1
    obtain ⟨hP, hlen, h1⟩ := h1
    refine .inr ⟨it.go F1 H1 μ1 i g1 hP hi, fun H' => ∃ F1 μ1 acc out, Step K F0 H0 μ0 F1 H' μ1 ∧ ¬ F1 Dl ∧ μ1 Dl = none ∧ H' Dl = some (.lst acc) ∧ Rps K F1 H' out acc ∧ lcW Pm g tt te (wipe3 δ ws) (fun out μ2 => R (.lst out) μ2) (ds.drop (i + 1)) out μ1,
      fun H' ⟨F2, μ2, acc2, out2, a, b, c, d, e, f⟩ => ⟨m - 1, by omega, F2, μ2, acc2, out2, a, b, c, d, e, by omega, f⟩, fun x H2 hy => ?_⟩
    obtain ⟨F2, d, g2', ed, r2⟩ := it.yld F1 H1 μ1 i x H2 g1 hP hy hi
    rw [List.getElem?_eq_getElem hi] at ed
    obtain rfl := Option.some.inj ed
    have sw : Sl K F2 H2 (L2.wipe σ ws) (wipe3 δ ws) := (sl.st ((g0.trans g1).trans g2')).wipe ws
    split at h1
    · rename_i δ' eg
      refine lg.run F2 H2 (L2.wipe σ ws) (wipe3 δ ws) δ' _ x _ sw r2 eg fun σ' hw sl' => ?_
      have hww : L2.wipe (L2.wipe σ ws) ws = L2.wipe σ ws := wipe_wipe σ ws
      refine ⟨(hw ws hv).trans hww, ?_⟩
      obtain ⟨n2, e2, f2⟩ := g2'.fm Dl _ eD nμ
      refine ⟨F2, δ', μ1, _, g2'.sim, sl', h1, fun F3 b H3 μ3 g3 q3 => ?_⟩
      obtain ⟨n3, e3, f3⟩ := g3.fm Dl _ e2 n2
      cases b with
      | true =>
        refine ⟨F3, δ', μ3, _, g3.sim, sl'.st g3, q3, fun F4 y H4 dy μ4 g4 r4 q4 => ?_⟩
        obtain ⟨n4, e4, f4⟩ := g4.fm Dl _ e3 n3
        have nF4 : ¬ F4 Dl := fun z => nF (f2 (f3 (f4 z)))
        have gs := ((g1.trans g2').trans g3).trans g4
        have gp := (gs.sim.priv (o := .lst (acc ++ [y])) nF4 n4).1
        refine ⟨acc, e4, by rw [← rs.length]; exact hlen, F4, μ4, acc ++ [y], out ++ [dy], gs.priv hD nF4 n4, nF4, n4, upd_same, ((rs.st ((g2'.trans g3).trans g4)).append (.cons r4 .nil)).grow gp, q4⟩
      | false => exact ⟨F3, μ3, acc, out, (g1.trans g2').trans g3, fun z => nF (f2 (f3 z)), n3, e3, rs.st (g2'.trans g3), q3⟩
    · exact h1.elim
  · have e : i = ds.length := by omega
    subst e
    rw [List.drop_length] at h1
    refine .inl ⟨it.stop F1 H1 μ1 g1 h1.1, ?_⟩
    have gs := g1.shut (o := .lst acc) hD nμ eD
    have gg : Grow F1 H1 (fun a => F1 a ∨ a = Dl) H1 := ⟨fun _ h => .inl h, fun _ _ _ h => h, fun _ _ _ _ h => h⟩
    exact k _ (.ref Dl) H1 (.lst out) μ1 (g0.trans gs) (.lst (.inr rfl) eD (rs.grow gg)) h1.2
theorem e_lc {elt tg iter : Expr} {ifs : List Expr} {scope : Scope} {own : List (Str × Nat)} {wi : TI3} {g : TG3} {tt : TT3} {te : TE3} {vs : List Nat} (hc : X.calm = true) (hN : X.N.Nodup) (hi : I3 X tg iter wi) (ok : BlkOk X.N X.env.scope scope own) {g2 : TG}
    (lg : TgL X.K g2 g vs) (hv : ∀ i ∈ vs, i ∈ own.map (·.2))
    (hg : ∀ (s : Shared) (H : Hp) (C : Addr) (cl : List (Str × Addr)) (fp : List Addr), PG (X.blk s H scope (compEnvC scope cl C X.env) fp) tg g2)
    (ht : ∀ (s : Shared) (H : Hp) (C : Addr) (cl : List (Str × Addr)) (fp : List Addr), Ts3 (X.blk s H scope (compEnvC scope cl C X.env) fp) ifs tt)
    (he : ∀ (s : Shared) (H : Hp) (C : Addr) (cl : List (Str × Addr)) (fp : List Addr), E3 (X.blk s H scope (compEnvC scope cl C X.env) fp) elt te)
    (hs : ∀ x, foldedSetIterable iter X.env x = pure x := by intro _; rfl) :
    E3 X (.ListComp elt [⟨tg, iter, ifs, 0⟩] scope pos) (vLc wi g tt te (own.map (·.2))) :=
  (pe_lc (wi := lowI X.K wi) (g := g2) (tt := lowT X.K tt) (te := low X.K te) hc hN hi ok hg ht he hs).imp fun σ H Q h => low_lc lg hv h
end
end L3

namespace L3
open PySem PySem.Spec L2
/-! ### ints -/
section
variable {X : Cx}
def g2I (C : Int → Int → Prop) (g : Int → Int → D) : G2 := fun x y μ R => match x, y with
  | .int i, .int j => C i j ∧ R (g i j) μ
  | _, _ => False
def g2I0 (g : Int → Int → D) : G2 := fun x y μ R => match x, y with
  | .int i, .int j => R (g i j) μ
  | _, _ => False
theorem opl_I {f : Value → Value → Sem Value} {C : Int → Int → Prop} {g : Int → Int → V} {g3 : Int → Int → D} (h : OpR X f (rI C g)) (hg : ∀ i j F H, Rp X.K F H (g3 i j) (g i j)) : OpL X f (g2I C g3) := by
  refine ⟨_, h, fun F H μ x y vx vy R Q s rx ry q k => ?_⟩
  cases rx <;> first | exact (show False from q).elim | skip
  rename_i i
  cases ry <;> first | exact (show False from q).elim | skip
  rename_i j
  exact ⟨i, j, rfl, rfl, q.1, k F _ H _ μ (Step.refl s) (hg i j F H) q.2⟩
theorem opl_I0 {f : Value → Value → Sem Value} {g : Int → Int → V} {g3 : Int → Int → D} (h : OpR X f (rI0 g)) (hg : ∀ i j F H, Rp X.K F H (g3 i j) (g i j)) : OpL X f (g2I0 g3) := by
  refine ⟨_, h, fun F H μ x y vx vy R Q s rx ry q k => ?_⟩
  cases rx <;> first | exact (show False from q).elim | skip
  rename_i i
  cases ry <;> first | exact (show False from q).elim | skip
  rename_i j
  exact ⟨i, j, rfl, rfl, k F _ H _ μ (Step.refl s) (hg i j F H) q⟩
def OpL.or {f : Value → Value → Sem Value} {G G' : G2} (h : OpL X f G) (h' : OpL X f G') : OpL X f (fun x y μ R => G x y μ R ∨ G' x y μ R) := by
  obtain ⟨r, hr, l⟩ := h
  obtain ⟨r', hr', l'⟩ := h'
  refine ⟨fun x y H Q => r x y H Q ∨ r' x y H Q, ?_, fun F H μ x y vx vy R Q s rx ry q k => ?_⟩
  · intro pins s σ H x y v u Q I rx ry q
    rcases q with q | q
    · exact hr pins s σ H x y v u Q I rx ry q
    · exact hr' pins s σ H x y v u Q I rx ry q
  · rcases q with q | q
    · exact .inl (l F H μ x y vx vy R Q s rx ry q k)
    · exact .inr (l' F H μ x y vx vy R Q s rx ry q k)
theorem OpL.imp {f : Value → Value → Sem Value} {G G' : G2} (h : OpL X f G) (i : ∀ x y μ R, G' x y μ R → G x y μ R) : OpL X f G' := by
  obtain ⟨r, hr, l⟩ := h
  exact ⟨r, hr, fun F H μ x y vx vy R Q s rx ry q k => l F H μ x y vx vy R Q s rx ry (i x y μ R q) k⟩
abbrev gSub : G2 := g2I0 fun i j => .int (i - j)
abbrev gMul : G2 := g2I CMulW fun i j => .int (i * j)
abbrev gMod : G2 := g2I (fun _ j => 0 < j) fun i j => .int (i % j)
abbrev gDiv : G2 := g2I CDivW fun i j => .int (i / j)
abbrev gPow : G2 := g2I CPow fun i j => .int (i ^ j.toNat)
theorem o_sub : OpL X (binaryOp .Sub) gSub := opl_I0 op_sub fun _ _ _ _ => .int _
theorem o_mul : OpL X (binaryOp .Mult) gMul := opl_I op_mulW fun _ _ _ _ => .int _
theorem o_mod : OpL X (binaryOp .Mod) gMod := opl_I op_mod fun _ _ _ _ => .int _
theorem o_div : OpL X (binaryOp .FloorDiv) gDiv := opl_I op_fdivW fun _ _ _ _ => .int _
theorem o_pow : OpL X (binaryOp .Pow) gPow := opl_I op_pow fun _ _ _ _ => .int _
abbrev gLt : G2 := g2I0 fun i j => .bl (decide (i < j))
abbrev gLe : G2 := g2I0 fun i j => .bl (decide (i ≤ j))
abbrev gGt : G2 := g2I0 fun i j => .bl (decide (j < i))
abbrev gGe : G2 := g2I0 fun i j => .bl (decide (j ≤ i))
theorem o_lt : OpL X (compareOp .Lt) gLt := opl_I0 op_lt fun _ _ _ _ => .bl _
theorem o_le : OpL X (compareOp .LtE) gLe := opl_I0 op_le fun _ _ _ _ => .bl _
theorem o_gt : OpL X (compareOp .Gt) gGt := opl_I0 op_gt fun _ _ _ _ => .bl _
theorem o_ge : OpL X (compareOp .GtE) gGe := opl_I0 op_ge fun _ _ _ _ => .bl _
def gNeg : D → Mu → DK → Prop := fun x μ R => match x with
  | .int i => R (.int (-i)) μ
  | _ => False
theorem u_neg : UnL X (unaryOp .USub) gNeg := ⟨_, un_neg, fun F H μ x vx R Q s rx q k => by
  cases rx <;> first | exact (show False from q).elim | skip
  rename_i i
  exact ⟨i, rfl, k F _ H _ μ (Step.refl s) (.int _) q⟩⟩
/-! ### sequences -/
/-- the items of a list (a tracked or frozen one) -/
def lstOf (μ : Mu) : D → Option (List D)
  | .lst xs => some xs
  | .ref a => match μ a with
    | some (.lst xs) => some xs
    | _ => none
  | _ => none
/-- the items of a list or the script -/
def rdL (μ : Mu) : D → Option (List D)
  | .lst xs => some xs
  | .scr xs => some xs
  | .ref a => match μ a with
    | some (.lst xs) => some xs
    | _ => none
  | _ => none
/-- the items of a list, a tuple, the script -/
def seqOf (μ : Mu) : D → Option (List D)
  | .lst xs => some xs
  | .scr xs => some xs
  | .tup xs => some xs
  | .ref a => match μ a with
    | some (.lst xs) => some xs
    | _ => none
  | _ => none
theorem lst_of {K : PySem.W.Frag} {F : Addr → Prop} {H : Hp} {μ : Mu} {x : D} {v : V} {xs : List D} (s : Sim K F H μ) (r : Rp K F H x v) (h : lstOf μ x = some xs) : ∃ p vs, v = .ref p ∧ H p = some (.lst vs) ∧ Rps K F H xs vs := by
  cases r with
  | lst f e rs => cases h; exact ⟨_, _, rfl, e, rs⟩
  | ref a =>
    have h' : (match μ a with
      | some (.lst xs) => some xs
      | _ => none) = some xs := h
    split at h'
    · rename_i ys e2
      cases h'
      obtain ⟨_, vs, e3, rs⟩ := s.obj _ _ e2
      exact ⟨_, vs, rfl, e3, rs⟩
    · cases h'
  | _ => cases h
theorem rdl_of {K : PySem.W.Frag} {F : Addr → Prop} {H : Hp} {μ : Mu} {x : D} {v : V} {xs : List D} (s : Sim K F H μ) (r : Rp K F H x v) (h : rdL μ x = some xs) : ∃ p vs, v = .ref p ∧ SqL K H p vs ∧ Rps K F H xs vs := by
  cases r with
  | lst f e rs => cases h; exact ⟨_, _, rfl, SqL.of e, rs⟩
  | scr f rs => cases h; exact ⟨_, _, rfl, f.sq, rs⟩
  | ref a =>
    obtain ⟨p, vs, e1, e2, rs⟩ := lst_of (x := .ref a) s (.ref a) (xs := xs) (by
      unfold rdL at h
      unfold lstOf
      exact h)
    exact ⟨p, vs, e1, SqL.of e2, rs⟩
  | _ => cases h
theorem seq_of {K : PySem.W.Frag} {F : Addr → Prop} {H : Hp} {μ : Mu} {x : D} {v : V} {xs : List D} (s : Sim K F H μ) (r : Rp K F H x v) (h : seqOf μ x = some xs) : ∃ p vs, v = .ref p ∧ (SqL K H p vs ∨ SqT K H p vs) ∧ Rps K F H xs vs := by
  cases r with
  | lst f e rs => cases h; exact ⟨_, _, rfl, .inl (SqL.of e), rs⟩
  | scr f rs => cases h; exact ⟨_, _, rfl, .inl f.sq, rs⟩
  | tup f e rs => cases h; exact ⟨_, _, rfl, .inr (SqT.of e), rs⟩
  | ref a =>
    obtain ⟨p, vs, e1, e2, rs⟩ := lst_of (x := .ref a) s (.ref a) (xs := xs) (by
      unfold seqOf at h
      unfold lstOf
      exact h)
    exact ⟨p, vs, e1, .inl (SqL.of e2), rs⟩
  | _ => cases h
/-- + -/
def gAdd : G2 := fun x y μ R => match x, y with
  | .int i, .int j => R (.int (i + j)) μ
  | .str a, .str b => a.length + b.length ≤ sizeLine ∧ R (.str (a ++ b)) μ
  | .tup xs, .tup ys => xs ≠ [] ∧ xs.length + ys.length ≤ sizeLine ∧ R (.tup (xs ++ ys)) μ
  | x, y => ∃ xs ys, lstOf μ x = some xs ∧ lstOf μ y = some ys ∧ xs.length + ys.length ≤ sizeLine ∧ R (.lst (xs ++ ys)) μ
theorem o_addI : OpL X (binaryOp .Add) (g2I0 fun i j => .int (i + j)) := opl_I0 op_add fun _ _ _ _ => .int _
def gAddS : G2 := fun x y μ R => match x, y with
  | .str a, .str b => a.length + b.length ≤ sizeLine ∧ R (.str (a ++ b)) μ
  | _, _ => False
theorem o_addS : OpL X (binaryOp .Add) gAddS := ⟨_, op_add_str, fun F H μ x y vx vy R Q s rx ry q k => by
  cases rx <;> first | exact (show False from q).elim | skip
  cases ry <;> first | exact (show False from q).elim | skip
  exact ⟨_, _, rfl, rfl, q.1, k F _ H _ μ (Step.refl s) (.str _) q.2⟩⟩
def gAddL : G2 := fun x y μ R => ∃ xs ys, lstOf μ x = some xs ∧ lstOf μ y = some ys ∧ xs.length + ys.length ≤ sizeLine ∧ R (.lst (xs ++ ys)) μ
theorem o_addL : OpL X (binaryOp .Add) gAddL := ⟨_, op_cat, fun F H μ x y vx vy R Q s rx ry q k => by
  obtain ⟨xs, ys, ex, ey, hz, q⟩ := q
  obtain ⟨p, vs, rfl, e1, r1⟩ := lst_of s rx ex
  obtain ⟨p2, us, rfl, e2, r2⟩ := lst_of s ry ey
  refine ⟨p, p2, vs, us, rfl, rfl, e1, e2, by rw [← r1.length, ← r2.length]; exact hz, fun l hl => ?_⟩
  have g := s.frzS (o := .lst (vs ++ us)) hl
  exact k _ _ _ _ μ g (.lst (.inr rfl) upd_same ((r1.append r2).st g)) q⟩
def gAddT : G2 := fun x y μ R => match x, y with
  | .tup xs, .tup ys => xs ≠ [] ∧ xs.length + ys.length ≤ sizeLine ∧ R (.tup (xs ++ ys)) μ
  | _, _ => False
theorem o_addT : OpL X (binaryOp .Add) gAddT := ⟨_, op_catT, fun F H μ x y vx vy R Q s rx ry q k => by
  cases rx <;> first | exact (show False from q).elim | skip
  rename_i xs vs a f1 e1 r1
  cases ry <;> first | exact (show False from q).elim | skip
  rename_i ys us b f2 e2 r2
  refine ⟨a, b, vs, us, rfl, rfl, SqT.of e1, SqT.of e2, fun z => q.1 ?_, by rw [← r1.length, ← r2.length]; exact q.2.1, fun z => ?_, fun z p hp => ?_⟩
  · subst z; cases r1; rfl
  · subst z
    cases r2
    exact k F _ H _ μ (Step.refl s) (.tup f1 e1 (by simpa using r1)) q.2.2
  · have g := s.frzS (o := .tup (vs ++ us)) hp
    exact k _ _ _ _ μ g (.tup (.inr rfl) upd_same ((r1.append r2).st g)) q.2.2⟩
theorem o_add : OpL X (binaryOp .Add) gAdd := (((o_addI.or o_addS).or o_addT).or o_addL).imp fun x y μ R h => by
  unfold gAdd at h
  split at h
  · exact .inl (.inl (.inl h))
  · exact .inl (.inl (.inr h))
  · exact .inl (.inr h)
  · exact .inr h
/-! ### scalars: ==, is None -/
def eqS : D → D → Option Bool
  | .non, .non => some true
  | .non, .int _ => some false | .int _, .non => some false | .non, .bl _ => some false | .bl _, .non => some false | .non, .str _ => some false | .str _, .non => some false
  | .int i, .int j => some (decide (i = j))
  | .bl i, .bl j => some (decide (i = j))
  | .str i, .str j => some (decide (i = j))
  | .int _, .str _ => some false | .str _, .int _ => some false | .bl _, .str _ => some false | .str _, .bl _ => some false
  | _, _ => none
theorem eqS_ok {K : PySem.W.Frag} {F : Addr → Prop} {H : Hp} {x y : D} {vx vy : V} {b : Bool} (rx : Rp K F H x vx) (ry : Rp K F H y vy) (h : eqS x y = some b) : scal vx vy = true ∧ decide (vx = vy) = b := by
  cases rx <;> cases ry <;> first | cases h | skip
  all_goals (refine ⟨rfl, ?_⟩; simp)
def gEqS : G2 := fun x y μ R => match eqS x y with
  | some b => R (.bl b) μ
  | none => False
def gNeS : G2 := fun x y μ R => match eqS x y with
  | some b => R (.bl (!b)) μ
  | none => False
theorem o_eqS : OpL X (compareOp .Eq) gEqS := ⟨_, op_eq, fun F H μ x y vx vy R Q s rx ry q k => by
  unfold gEqS at q
  split at q
  · rename_i b e
    obtain ⟨h1, h2⟩ := eqS_ok rx ry e
    exact ⟨h1, by rw [h2]; exact k F _ H _ μ (Step.refl s) (.bl b) q⟩
  · exact q.elim⟩
theorem o_neS : OpL X (compareOp .NotEq) gNeS := ⟨_, op_ne, fun F H μ x y vx vy R Q s rx ry q k => by
  unfold gNeS at q
  split at q
  · rename_i b e
    obtain ⟨h1, h2⟩ := eqS_ok rx ry e
    exact ⟨h1, by rw [h2]; exact k F _ H _ μ (Step.refl s) (.bl (!b)) q⟩
  · exact q.elim⟩
def isNonD : D → Bool
  | .non => true
  | _ => false
theorem isNon_ok {K : PySem.W.Frag} {F : Addr → Prop} {H : Hp} {x : D} {v : V} (r : Rp K F H x v) : decide (v = .non) = isNonD x := by
  cases r <;> rfl
def gIsN : G2 := fun x y μ R => match y with
  | .non => R (.bl (isNonD x)) μ
  | _ => False
def gNotN : G2 := fun x y μ R => match y with
  | .non => R (.bl (!isNonD x)) μ
  | _ => False
theorem o_isN : OpL X (compareOp .Is) gIsN := ⟨_, op_isN, fun F H μ x y vx vy R Q s rx ry q k => by
  cases ry <;> first | exact (show False from q).elim | skip
  exact ⟨rfl, by rw [isNon_ok rx]; exact k F _ H _ μ (Step.refl s) (.bl _) q⟩⟩
theorem o_notN : OpL X (compareOp .IsNot) gNotN := ⟨_, op_notN, fun F H μ x y vx vy R Q s rx ry q k => by
  cases ry <;> first | exact (show False from q).elim | skip
  exact ⟨rfl, by rw [isNon_ok rx]; exact k F _ H _ μ (Step.refl s) (.bl _) q⟩⟩
/-! ### in -/
/-- one sign in a text -/
def gInS : G2 := fun x y μ R => match x, y with
  | .str a, .str z => ∃ c, a = ⟨#[c]⟩ ∧ R (.bl (decide (c ∈ z.cps.toList))) μ
  | _, _ => False
def gNotInS : G2 := fun x y μ R => match x, y with
  | .str a, .str z => ∃ c, a = ⟨#[c]⟩ ∧ R (.bl (!decide (c ∈ z.cps.toList))) μ
  | _, _ => False
theorem o_inS : OpL X (compareOp .In) gInS := ⟨_, op_in_sign, fun F H μ x y vx vy R Q s rx ry q k => by
  cases rx <;> first | exact (show False from q).elim | skip
  cases ry <;> first | exact (show False from q).elim | skip
  obtain ⟨c, rfl, q⟩ := q
  exact ⟨c, _, rfl, rfl, k F _ H _ μ (Step.refl s) (.bl _) q⟩⟩
theorem o_notInS : OpL X (compareOp .NotIn) gNotInS := ⟨_, op_notIn_sign, fun F H μ x y vx vy R Q s rx ry q k => by
  cases rx <;> first | exact (show False from q).elim | skip
  cases ry <;> first | exact (show False from q).elim | skip
  obtain ⟨c, rfl, q⟩ := q
  exact ⟨c, _, rfl, rfl, k F _ H _ μ (Step.refl s) (.bl _) q⟩⟩
/-- flat things in a list or tuple of flat things -/
def flatD : D → Bool
  | .non => true | .bl _ => true | .int _ => true | .str _ => true
  | _ => false
def eqD : D → D → Bool
  | .non, .non => true
  | .bl a, .bl b => a == b
  | .bl a, .int b => (if a then 1 else 0) == b
  | .int a, .bl b => a == (if b then 1 else 0)
  | .int a, .int b => a == b
  | .str a, .str b => a == b
  | _, _ => false
def inD (x : D) (xs : List D) : Bool := xs.any fun y => eqD y x
theorem flat_ok {K : PySem.W.Frag} {F : Addr → Prop} {H : Hp} {x : D} {v : V} (r : Rp K F H x v) (h : flatD x = true) : flatV v = true := by
  cases r <;> first | rfl | cases h
theorem flats_ok {K : PySem.W.Frag} {F : Addr → Prop} {H : Hp} : ∀ {xs : List D} {vs : List V}, Rps K F H xs vs → xs.all flatD = true → vs.all flatV = true
  | _, _, .nil, _ => rfl
  | _, _, .cons r t, h => by
    rw [List.all_cons, Bool.and_eq_true] at h ⊢
    exact ⟨flat_ok r h.1, flats_ok t h.2⟩
theorem eqV_ok {K : PySem.W.Frag} {F : Addr → Prop} {H : Hp} {x y : D} {v u : V} (r : Rp K F H x v) (q : Rp K F H y u) (h : flatD x = true) (h' : flatD y = true) : eqV v u = eqD x y := by
  cases r <;> cases q <;> first | rfl | cases h | cases h'
theorem inV_ok {K : PySem.W.Frag} {F : Addr → Prop} {H : Hp} {x : D} {v : V} (r : Rp K F H x v) (h : flatD x = true) : ∀ {xs : List D} {vs : List V}, Rps K F H xs vs → xs.all flatD = true → inV v vs = inD x xs
  | _, _, .nil, _ => rfl
  | _, _, .cons q t, h' => by
    rw [List.all_cons, Bool.and_eq_true] at h'
    have ih := inV_ok r h t h'.2
    unfold inV inD at ih ⊢
    rw [List.any_cons, List.any_cons, eqV_ok q r h'.1 h, ih]
def gInL (neg : Bool) : G2 := fun x y μ R => match seqOf μ y with
  | some xs => flatD x = true ∧ xs.all flatD = true ∧ R (.bl (if neg then !inD x xs else inD x xs)) μ
  | none => False
theorem inL_ok {K : PySem.W.Frag} {neg : Bool} {F : Addr → Prop} {H : Hp} {μ : Mu} {x y : D} {vx vy : V} {R : DK} {Q : VK} (s : Sim K F H μ) (rx : Rp K F H x vx) (ry : Rp K F H y vy) (q : gInL neg x y μ R)
    (k : ∀ F' v H' z μ', Step K F H μ F' H' μ' → Rp K F' H' z v → R z μ' → Q v H') : rIn K neg vx vy H Q := by
  unfold gInL at q
  split at q
  · rename_i xs e
    obtain ⟨p, vs, rfl, sq, rs⟩ := seq_of s ry e
    obtain ⟨h1, h2, q⟩ := q
    refine ⟨p, vs, rfl, sq, flat_ok rx h1, flats_ok rs h2, ?_⟩
    rw [inV_ok rx h1 rs h2]
    exact k F _ H _ μ (Step.refl s) (.bl _) q
  · exact q.elim
theorem o_inL : OpL X (compareOp .In) (gInL false) := ⟨_, op_in_seq, fun F H μ x y vx vy R Q s rx ry q k => inL_ok s rx ry q k⟩
theorem o_notInL : OpL X (compareOp .NotIn) (gInL true) := ⟨_, op_notIn_seq, fun F H μ x y vx vy R Q s rx ry q k => inL_ok s rx ry q k⟩
/-! ### subscripts and slices -/
variable {e a b o i v : Expr} {es : List Expr} {ta tb te to ti tv : TE3} {tr : TA3} {pos : Pos} {x : Str}
def gIx : G2 := fun x y μ R => match x, y with
  | .str z, .int i => ∃ c, z.length ≤ sizeLine ∧ atI z.cps.toList i = some c ∧ R (.str ⟨#[c]⟩) μ
  | x, .int i => ∃ xs d, seqOf μ x = some xs ∧ atI xs i = some d ∧ R d μ
  | _, _ => False
theorem atI_rel {K : PySem.W.Frag} {F : Addr → Prop} {H : Hp} {xs : List D} {vs : List V} {i : Int} {d : D} (r : Rps K F H xs vs) (h : atI xs i = some d) : ∃ v, atI vs i = some v ∧ Rp K F H d v := by
  unfold atI at h ⊢
  rw [← r.length]
  cases e : ixN xs.length i with
  | none => rw [e] at h; cases h
  | some j => rw [e] at h; exact r.get h
theorem ix_ok {K : PySem.W.Frag} : ∀ F H μ x y vx vy R Q, Sim K F H μ → Rp K F H x vx → Rp K F H y vy → gIx x y μ R →
    (∀ F' v H' z μ', Step K F H μ F' H' μ' → Rp K F' H' z v → R z μ' → Q v H') → rIx K vx vy H Q := by
  intro F H μ x y vx vy R Q s rx ry q k
  unfold gIx at q
  split at q
  · cases rx
    cases ry
    obtain ⟨c, h1, h2, q⟩ := q
    exact .inr (.inr ⟨_, _, c, rfl, rfl, h1, h2, k F _ H _ μ (Step.refl s) (.str _) q⟩)
  · cases ry
    obtain ⟨xs, d, e, h, q⟩ := q
    obtain ⟨p, vs, rfl, sq, rs⟩ := seq_of s rx e
    obtain ⟨v, e2, r2⟩ := atI_rel rs h
    rcases sq with sq | sq
    · exact .inl ⟨p, vs, _, v, rfl, rfl, sq, e2, k F _ H _ μ (Step.refl s) r2 q⟩
    · exact .inr (.inl ⟨p, vs, _, v, rfl, rfl, sq, e2, k F _ H _ μ (Step.refl s) r2 q⟩)
  · exact q.elim
theorem e_ix (ha : E3 X a ta) (hb : E3 X b tb) (hs : PlainIx b := by exact fun _ _ => rfl) : E3 X (.Subscript a b pos) (vOp gIx ta tb) := (pe_ix ix_seq ha hb hs).imp fun _ _ _ h => low_op ix_ok h
abbrev TO3 := St3 → Mu → (Option Int → Mu → Prop) → Prop
def lowO (K : PySem.W.Frag) (t : TO3) : TO := fun σ H Q => ∃ (F : Addr → Prop) (δ : St3) (μ : Mu) (R : Option Int → Mu → Prop), Sim K F H μ ∧ Sl K F H σ δ ∧ t δ μ R ∧
  ∀ F' b H' μ', Step K F H μ F' H' μ' → R b μ' → Q b H'
def O3 (X : Cx) (e : Option Expr) (t : TO3) : Prop := PO X e (lowO X.K t)
theorem _root_.L2.PO.imp {X : Cx} {e : Option Expr} {t t' : TO} (h : PO X e t) (i : ∀ σ H Q, t' σ H Q → t σ H Q) : PO X e t' := ⟨fun pins s σ H Q I q => h.run pins s σ H Q I (i _ _ _ q)⟩
def vNoP : TO3 := fun _ μ R => R none μ
def vPart (t : TE3) : TO3 := fun δ μ R => t δ μ fun x μ1 => match x with
  | .int i => R (some i) μ1
  | _ => False
theorem p_none : O3 X none vNoP := po_none.imp fun σ H Q h => by
  obtain ⟨F, δ, μ, R, s, sl, h, k⟩ := h
  exact k F none H μ (Step.refl s) h
theorem p_some (he : E3 X e te) : O3 X (some e) (vPart te) := (po_some he).imp fun σ H Q h => by
  obtain ⟨F, δ, μ, R, s, sl, h, k⟩ := h
  refine ⟨F, δ, μ, _, s, sl, h, fun F1 v H1 d μ1 g r1 q1 => ?_⟩
  cases r1 <;> first | exact (show False from q1).elim | skip
  exact ⟨_, rfl, k F1 _ H1 μ1 g q1⟩
def cutD (xs : List D) (lo hi : Option Int) : List D := (xs.drop (HT.sIx xs.length 0 lo)).take (HT.sIx xs.length xs.length hi - HT.sIx xs.length 0 lo)
theorem cut_rel {K : PySem.W.Frag} {F : Addr → Prop} {H : Hp} {xs : List D} {vs : List V} (r : Rps K F H xs vs) (lo hi : Option Int) : Rps K F H (cutD xs lo hi) (cutV vs lo hi) := by
  unfold cutD cutV
  rw [r.length]
  exact (r.drop _).take _
def gSl : D → Option Int → Option Int → Mu → DK → Prop := fun x lo hi μ R => match x with
  | .str z => z.length ≤ sizeLine ∧ R (.str (cutS z lo hi)) μ
  | .tup xs => if HT.sIx xs.length 0 lo = 0 ∧ HT.sIx xs.length xs.length hi = xs.length then False else R (.tup (cutD xs lo hi)) μ
  | x => ∃ xs, rdL μ x = some xs ∧ R (.lst (cutD xs lo hi)) μ
def vSl (te : TE3) (tl th : TO3) : TE3 := fun δ μ R => te δ μ fun x μ1 => tl δ μ1 fun l μ2 => th δ μ2 fun h μ3 => gSl x l h μ3 R
theorem e_slice {lo hi : Option Expr} {p2 : Pos} {tl th : TO3} (he : E3 X e te) (hl : O3 X lo tl) (hh : O3 X hi th) : E3 X (.Subscript e (.Slice lo hi none p2) pos) (vSl te tl th) := (pe_slice ((sl_list.or sl_tup).or sl_str) he hl hh).imp fun σ H Q h => by
  obtain ⟨F, δ, μ, R, s, sl, h, k⟩ := h
  refine ⟨F, δ, μ, _, s, sl, h, fun F1 v H1 d μ1 g r1 q1 => ⟨F1, δ, μ1, _, g.sim, sl.st g, q1, fun F2 l H2 μ2 g2 q2 => ⟨F2, δ, μ2, _, g2.sim, sl.st (g.trans g2), q2, fun F3 u H3 μ3 g3 q3 => ?_⟩⟩⟩
  have r3 := r1.st (g2.trans g3)
  have kk : ∀ F' v H' d μ', Step X.K F3 H3 μ3 F' H' μ' → Rp X.K F' H' d v → R d μ' → Q v H' := fun F' v H' d μ' g' => k F' v H' d μ' (((g.trans g2).trans g3).trans g')
  unfold gSl at q3
  split at q3
  · cases r3
    exact .inr ⟨_, rfl, q3.1, kk F3 _ H3 _ μ3 (Step.refl g3.sim) (.str _) q3.2⟩
  · cases r3 with
    | @tup xs vs a f e rs =>
      split at q3
      · exact q3.elim
      · rename_i hn
        refine .inl (.inr ⟨_, _, rfl, SqT.of e, by rw [← rs.length]; exact hn, fun p hp => ?_⟩)
        have g' := g3.sim.frzS (o := .tup (cutV vs l u)) hp
        exact kk _ _ _ _ μ3 g' (.tup (.inr rfl) upd_same ((cut_rel rs l u).st g')) q3
  · rename_i hns hnt
    obtain ⟨xs, e, q3⟩ := q3
    obtain ⟨p, vs, ev, sq, rs⟩ := rdl_of g3.sim r3 e
    subst ev
    refine .inl (.inl ⟨p, vs, rfl, sq, fun p' hp => ?_⟩)
    have g' := g3.sim.frzS (o := .lst (cutV vs l u)) hp
    exact kk _ _ _ _ μ3 g' (.lst (.inr rfl) upd_same ((cut_rel rs l u).st g')) q3
end
end L3

namespace L3
open PySem PySem.Spec L2
section
variable {X : Cx} {e a b c o i v : Expr} {es : List Expr} {ta tb tc te to ti tv : TE3} {tr : TA3} {pos p apos cpos : Pos} {x : Str}
/-! ### len, isinstance, min, max, all, any, sum -/
def gLen : GA := fun ds μ R => match ds with
  | [.str z] => z.length ≤ sizeLine ∧ R (.int z.length) μ
  | [x] => ∃ xs, seqOf μ x = some xs ∧ R (.int xs.length) μ
  | _ => False
theorem c_len : CallL X (.builtin "len") gLen := ⟨_, call_len, fun F H μ ds vs R Q s rs q k => by
  cases rs with
  | nil => exact (show False from q).elim
  | @cons d v ds vs r t =>
    cases t with
    | cons _ _ => cases d <;> exact (show False from q).elim
    | nil =>
      refine ⟨v, ?_⟩
      cases r with
      | str z => exact ⟨_, rfl, ⟨q.1, rfl⟩, k F _ H _ μ (Step.refl s) (.int _) q.2⟩
      | lst f e rr =>
        obtain ⟨xs, e1, q⟩ := q
        cases e1
        exact ⟨_, rfl, .inl ⟨_, SqL.of e, rfl⟩, k F _ H _ μ (Step.refl s) (by rw [rr.length]; exact .int _) q⟩
      | scr f rr =>
        obtain ⟨xs, e1, q⟩ := q
        cases e1
        exact ⟨_, rfl, .inl ⟨_, f.sq, rfl⟩, k F _ H _ μ (Step.refl s) (by rw [rr.length]; exact .int _) q⟩
      | tup f e rr =>
        obtain ⟨xs, e1, q⟩ := q
        cases e1
        exact ⟨_, rfl, .inr ⟨_, SqT.of e, rfl⟩, k F _ H _ μ (Step.refl s) (by rw [rr.length]; exact .int _) q⟩
      | ref a =>
        obtain ⟨xs, e1, q⟩ := q
        obtain ⟨p, vs, e2, sq, rr⟩ := seq_of (x := .ref a) s (.ref a) e1
        cases e2
        refine ⟨xs.length, rfl, ?_, k F _ H _ μ (Step.refl s) (.int _) q⟩
        rcases sq with sq | sq
        · exact .inl ⟨vs, sq, rr.length⟩
        · exact .inr ⟨vs, sq, rr.length⟩
      | _ => obtain ⟨xs, e1, q⟩ := q; cases e1⟩
/-- the built-in type of a thing -/
def tyD (μ : Mu) : D → Option String
  | .non => some "NoneType" | .bl _ => some "bool" | .int _ => some "int" | .str _ => some "str"
  | .tup _ => some "tuple" | .lst _ => some "list" | .dct _ => some "dict"
  | .ref a => match μ a with
    | some (.lst _) => some "list"
    | some (.dct _) => some "dict"
    | _ => none
  | _ => none
theorem tyD_ok {K : PySem.W.Frag} {F : Addr → Prop} {H : Hp} {μ : Mu} {x : D} {v : V} {n : String} (s : Sim K F H μ) (r : Rp K F H x v) (h : tyD μ x = some n) : TyX K H v (.type n) := by
  cases r with
  | non => cases h; exact .base .non
  | bl b => cases h; exact .base (.bl b)
  | int i => cases h; exact .base (.int i)
  | str z => cases h; exact .base (.str z)
  | tup f e rs => cases h; exact .base (.tup e)
  | lst f e rs => cases h; exact .base (.lst e)
  | dct f e rs =>
    cases h
    rcases e with e | ⟨o, e⟩
    · exact .base (.dK e)
    · exact .fDict e
  | ref a =>
    have h' : (match μ a with
      | some (.lst _) => some "list"
      | some (.dct _) => some "dict"
      | _ => none) = some n := h
    split at h'
    · rename_i xs e2
      cases h'
      obtain ⟨_, vs, e3, rs⟩ := s.obj _ _ e2
      exact .base (.lst e3)
    · rename_i xs e2
      cases h'
      obtain ⟨_, vs, e3, rs⟩ := s.obj _ _ e2
      exact .base (.dK e3)
    · cases h'
  | _ => cases h
def gIsi : GA := fun ds μ R => match ds with
  | [x, .ty m] => ∃ n b, tyD μ x = some n ∧ kitB n m = some b ∧ R (.bl b) μ
  | _ => False
theorem c_isi : CallL X (.builtin "isinstance") gIsi := ⟨_, call_isi, fun F H μ ds vs R Q s rs q k => by
  unfold gIsi at q
  split at q
  · rename_i x m
    obtain ⟨n, b, e1, e2, q⟩ := q
    cases rs with
    | cons r1 t =>
      cases t with
      | cons r2 t =>
        cases t
        cases r2
        exact ⟨_, _, .type n, .type m, b, rfl, .ty m, tyD_ok s r1 e1, kit_ty e2, k F _ H _ μ (Step.refl s) (.bl b) q⟩
  · exact q.elim⟩
def gMax2 : GA := fun ds μ R => match ds with
  | [.int i, .int j] => R (.int (max i j)) μ
  | _ => False
def gMin2 : GA := fun ds μ R => match ds with
  | [.int i, .int j] => R (.int (min i j)) μ
  | _ => False
theorem c_max2 (hc : X.calm = true) : CallL X (.builtin "max") gMax2 := ⟨_, call_max2 hc, fun F H μ ds vs R Q s rs q k => by
  unfold gMax2 at q
  split at q
  · rename_i i j
    cases rs with
    | cons r1 t => cases t with
      | cons r2 t =>
        cases t; cases r1; cases r2
        refine ⟨i, j, rfl, ?_⟩
        have e : (if j > i then j else i) = max i j := by split <;> omega
        rw [e]
        exact k F _ H _ μ (Step.refl s) (.int _) q
  · exact q.elim⟩
theorem c_min2 (hc : X.calm = true) : CallL X (.builtin "min") gMin2 := ⟨_, call_min2 hc, fun F H μ ds vs R Q s rs q k => by
  unfold gMin2 at q
  split at q
  · rename_i i j
    cases rs with
    | cons r1 t => cases t with
      | cons r2 t =>
        cases t; cases r1; cases r2
        refine ⟨i, j, rfl, ?_⟩
        have e : (if j < i then j else i) = min i j := by split <;> omega
        rw [e]
        exact k F _ H _ μ (Step.refl s) (.int _) q
  · exact q.elim⟩
theorem rps_map {α : Type} {K : PySem.W.Frag} {F : Addr → Prop} {H : Hp} {f : α → D} {g : α → V} (hf : ∀ a v, Rp K F H (f a) v → v = g a) : ∀ {xs : List α} {vs : List V}, Rps K F H (xs.map f) vs → vs = xs.map g
  | [], _, .nil => rfl
  | a :: r, _, .cons h t => by rw [List.map_cons, hf a _ h, rps_map hf t]
def gAll : GA := fun ds μ R => ∃ (x : D) (bs : List Bool), ds = [x] ∧ rdL μ x = some (bs.map D.bl) ∧ R (.bl (bs.all id)) μ
def gAny : GA := fun ds μ R => ∃ (x : D) (bs : List Bool), ds = [x] ∧ rdL μ x = some (bs.map D.bl) ∧ R (.bl (bs.any id)) μ
def gSum : GA := fun ds μ R => ∃ (x : D) (bs : List Int), ds = [x] ∧ rdL μ x = some (bs.map D.int) ∧ R (.int (bs.sum)) μ
theorem one_of {K : PySem.W.Frag} {F : Addr → Prop} {H : Hp} {x : D} {vs : List V} (h : Rps K F H [x] vs) : ∃ v, vs = [v] ∧ Rp K F H x v := by
  cases h with
  | cons r t => cases t; exact ⟨_, rfl, r⟩
theorem c_all (hc : X.calm = true) : CallL X (.builtin "all") gAll := ⟨_, cr_all hc, fun F H μ ds vs R Q s rs q k => by
  obtain ⟨x, bs, rfl, e, q⟩ := q
  obtain ⟨v, rfl, r⟩ := one_of rs
  obtain ⟨p, us, rfl, sq, rr⟩ := rdl_of s r e
  obtain rfl := rps_map (g := V.bl) (fun a v h => by cases h; rfl) rr
  exact ⟨p, bs, rfl, sq, k F _ H _ μ (Step.refl s) (.bl _) q⟩⟩
theorem c_any (hc : X.calm = true) : CallL X (.builtin "any") gAny := ⟨_, cr_any hc, fun F H μ ds vs R Q s rs q k => by
  obtain ⟨x, bs, rfl, e, q⟩ := q
  obtain ⟨v, rfl, r⟩ := one_of rs
  obtain ⟨p, us, rfl, sq, rr⟩ := rdl_of s r e
  obtain rfl := rps_map (g := V.bl) (fun a v h => by cases h; rfl) rr
  exact ⟨p, bs, rfl, sq, k F _ H _ μ (Step.refl s) (.bl _) q⟩⟩
theorem c_sum (hc : X.calm = true) : CallL X (.builtin "sum") gSum := ⟨_, cr_sum hc, fun F H μ ds vs R Q s rs q k => by
  obtain ⟨x, bs, rfl, e, q⟩ := q
  obtain ⟨v, rfl, r⟩ := one_of rs
  obtain ⟨p, us, rfl, sq, rr⟩ := rdl_of s r e
  obtain rfl := rps_map (g := V.int) (fun a v h => by cases h; rfl) rr
  exact ⟨p, bs, rfl, sq, k F _ H _ μ (Step.refl s) (.int _) q⟩⟩
/-- list(x): a frozen copy; tracked -/
def gList : GA := fun ds μ R => ∃ x xs, ds = [x] ∧ seqOf μ x = some xs ∧ R (.lst xs) μ
def gListT : GA := fun ds μ R => ∃ x xs, ds = [x] ∧ seqOf μ x = some xs ∧ ∀ q, μ q = none → R (.ref q) (mset μ q (.lst xs))
theorem c_list : CallL X (.type "list") gList := ⟨_, call_list_of, fun F H μ ds vs R Q s rs q k => by
  obtain ⟨x, xs, rfl, e, q⟩ := q
  obtain ⟨v, rfl, r⟩ := one_of rs
  obtain ⟨p, us, rfl, sq, rr⟩ := seq_of s r e
  refine ⟨p, us, rfl, sq, fun l hl => ?_⟩
  have g := s.frzS (o := .lst us) hl
  exact k _ _ _ _ μ g (.lst (.inr rfl) upd_same (rr.st g)) q⟩
theorem c_listT : CallL X (.type "list") gListT := ⟨_, call_list_of, fun F H μ ds vs R Q s rs q k => by
  obtain ⟨x, xs, rfl, e, q⟩ := q
  obtain ⟨v, rfl, r⟩ := one_of rs
  obtain ⟨p, us, rfl, sq, rr⟩ := seq_of s r e
  refine ⟨p, us, rfl, sq, fun l hl => ?_⟩
  have g := s.trkS (o := .lst us) (m := .lst xs) hl fun g' e => ⟨us, e, rr.grow g'⟩
  exact k _ _ _ _ _ g (.ref l) (q l (s.free hl))⟩
/-! ### methods of built-in types -/
abbrev GM := D → List D → Mu → DK → Prop
def MtL (X : Cx) (id : String) (T : String) (G : GM) : Prop := ∃ r, MtR X id r ∧ ∀ F H μ x ds vx vs R Q, Sim X.K F H μ → Rp X.K F H x vx → Rps X.K F H ds vs → G x ds μ R →
  (∀ F' v H' z μ', Step X.K F H μ F' H' μ' → Rp X.K F' H' z v → R z μ' → Q v H') → r vx vs H Q
/-- a value's type lets the method be found -/
def tyM (T : String) (μ : Mu) (x : D) : Prop := match x with
  | .str _ => T = "str"
  | .lst _ => T = "list"
  | .scr _ => T = "list"
  | .ref a => (T = "list" ∧ ∃ xs, μ a = some (.lst xs)) ∨ (T = "dict" ∧ ∃ kvs, μ a = some (.dct kvs))
  | _ => False
theorem tyM_ok {K : PySem.W.Frag} {F : Addr → Prop} {H : Hp} {μ : Mu} {x : D} {v : V} {T : String} (s : Sim K F H μ) (r : Rp K F H x v) (h : tyM T μ x) : tyV K T v H := by
  cases r with
  | str z => exact h
  | lst f e rs => exact .inl ⟨h, _, SqL.of e⟩
  | scr f rs => exact .inl ⟨h, _, f.sq⟩
  | ref a =>
    rcases h with ⟨e, xs, h⟩ | ⟨e, xs, h⟩
    · obtain ⟨_, vs, e3, rs⟩ := s.obj _ _ h
      exact .inl ⟨e, _, SqL.of e3⟩
    · obtain ⟨_, vs, e3, rs⟩ := s.obj _ _ h
      exact .inr (.inr (.inl ⟨e, .inl ⟨_, e3⟩⟩))
  | _ => exact (show False from h).elim
def vBM0 (T : String) (G : GM) (to : TE3) : TE3 := fun δ μ R => to δ μ fun x μ1 => tyM T μ1 x ∧ G x [] μ1 R
def vBM (T : String) (G : GM) (to : TE3) (tr : TA3) : TE3 := fun δ μ R => to δ μ fun x μ1 => tyM T μ1 x ∧ tr δ μ1 fun ds μ2 => G x ds μ2 R
theorem e_bm0 {name : Str} {T id : String} {G : GM} (pa : PlainAttrs T) (slot : Slot T name id) (hty : typeOf (.builtin id) = pure (.type "method_descriptor")) (hm : MtL X id T G) (ho : E3 X o to)
    (hbase : attributeBase o name X.env (eval o X.env) = eval o X.env := by rfl) (hline : (apos.endLine == cpos.line) = true := by rfl) : E3 X (.Call (.Attribute o name apos) [] [] cpos) (vBM0 T G to) := by
  obtain ⟨r, hr, l⟩ := hm
  refine (pe_bm0 pa slot hty hr ho hbase hline).imp fun σ H Q h => ?_
  obtain ⟨F, δ, μ, R, s, sl, h, k⟩ := h
  exact ⟨F, δ, μ, _, s, sl, h, fun F1 v H1 d μ1 g r1 q1 => ⟨tyM_ok g.sim r1 q1.1, l F1 H1 μ1 d [] v [] R Q g.sim r1 .nil q1.2 fun F2 v H2 d μ2 g2 r2 q2 => k F2 v H2 d μ2 (g.trans g2) r2 q2⟩⟩
theorem e_bm {name : Str} {T id : String} {G : GM} (pa : PlainAttrs T) (slot : Slot T name id) (hty : typeOf (.builtin id) = pure (.type "method_descriptor")) (hm : MtL X id T G) (ho : E3 X o to) (ha : A3 X (e :: es) tr)
    (hbase : attributeBase o name X.env (eval o X.env) = eval o X.env := by rfl)
    (hfew : ((backTo cpos (starEach (e :: es) X.env)).all (fun x => !x.1) && (backToKw cpos (keywordEach [] X.env)).all (fun x => x.1.isSome)
      && decide ((e :: es).length + ([] : List Keyword).length + (if ([] : List Keyword).isEmpty then 0 else 1) < 30)) = true := by rfl)
    (hline : (apos.endLine == cpos.line) = true := by rfl) (hs : starEach (e :: es) X.env = (false, eval e X.env) :: starEach es X.env := by rfl) (hplain : (backTo cpos (starEach es X.env)).any (·.1) = false := by rfl) :
    E3 X (.Call (.Attribute o name apos) (e :: es) [] cpos) (vBM T G to tr) := by
  obtain ⟨r, hr, l⟩ := hm
  refine (pe_bm pa slot hty hr ho ha hbase hfew hline hs hplain).imp fun σ H Q h => ?_
  obtain ⟨F, δ, μ, R, s, sl, h, k⟩ := h
  exact ⟨F, δ, μ, _, s, sl, h, fun F1 v H1 d μ1 g r1 q1 => ⟨tyM_ok g.sim r1 q1.1, F1, δ, μ1, _, g.sim, sl.st g, q1.2, fun F2 vs H2 ds μ2 g2 r2 q2 => l F2 H2 μ2 d ds v vs R Q g2.sim (r1.st g2) r2 q2 fun F3 v H3 d μ3 g3 r3 q3 => k F3 v H3 d μ3 ((g.trans g2).trans g3) r3 q3⟩⟩
def gApp : GM := fun x ds μ R => ∃ a xs d, x = .ref a ∧ ds = [d] ∧ μ a = some (.lst xs) ∧ xs.length < sizeLine ∧ R .non (mset μ a (.lst (xs ++ [d])))
theorem m_append : MtL X "list.append" "list" gApp := ⟨_, mt_append, fun F H μ x ds vx vs R Q s rx rs q k => by
  obtain ⟨a, xs, d, rfl, rfl, e, hz, q⟩ := q
  obtain ⟨v, rfl, r⟩ := one_of rs
  cases rx
  obtain ⟨_, us, e3, rr⟩ := s.obj _ _ e
  refine ⟨a, us, v, rfl, rfl, e3, by rw [← rr.length]; exact hz, ?_⟩
  have g := s.putS (o := .lst (us ++ [v])) (m := .lst (xs ++ [d])) e fun g' e' => ⟨_, e', (rr.grow g').append (.cons (r.grow g') .nil)⟩
  exact k _ _ _ _ _ g .non q⟩
def gPop : GM := fun x ds μ R => ∃ a xs d, x = .ref a ∧ ds = [] ∧ μ a = some (.lst xs) ∧ xs[xs.length - 1]? = some d ∧ R d (mset μ a (.lst xs.dropLast))
theorem m_pop : MtL X "list.pop" "list" gPop := ⟨_, mt_pop, fun F H μ x ds vx vs R Q s rx rs q k => by
  obtain ⟨a, xs, d, rfl, rfl, e, hz, q⟩ := q
  cases rs
  cases rx
  obtain ⟨_, us, e3, rr⟩ := s.obj _ _ e
  obtain ⟨v, ev, r⟩ := rr.get hz
  refine ⟨a, us, v, rfl, rfl, e3, by rw [← rr.length]; exact ev, ?_⟩
  have g := s.putS (o := .lst us.dropLast) (m := .lst xs.dropLast) e fun g' e' => ⟨_, e', (rr.grow g').dropLast⟩
  exact k _ _ _ _ _ g (r.st g) q⟩
def gExt : GM := fun x ds μ R => ∃ a xs y ys, x = .ref a ∧ ds = [y] ∧ μ a = some (.lst xs) ∧ lstOf μ y = some ys ∧ xs.length + ys.length ≤ sizeLine ∧ R .non (mset μ a (.lst (xs ++ ys)))
theorem m_extend : MtL X "list.extend" "list" gExt := ⟨_, mt_extend, fun F H μ x ds vx vs R Q s rx rs q k => by
  obtain ⟨a, xs, y, ys, rfl, rfl, e, ey, hz, q⟩ := q
  obtain ⟨v, rfl, r⟩ := one_of rs
  cases rx
  obtain ⟨_, us, e3, rr⟩ := s.obj _ _ e
  obtain ⟨p, ws, rfl, e4, r4⟩ := lst_of s r ey
  refine ⟨a, p, us, ws, rfl, rfl, e3, e4, by rw [← rr.length, ← r4.length]; exact hz, ?_⟩
  have g := s.putS (o := .lst (us ++ ws)) (m := .lst (xs ++ ys)) e fun g' e' => ⟨_, e', (rr.grow g').append (r4.grow g')⟩
  exact k _ _ _ _ _ g .non q⟩
/-- sep.join(xs) -/
def gJoin : GM := fun x ds μ R => ∃ (a : Str) (y : D) (ys : List Str), x = .str a ∧ ds = [y] ∧ seqOf μ y = some (ys.map D.str) ∧ (ys.map (·.length)).sum + ys.length * a.length ≤ 16777216 ∧ R (.str (Txt.join a ys)) μ
theorem m_join : MtL X "str.join" "str" gJoin := ⟨_, mt_join, fun F H μ x ds vx vs R Q s rx rs q k => by
  obtain ⟨a, y, ys, rfl, rfl, e, hz, q⟩ := q
  obtain ⟨v, rfl, r⟩ := one_of rs
  cases rx
  obtain ⟨p, us, rfl, sq, rr⟩ := seq_of s r e
  obtain rfl := rps_map (g := V.str) (fun a v h => by cases h; rfl) rr
  exact ⟨a, p, ys, rfl, rfl, sq, hz, k F _ H _ μ (Step.refl s) (.str _) q⟩⟩
/-! ### o[i] = v -/
def StL (X : Cx) (G : D → D → D → Mu → (Mu → Prop) → Prop) : Prop := ∃ t, PSet X t ∧ ∀ F H μ o i v vo vi vv R Q, Sim X.K F H μ → Rp X.K F H o vo → Rp X.K F H i vi → Rp X.K F H v vv → G o i v μ R →
  (∀ F' H' μ', Step X.K F H μ F' H' μ' → R μ' → Q H') → t vo vi vv H Q
def sSub (G : D → D → D → Mu → (Mu → Prop) → Prop) (te to ti : TE3) : TS3 := fun D δ μ => te δ μ fun v μ1 => to δ μ1 fun o μ2 => ti δ μ2 fun i μ3 => G o i v μ3 fun μ4 => D.nx δ μ4
theorem s_sub {G : D → D → D → Mu → (Mu → Prop) → Prop} {pos' : Pos} (hS : StL X G) (he : E3 X e te) (ho : E3 X o to) (hi : E3 X i ti)
    (ha : ∀ v, assign (.Subscript o i pos') X.env v = (do
      let ov ← holding [v] (eval o X.env)
      let iv ← holding [v, ov] (eval i X.env)
      standAt pos'
      holding [v, ov, iv] (setItem ov iv v)
      release [v, ov, iv] []) := by intro _; rfl)
    (hs : swapsWithSole [.Subscript o i pos'] e pos.line X.env = pure false := by rfl) (hw : swappedStores [.Subscript o i pos'] e X.env = pure none := by rfl)
    (h1 : (assignEach [.Subscript o i pos'] X.env).map (·.2) = [assign (.Subscript o i pos') X.env] := by rfl) : S3 X (.Assign [.Subscript o i pos'] e pos) (sSub G te to ti) := by
  obtain ⟨t, ht, l⟩ := hS
  refine (ps_asg he (pg_sub ho hi ht ha) hs hw h1).imp fun D σ H h => ?_
  obtain ⟨F, δ, μ, D3, s, sl, h, k⟩ := h
  refine ⟨F, δ, μ, _, s, sl, h, fun F1 v H1 d μ1 g r1 q1 => ?_⟩
  refine ⟨F1, δ, μ1, _, g.sim, sl.st g, q1, fun F2 ov H2 od μ2 g2 r2 q2 => ?_⟩
  refine ⟨F2, δ, μ2, _, g2.sim, sl.st (g.trans g2), q2, fun F3 iv H3 id μ3 g3 r3 q3 => ?_⟩
  exact l F3 H3 μ3 od id d ov iv v _ _ g3.sim (r2.st g3) r3 (r1.st (g2.trans g3)) q3 fun F4 H4 μ4 g4 q4 => k.nx F4 σ H4 δ μ4 (((g.trans g2).trans g3).trans g4) (sl.st (((g.trans g2).trans g3).trans g4)) q4
def gSetL : D → D → D → Mu → (Mu → Prop) → Prop := fun o i v μ R => ∃ a xs k j, o = .ref a ∧ i = .int k ∧ μ a = some (.lst xs) ∧ ixN xs.length k = some j ∧ R (mset μ a (.lst (xs.set j v)))
theorem st_list : StL X gSetL := ⟨_, set_list, fun F H μ o i v vo vi vv R Q s ro ri rv q k => by
  obtain ⟨a, xs, n, j, rfl, rfl, e, hj, q⟩ := q
  cases ro
  cases ri
  obtain ⟨_, us, e3, rr⟩ := s.obj _ _ e
  refine ⟨a, us, n, j, rfl, rfl, e3, by rw [← rr.length]; exact hj, ?_⟩
  have g := s.putS (o := .lst (us.set j vv)) (m := .lst (xs.set j v)) e fun g' e' => ⟨_, e', (rr.grow g').set (rv.grow g') j⟩
  exact k _ _ _ g q⟩
/-! ### what is walked -/
def PIor {tg iter : Expr} {t u : TI} (h : PI X tg iter t) (h' : PI X tg iter u) : PI X tg iter (fun σ H R => t σ H R ∨ u σ H R) := ⟨fun pins s σ H R I q => q.elim (h.run pins s σ H R I) (h'.run pins s σ H R I)⟩
def iSeq (te : TE3) : TI3 := fun δ μ R => te δ μ fun d μ1 => match d with
  | .lst xs => R xs (fun _ => True) μ1
  | .scr xs => R xs (fun _ => True) μ1
  | .tup xs => R xs (fun _ => True) μ1
  | .ref a => ∃ xs, μ1 a = some (.lst xs) ∧ R xs (fun μ => μ a = some (.lst xs)) μ1
  | _ => False
theorem itl_ok {K : PySem.W.Frag} {F : Addr → Prop} {H : Hp} {μ : Mu} {ds : List D} {Pm : Mu → Prop} {a : Addr} (h : ∀ F1 H1 μ1, Step K F H μ F1 H1 μ1 → Pm μ1 → ∃ vs, SqL K H1 a vs ∧ Rps K F1 H1 ds vs) : ItOk K F H μ ds Pm (Itl K a) := by
  refine ⟨fun F1 H1 μ1 i g hp hi => ?_, fun F1 H1 μ1 g hp => ?_, fun F1 H1 μ1 i x H2 g hp hy hi => ?_⟩
  · obtain ⟨vs, sq, rs⟩ := h F1 H1 μ1 g hp
    obtain ⟨v, ev, _⟩ := rs.get (List.getElem?_eq_getElem hi)
    exact ⟨vs, v, sq, ev⟩
  · obtain ⟨vs, sq, rs⟩ := h F1 H1 μ1 g hp
    exact ⟨vs, sq, by rw [rs.length]; exact Nat.le_refl _⟩
  · obtain ⟨vs, sq, rs⟩ := h F1 H1 μ1 g hp
    obtain ⟨rfl, hy⟩ := hy
    obtain ⟨d, ed, rd⟩ := rs.back (hy vs sq)
    exact ⟨F1, d, Step.refl g.sim, ed, rd⟩
theorem itt_ok {K : PySem.W.Frag} {F : Addr → Prop} {H : Hp} {μ : Mu} {ds : List D} {Pm : Mu → Prop} {a : Addr} (h : ∀ F1 H1 μ1, Step K F H μ F1 H1 μ1 → Pm μ1 → ∃ vs, SqT K H1 a vs ∧ Rps K F1 H1 ds vs) : ItOk K F H μ ds Pm (Itt K a) := by
  refine ⟨fun F1 H1 μ1 i g hp hi => ?_, fun F1 H1 μ1 g hp => ?_, fun F1 H1 μ1 i x H2 g hp hy hi => ?_⟩
  · obtain ⟨vs, sq, rs⟩ := h F1 H1 μ1 g hp
    obtain ⟨v, ev, _⟩ := rs.get (List.getElem?_eq_getElem hi)
    exact ⟨vs, v, sq, ev⟩
  · obtain ⟨vs, sq, rs⟩ := h F1 H1 μ1 g hp
    exact ⟨vs, sq, by rw [rs.length]; exact Nat.le_refl _⟩
  · obtain ⟨vs, sq, rs⟩ := h F1 H1 μ1 g hp
    obtain ⟨rfl, hy⟩ := hy
    obtain ⟨d, ed, rd⟩ := rs.back (hy vs sq)
    exact ⟨F1, d, Step.refl g.sim, ed, rd⟩
theorem lst_at {K : PySem.W.Frag} {F F1 : Addr → Prop} {H H1 : Hp} {μ μ1 : Mu} {a : Addr} {ds : List D} (r : Rp K F H (.lst ds) (.ref a)) (g : Step K F H μ F1 H1 μ1) : ∃ vs, SqL K H1 a vs ∧ Rps K F1 H1 ds vs := by
  have r' := r.st g
  cases r' with
  | lst f e rs => exact ⟨_, SqL.of e, rs⟩
theorem scr_at {K : PySem.W.Frag} {F F1 : Addr → Prop} {H H1 : Hp} {μ μ1 : Mu} {a : Addr} {ds : List D} (r : Rp K F H (.scr ds) (.ref a)) (g : Step K F H μ F1 H1 μ1) : ∃ vs, SqL K H1 a vs ∧ Rps K F1 H1 ds vs := by
  have r' := r.st g
  cases r' with
  | scr f rs => exact ⟨_, f.sq, rs⟩
theorem tup_at {K : PySem.W.Frag} {F F1 : Addr → Prop} {H H1 : Hp} {μ μ1 : Mu} {a : Addr} {ds : List D} (r : Rp K F H (.tup ds) (.ref a)) (g : Step K F H μ F1 H1 μ1) : ∃ vs, SqT K H1 a vs ∧ Rps K F1 H1 ds vs := by
  have r' := r.st g
  cases r' with
  | tup f e rs => exact ⟨_, SqT.of e, rs⟩
/-- a list or a tuple is walked, whichever it turns out to be -/
def iEither (K : PySem.W.Frag) (tl : TE) : TI := fun σ H R => tl σ H fun x H1 => ∃ a, x = .ref a ∧ (((∃ ys, SqL K H1 a ys) ∧ R (Itl K a) H1) ∨ ((∃ ys, SqT K H1 a ys) ∧ R (Itt K a) H1))
theorem pi_either {tg l : Expr} {tl : TE} (hl : PE X l tl) : PI X tg l (iEither X.K tl) := by
  refine ⟨fun ps st σ H R I h => thn (hl.run ps st σ H _ I h) fun v st1 ⟨x, H1, J, rx, z⟩ => ?_⟩
  obtain ⟨a, rfl, z⟩ := z
  cases rx
  have fp : ∀ b ∈ [st1.heap.objs.size], FpOk X ps H1 b := fun b hb => by
    obtain rfl : b = st1.heap.objs.size := List.mem_singleton.mp hb
    exact J.fpOk (Nat.le_refl _) (J.hok.fresh (Nat.le_refl _))
  rcases z with ⟨⟨ys, sq⟩, z⟩ | ⟨⟨ys, sq⟩, z⟩
  · obtain ⟨us, _, pl, _⟩ := J.list sq
    exact wpAny_pyIter_list pl.isList ⟨_, _, _, _, H1, rfl, J.kept (t' := st1.toks) fun _ _ w => Heap.get?_push_of_some _ w, turn_list a _, ⟨_, Heap.get?_push_size _ rfl, rfl, rfl⟩, fp, z⟩
  · obtain ⟨us, _, pl, _⟩ := J.tuple sq
    exact wpAny_pyIter_tuple (show st1.heap.IsTuple a us.toArray from pl) ⟨_, _, _, _, H1, rfl, J.kept (t' := st1.toks) fun _ _ w => Heap.get?_push_of_some _ w, turn_tuple a _, ⟨_, Heap.get?_push_size _ rfl, rfl, rfl⟩, fp, z⟩
theorem i_seq {tg : Expr} (he : E3 X e te) : I3 X tg e (iSeq te) := (pi_either he).imp fun σ H R3 h => by
  obtain ⟨F, δ, μ, R, s, sl, h, k⟩ := h
  refine ⟨F, δ, μ, _, s, sl, h, fun F1 v H1 d μ1 g r1 q1 => ?_⟩
  cases r1 with
  | lst f e rs => exact ⟨_, rfl, .inl ⟨⟨_, SqL.of e⟩, k F1 H1 _ _ μ1 _ g (itl_ok fun F2 H2 μ2 g2 _ => lst_at (.lst f e rs) g2) q1⟩⟩
  | scr f rs => exact ⟨_, rfl, .inl ⟨⟨_, f.sq⟩, k F1 H1 _ _ μ1 _ g (itl_ok fun F2 H2 μ2 g2 _ => scr_at (.scr f rs) g2) q1⟩⟩
  | tup f e rs => exact ⟨_, rfl, .inr ⟨⟨_, SqT.of e⟩, k F1 H1 _ _ μ1 _ g (itt_ok fun F2 H2 μ2 g2 _ => tup_at (.tup f e rs) g2) q1⟩⟩
  | ref a =>
    obtain ⟨xs, em, q1⟩ := q1
    refine ⟨a, rfl, .inl ⟨?_, k F1 H1 _ _ μ1 _ g (itl_ok fun F2 H2 μ2 g2 hp => ?_) q1⟩⟩
    · obtain ⟨_, vs, e3, rs⟩ := g.sim.obj _ _ em
      exact ⟨vs, SqL.of e3⟩
    · obtain ⟨_, vs, e3, rs⟩ := g2.sim.obj _ _ hp
      exact ⟨vs, SqL.of e3, rs⟩
  | _ => exact (show False from q1).elim
/-! range -/
def rgD (lo : Int) (n : Nat) : List D := (List.range n).map fun i => .int (lo + (i : Nat))
theorem itr_ok {K : PySem.W.Frag} {F : Addr → Prop} {H : Hp} {μ : Mu} {lo : Int} {n : Nat} : ItOk K F H μ (rgD lo n) (fun _ => True) (Itr lo n) := by
  have hl : (rgD lo n).length = n := by simp [rgD]
  refine ⟨fun F1 H1 μ1 i g hp hi => by rw [hl] at hi; exact hi, fun F1 H1 μ1 g hp => by rw [hl]; exact Nat.le_refl _, fun F1 H1 μ1 i x H2 g hp hy hi => ?_⟩
  obtain ⟨rfl, rfl⟩ := hy
  rw [hl] at hi
  exact ⟨F1, .int (lo + i), Step.refl g.sim, by simp [rgD, hi], .int _⟩
def iRg1 (ta : TA3) : TI3 := fun δ μ R => ta δ μ fun ds μ1 => match ds with
  | [.int j] => -(2 ^ 62) ≤ j ∧ j < 2 ^ 62 ∧ R (rgD 0 j.toNat) (fun _ => True) μ1
  | _ => False
theorem i_range1 {tg : Expr} (hm : X.mg "range" = none) (ha : A3 X [a] tr) (hg : Gl X "range" := by rfl) (hs : starEach [a] X.env = [(false, eval a X.env)] := by rfl) : I3 X tg (.Call (.Name "range" p) [a] [] pos) (iRg1 tr) := (pi_range1 hg hm ha hs).imp fun σ H R3 h => by
  obtain ⟨F, δ, μ, R, s, sl, h, k⟩ := h
  refine ⟨F, δ, μ, _, s, sl, h, fun F1 vs H1 ds μ1 g r1 q1 => ?_⟩
  split at q1
  · rename_i j
    obtain ⟨v, rfl, r⟩ := one_of r1
    cases r
    exact ⟨j, rfl, q1.1, q1.2.1, k F1 H1 _ _ μ1 _ g itr_ok q1.2.2⟩
  · exact q1.elim
def iRg2 (ta : TA3) : TI3 := fun δ μ R => ta δ μ fun ds μ1 => match ds with
  | [.int i, .int j] => (-(2 ^ 62) ≤ i ∧ i < 2 ^ 62 ∧ -(2 ^ 62) ≤ j ∧ j < 2 ^ 62) ∧ R (rgD i (j - i).toNat) (fun _ => True) μ1
  | _ => False
theorem i_range2 {tg : Expr} (hm : X.mg "range" = none) (ha : A3 X [a, b] tr) (hg : Gl X "range" := by rfl) (hs : starEach [a, b] X.env = [(false, eval a X.env), (false, eval b X.env)] := by rfl) (hs2 : starEach [b] X.env = [(false, eval b X.env)] := by rfl) : I3 X tg (.Call (.Name "range" p) [a, b] [] pos) (iRg2 tr) := (pi_range2 hg hm ha hs hs2).imp fun σ H R3 h => by
  obtain ⟨F, δ, μ, R, s, sl, h, k⟩ := h
  refine ⟨F, δ, μ, _, s, sl, h, fun F1 vs H1 ds μ1 g r1 q1 => ?_⟩
  split at q1
  · rename_i i j
    cases r1 with
    | cons r1 t => cases t with
      | cons r2 t =>
        cases t; cases r1; cases r2
        exact ⟨i, j, rfl, q1.1, k F1 H1 _ _ μ1 _ g itr_ok q1.2⟩
  · exact q1.elim
/-! the signs of a text -/
def signsD (z : Str) : List D := z.cps.toList.map fun c => .str ⟨#[c]⟩
def iStr3 (te : TE3) : TI3 := fun δ μ R => te δ μ fun d μ1 => match d with
  | .str z => R (signsD z) (fun _ => True) μ1
  | _ => False
theorem its_ok {K : PySem.W.Frag} {F : Addr → Prop} {H : Hp} {μ : Mu} {z : Str} : ItOk K F H μ (signsD z) (fun _ => True) (Its z) := by
  have hl : (signsD z).length = z.cps.size := by simp [signsD]
  refine ⟨fun F1 H1 μ1 i g hp hi => by rw [hl] at hi; exact hi, fun F1 H1 μ1 g hp => by rw [hl]; exact Nat.le_refl _, fun F1 H1 μ1 i x H2 g hp hy hi => ?_⟩
  obtain ⟨rfl, c, ec, rfl⟩ := hy
  refine ⟨F1, .str ⟨#[c]⟩, Step.refl g.sim, ?_, .str _⟩
  unfold signsD
  rw [List.getElem?_map, Array.getElem?_toList, ec]
  rfl
theorem i_str {tg : Expr} (he : E3 X e te) : I3 X tg e (iStr3 te) := (pi_str he).imp fun σ H R3 h => by
  obtain ⟨F, δ, μ, R, s, sl, h, k⟩ := h
  refine ⟨F, δ, μ, _, s, sl, h, fun F1 v H1 d μ1 g r1 q1 => ?_⟩
  cases r1 <;> first | exact (show False from q1).elim | skip
  exact ⟨_, rfl, k F1 H1 _ _ μ1 _ g its_ok q1⟩
/-! one name as a comprehension's target -/
theorem tg_name {K : PySem.W.Frag} (i : Nat) : TgL K (gName i) (gN i) [i] := ⟨fun F H σ δ δ' d v Q sl r e k => by
    cases e
    exact k _ (fun ws h => wipe_set_mem σ (some v) ws i (h i List.mem_cons_self)) (sl.set i r)⟩
/-! name = [..] where the name is no cell -/
theorem s_setLc {j : Nat} {y : Str} {py spos : Pos} {elt tg iter : Expr} {ifs : List Expr} {scope : Scope} {own : List (Str × Nat)} {wi : TI3} {g : TG3} {tt : TT3} {vs : List Nat} (hc : X.calm = true) (hN : X.N.Nodup) (hi : I3 X tg iter wi) (ok : BlkOk X.N X.env.scope scope own) {g2 : TG}
    (lg : TgL X.K g2 g vs) (hv : ∀ i ∈ vs, i ∈ own.map (·.2))
    (hg : ∀ (s : Shared) (H : Hp) (C : Addr) (cl : List (Str × Addr)) (fp : List Addr), PG (X.blk s H scope (compEnvC scope cl C X.env) fp) tg g2)
    (ht : ∀ (s : Shared) (H : Hp) (C : Addr) (cl : List (Str × Addr)) (fp : List Addr), Ts3 (X.blk s H scope (compEnvC scope cl C X.env) fp) ifs tt)
    (he : ∀ (s : Shared) (H : Hp) (C : Addr) (cl : List (Str × Addr)) (fp : List Addr), E3 (X.blk s H scope (compEnvC scope cl C X.env) fp) elt te)
    (hsw : swapsWith (.ListComp elt [⟨tg, iter, ifs, 0⟩] scope pos) (some (.Name y py)) spos.line X.env = pure true)
    (hy : X.N[j]? = some y := by rfl) (hyl : X.env.scope.names.lookup y = some .local := by rfl)
    (hs : ∀ x, foldedSetIterable iter X.env x = pure x := by intro _; rfl) :
    S3 X (.Assign [.Name y py] (.ListComp elt [⟨tg, iter, ifs, 0⟩] scope pos) spos) (sSet j (vLc wi g tt te (own.map (·.2)))) :=
  (ps_setLc (wi := lowI X.K wi) (g := g2) (tt := lowT X.K tt) (te := low X.K te) hc hN hy hyl hsw hi ok hg ht he hs).imp fun D σ H h => by
    obtain ⟨F, δ, μ, D3, s, sl, h, k⟩ := h
    exact low_lc lg hv ⟨F, δ, μ, _, s, sl, h, fun F1 v H1 d μ1 g r1 q1 => k.nx F1 _ H1 _ μ1 g ((sl.st g).set j r1) q1⟩
/-! {} and written dicts -/
def vDict0 : TE3 := fun _ μ R => R (.dct []) μ
theorem e_dict0 : E3 X (.Dict [] [] pos) vDict0 := pe_dnewK.imp fun σ H Q h => by
  obtain ⟨F, δ, μ, R, s, sl, h, k⟩ := h
  intro p hp
  have g := s.frzS (o := .dK []) hp
  exact k _ _ _ _ μ g (.dct (.inr rfl) (.inl upd_same) .nil) h
def vDict0T : TE3 := fun _ μ R => ∀ q, μ q = none → R (.ref q) (mset μ q (.dct []))
theorem e_dict0T : E3 X (.Dict [] [] pos) vDict0T := pe_dnewK.imp fun σ H Q h => by
  obtain ⟨F, δ, μ, R, s, sl, h, k⟩ := h
  intro p hp
  have g := s.trkS (o := .dK []) (m := .dct []) hp fun g' e => ⟨[], e, .nil⟩
  exact k _ _ _ _ _ g (.ref p) (h p (s.free hp))
end
end L3

namespace L3
open PySem PySem.Spec L2
/-! ### dicts with int and text keys -/
def valD (kvs : List (Key × D)) (k : Key) : Option D := (kvs.find? fun kv => decide (kv.1 = k)).map (·.2)
def putD (kvs : List (Key × D)) (k : Key) (v : D) : List (Key × D) :=
  if (kvs.any fun kv => decide (kv.1 = k)) = true then kvs.map (fun kv => if kv.1 = k then (kv.1, v) else kv) else kvs ++ [(k, v)]
def mergeD (kvs more : List (Key × D)) : List (Key × D) := more.foldl (fun acc kv => putD acc kv.1 kv.2) kvs
def keyOf : D → Option Key
  | .int i => some (.inl i)
  | .str x => some (.inr x)
  | _ => none
section
variable {K : PySem.W.Frag} {F : Addr → Prop} {H : Hp}
theorem keyOf_ok {x : D} {v : V} {k : Key} (r : Rp K F H x v) (h : keyOf x = some k) : v = kV k := by
  cases r <;> cases h <;> rfl
theorem Rpk.length : ∀ {ds : List (Key × D)} {vs : List (Key × V)}, Rpk K F H ds vs → ds.length = vs.length
  | _, _, .nil => rfl
  | _, _, .cons _ t => by rw [List.length_cons, List.length_cons, Rpk.length t]
theorem Rpk.val {k : Key} : ∀ {ds : List (Key × D)} {vs : List (Key × V)}, Rpk K F H ds vs → (∀ d, valD ds k = some d → ∃ v, valV vs k = some v ∧ Rp K F H d v) ∧ (valD ds k = none → valV vs k = none)
  | _, _, .nil => ⟨fun d h => (by cases h), fun _ => rfl⟩
  | _, _, .cons (k := k') (d := d') (v := v') (ds := ds') (vs := vs') r t => by
    have ih := Rpk.val (k := k) t
    by_cases e : k' = k
    · have e1 : valD ((k', d') :: ds') k = some d' := by simp [valD, List.find?_cons, e]
      have e2 : valV ((k', v') :: vs') k = some v' := valV_pos (p := (k', v')) e
      rw [e1, e2]
      exact ⟨fun d h => (by cases h; exact ⟨v', rfl, r⟩), fun h => (by cases h)⟩
    · have e1 : valD ((k', d') :: ds') k = valD ds' k := by simp [valD, List.find?_cons, e]
      have e2 : valV ((k', v') :: vs') k = valV vs' k := valV_neg (p := (k', v')) e
      rw [e1, e2]
      exact ih
theorem Rpk.keys : ∀ {ds : List (Key × D)} {vs : List (Key × V)}, Rpk K F H ds vs → ds.map (·.1) = vs.map (·.1)
  | _, _, .nil => rfl
  | _, _, .cons r t => by rw [List.map_cons, List.map_cons, Rpk.keys t]
theorem Rpk.append : ∀ {ds es : List (Key × D)} {vs us : List (Key × V)}, Rpk K F H ds vs → Rpk K F H es us → Rpk K F H (ds ++ es) (vs ++ us)
  | _, _, _, _, .nil, s => s
  | _, _, _, _, .cons h r, s => .cons h (Rpk.append r s)
theorem Rpk.upd {k : Key} {d : D} {v : V} (h : Rp K F H d v) : ∀ {ds : List (Key × D)} {vs : List (Key × V)}, Rpk K F H ds vs → Rpk K F H (ds.map fun kv => if kv.1 = k then (kv.1, d) else kv) (vs.map fun kv => if kv.1 = k then (kv.1, v) else kv)
  | _, _, .nil => .nil
  | _, _, .cons (k := k') r t => by
    rw [List.map_cons, List.map_cons]
    by_cases e : k' = k
    · simp only [e, if_true]
      exact .cons h (Rpk.upd h t)
    · simp only [e, if_false]
      exact .cons r (Rpk.upd h t)
theorem Rpk.has {k : Key} : ∀ {ds : List (Key × D)} {vs : List (Key × V)}, Rpk K F H ds vs → (ds.any fun kv => decide (kv.1 = k)) = (vs.any fun kv => decide (kv.1 = k))
  | _, _, .nil => rfl
  | _, _, .cons r t => by rw [List.any_cons, List.any_cons, Rpk.has t]
theorem Rpk.put {k : Key} {d : D} {v : V} {ds : List (Key × D)} {vs : List (Key × V)} (r : Rpk K F H ds vs) (h : Rp K F H d v) : Rpk K F H (putD ds k d) (putK vs k v) := by
  unfold putD putK
  rw [r.has]
  split
  · exact r.upd h
  · exact r.append (.cons h .nil)
theorem Rpk.merge : ∀ {es : List (Key × D)} {us : List (Key × V)} {ds : List (Key × D)} {vs : List (Key × V)}, Rpk K F H es us → Rpk K F H ds vs → Rpk K F H (mergeD ds es) (mergeK vs us)
  | _, _, _, _, .nil, r => r
  | _, _, _, _, .cons (k := k) h t, r => by
    have z := Rpk.merge t (r.put (k := k) h)
    exact z
end
/-- the pairs of a dict, frozen or tracked -/
def dctOf (μ : Mu) : D → Option (List (Key × D))
  | .dct kvs => some kvs
  | .ref a => match μ a with
    | some (.dct kvs) => some kvs
    | _ => none
  | _ => none
theorem dct_of {K : PySem.W.Frag} {F : Addr → Prop} {H : Hp} {μ : Mu} {x : D} {v : V} {xs : List (Key × D)} (s : Sim K F H μ) (r : Rp K F H x v) (h : dctOf μ x = some xs) : ∃ p vs, v = .ref p ∧ Rd H p (.dK vs) ∧ Rpk K F H xs vs := by
  cases r with
  | dct f e rs => cases h; exact ⟨_, _, rfl, e, rs⟩
  | ref a =>
    have h' : (match μ a with
      | some (.dct xs) => some xs
      | _ => none) = some xs := h
    split at h'
    · rename_i ys e2
      cases h'
      obtain ⟨_, vs, e3, rs⟩ := s.obj _ _ e2
      exact ⟨_, vs, rfl, .inl e3, rs⟩
    · cases h'
  | _ => cases h
section
variable {X : Cx} {e a b c o i v kx : Expr} {es : List Expr} {ta tb tc te to ti tv tk : TE3} {tr : TA3} {pos p apos cpos : Pos} {x : Str}
def vPairs : List (TE3 × TE3) → St3 → Mu → (List (D × D) → Mu → Prop) → Prop
  | [], _, μ, R => R [] μ
  | (tk, tv) :: r, δ, μ, R => tk δ μ fun x μ1 => tv δ μ1 fun y μ2 => vPairs r δ μ2 fun ps μ3 => R ((x, y) :: ps) μ3
def keysOf : List (D × D) → Option (List (Key × D))
  | [] => some []
  | (k, d) :: r => match keyOf k, keysOf r with
    | some k', some r' => some ((k', d) :: r')
    | _, _ => none
def vDisp (trs : List (TE3 × TE3)) : TE3 := fun δ μ R => vPairs trs δ μ fun ps μ1 => ∃ kvs, keysOf ps = some kvs ∧ kvs.length ≤ 15 ∧ R (.dct (mergeD [] kvs)) μ1
def lowPs (K : PySem.W.Frag) : List (TE3 × TE3) → List (TE × TE)
  | [] => []
  | (a, b) :: r => (low K a, low K b) :: lowPs K r
def Ps3 (X : Cx) (pos : Pos) (keys : List (Option Expr)) (values : List Expr) (trs : List (TE3 × TE3)) : Prop := PPs X pos keys values (lowPs X.K trs)
theorem ps3_nil : Ps3 X pos [] [] [] := pps_nil
theorem ps3_cons {ks : List (Option Expr)} {vs : List Expr} {trs : List (TE3 × TE3)} (hk : E3 X kx tk) (hv : E3 X v tv) (hr : Ps3 X pos ks vs trs) : Ps3 X pos (some kx :: ks) (v :: vs) ((tk, tv) :: trs) := pps_cons hk hv hr
inductive Rpp (K : PySem.W.Frag) (F : Addr → Prop) (H : Hp) : List (D × D) → List (V × V) → Prop
  | nil : Rpp K F H [] []
  | cons {d e : D} {v u : V} {ds : List (D × D)} {vs : List (V × V)} : Rp K F H d v → Rp K F H e u → Rpp K F H ds vs → Rpp K F H ((d, e) :: ds) ((v, u) :: vs)
theorem Rpp.keys {K : PySem.W.Frag} {F : Addr → Prop} {H : Hp} : ∀ {ds : List (D × D)} {vs : List (V × V)} {kvs : List (Key × D)}, Rpp K F H ds vs → keysOf ds = some kvs → ∃ ks, vs = ks.map (fun kv => (kV kv.1, kv.2)) ∧ Rpk K F H kvs ks
  | _, _, _, .nil, h => by cases h; exact ⟨[], rfl, .nil⟩
  | _, _, kvs, .cons (d := d) (ds := ds) r q t, h => by
    unfold keysOf at h
    split at h
    · rename_i k' r' e1 e2
      cases h
      obtain ⟨ks, rfl, rk⟩ := Rpp.keys t e2
      obtain rfl := keyOf_ok r e1
      exact ⟨(k', _) :: ks, rfl, .cons q rk⟩
    · cases h
theorem low_pairs {K : PySem.W.Frag} {σ : L2.St} : ∀ {trs : List (TE3 × TE3)} {F : Addr → Prop} {H : Hp} {δ : St3} {μ : Mu} {R : List (D × D) → Mu → Prop} {Q : List (V × V) → Hp → Prop}, Sim K F H μ → Sl K F H σ δ → vPairs trs δ μ R →
    (∀ F' vs H' ds μ', Step K F H μ F' H' μ' → Rpp K F' H' ds vs → R ds μ' → Q vs H') → tPairs (lowPs K trs) σ H Q
  | [], F, H, δ, μ, R, Q, s, sl, h, k => k F [] H [] μ (Step.refl s) .nil h
  | (a, b) :: r, F, H, δ, μ, R, Q, s, sl, h, k => by
    refine ⟨F, δ, μ, _, s, sl, h, fun F1 v H1 d μ1 g1 r1 q1 => ⟨F1, δ, μ1, _, g1.sim, sl.st g1, q1, fun F2 u H2 d2 μ2 g2 r2 q2 => ?_⟩⟩
    refine low_pairs g2.sim (sl.st (g1.trans g2)) q2 fun F3 vs H3 ds μ3 g3 r3 q3 => ?_
    exact k F3 _ H3 _ μ3 ((g1.trans g2).trans g3) (.cons (r1.st (g2.trans g3)) (r2.st g3) r3) q3
theorem e_disp {keys : List (Option Expr)} {values : List Expr} {trs : List (TE3 × TE3)} (h : Ps3 X pos keys values trs) (hall : keys.all (·.isSome) = true := by rfl) (hl : keys.length = values.length := by rfl) (h0 : keys ≠ [] := by simp) (h15 : keys.length ≤ 15 := by simp) :
    E3 X (.Dict keys values pos) (vDisp trs) := (pe_disp h hall hl h0 h15).imp fun σ H Q h => by
  obtain ⟨F, δ, μ, R, s, sl, h, k⟩ := h
  intro p hp
  have g := s.newS (o := .dK []) hp
  have nF : ¬ F p := fun f => by
    obtain ⟨u, hu⟩ := s.dom p f
    rw [hp] at hu
    cases hu
  refine low_pairs g.sim (sl.st g) h fun F1 vs H1 ds μ1 g1 r1 q1 => ?_
  obtain ⟨n1, e1, f1⟩ := g1.fm p _ upd_same (s.free hp)
  obtain ⟨kvs, ek, hz, q1⟩ := q1
  obtain ⟨ks, rfl, rk⟩ := r1.keys ek
  refine ⟨e1, ks, rfl, by rw [← rk.length]; exact hz, ?_⟩
  have nF1 : ¬ F1 p := fun f => nF (f1 f)
  have gg := (g.trans g1).priv (o := .dK (mergeK [] ks)) hp nF1 n1
  have g2 := gg.shut (o := .dK (mergeK [] ks)) hp n1 upd_same
  have gp := (g1.sim.priv (o := .dK (mergeK [] ks)) nF1 n1).1
  have gq : Grow F1 (L2.upd H1 p (.dK (mergeK [] ks))) (fun a => F1 a ∨ a = p) (L2.upd H1 p (.dK (mergeK [] ks))) := ⟨fun _ h => .inl h, fun _ _ _ h => h, fun _ _ _ _ h => h⟩
  exact k _ _ _ _ μ1 g2 (.dct (.inr rfl) (.inl upd_same) (((Rpk.merge rk .nil).grow gp).grow gq)) q1
end
end L3

namespace L3
open PySem PySem.Spec L2
/-! ### readings that end without changing what is tracked -/
theorem lc_map {te : TE3} {δ : St3} {R : List D → Mu → Prop} {i : Nat} {μ : Mu} (f : D → D) : ∀ (ds acc : List D), (∀ d ∈ ds, ∀ R' : DK, R' (f d) μ → te (δ.set i (some d)) μ R') → acc.length + ds.length ≤ sizeLine → R (acc ++ ds.map f) μ →
    lcW (fun _ => True) (gN i) vYes te δ R ds acc μ
  | [], acc, _, _, k => ⟨trivial, by simpa using k⟩
  | d :: ds, acc, h, hl, k => by
    rw [List.length_cons] at hl
    refine ⟨trivial, by omega, ?_⟩
    change (if true = true then te (δ.set i (some d)) μ (fun y μ2 => lcW (fun _ => True) (gN i) vYes te δ R ds (acc ++ [y]) μ2) else lcW (fun _ => True) (gN i) vYes te δ R ds acc μ)
    rw [if_pos rfl]
    refine h d List.mem_cons_self _ (lc_map f ds (acc ++ [f d]) (fun d' hd => h d' (List.mem_cons_of_mem _ hd)) (by simp; omega) ?_)
    simpa using k
theorem lc_filter {tt : TT3} {te : TE3} {δ : St3} {R : List D → Mu → Prop} {i : Nat} {μ : Mu} (p : D → Bool) (f : D → D) : ∀ (ds acc : List D), (∀ d ∈ ds, ∀ R' : Bool → Mu → Prop, R' (p d) μ → tt (δ.set i (some d)) μ R') →
    (∀ d ∈ ds, p d = true → ∀ R' : DK, R' (f d) μ → te (δ.set i (some d)) μ R') → acc.length + ds.length ≤ sizeLine → R (acc ++ (ds.filter p).map f) μ → lcW (fun _ => True) (gN i) tt te δ R ds acc μ
  | [], acc, _, _, _, k => ⟨trivial, by simpa using k⟩
  | d :: ds, acc, ht, h, hl, k => by
    rw [List.length_cons] at hl
    refine ⟨trivial, by omega, ?_⟩
    show tt (δ.set i (some d)) μ _
    refine ht d List.mem_cons_self _ ?_
    have ht' := fun d' hd => ht d' (List.mem_cons_of_mem _ hd)
    have h' := fun d' hd => h d' (List.mem_cons_of_mem _ hd)
    cases e : p d with
    | true =>
      rw [if_pos rfl]
      refine h d List.mem_cons_self e _ (lc_filter p f ds (acc ++ [f d]) ht' h' (by simp; omega) ?_)
      simpa [List.filter_cons, e] using k
    | false =>
      rw [if_neg Bool.false_ne_true]
      refine lc_filter p f ds acc ht' h' (by omega) ?_
      simpa [List.filter_cons, e] using k
theorem lc_mapOf {α : Type} {te : TE3} {δ : St3} {R : List D → Mu → Prop} {i : Nat} {μ : Mu} (e f : α → D) : ∀ (xs : List α) (acc : List D), (∀ x ∈ xs, ∀ R' : DK, R' (f x) μ → te (δ.set i (some (e x))) μ R') → acc.length + xs.length ≤ sizeLine → R (acc ++ xs.map f) μ →
    lcW (fun _ => True) (gN i) vYes te δ R (xs.map e) acc μ
  | [], acc, _, _, k => ⟨trivial, by simpa using k⟩
  | d :: ds, acc, h, hl, k => by
    rw [List.length_cons] at hl
    refine ⟨trivial, by omega, ?_⟩
    change (if true = true then te (δ.set i (some (e d))) μ (fun y μ2 => lcW (fun _ => True) (gN i) vYes te δ R (ds.map e) (acc ++ [y]) μ2) else lcW (fun _ => True) (gN i) vYes te δ R (ds.map e) acc μ)
    rw [if_pos rfl]
    refine h d List.mem_cons_self _ (lc_mapOf e f ds (acc ++ [f d]) (fun d' hd => h d' (List.mem_cons_of_mem _ hd)) (by simp; omega) ?_)
    simpa using k
theorem lc_filterOf {α : Type} {tt : TT3} {te : TE3} {δ : St3} {R : List D → Mu → Prop} {i : Nat} {μ : Mu} (p : α → Bool) (e f : α → D) : ∀ (xs : List α) (acc : List D), (∀ x ∈ xs, ∀ R' : Bool → Mu → Prop, R' (p x) μ → tt (δ.set i (some (e x))) μ R') →
    (∀ x ∈ xs, p x = true → ∀ R' : DK, R' (f x) μ → te (δ.set i (some (e x))) μ R') → acc.length + xs.length ≤ sizeLine → R (acc ++ (xs.filter p).map f) μ → lcW (fun _ => True) (gN i) tt te δ R (xs.map e) acc μ
  | [], acc, _, _, _, k => ⟨trivial, by simpa using k⟩
  | d :: ds, acc, ht, h, hl, k => by
    rw [List.length_cons] at hl
    refine ⟨trivial, by omega, ?_⟩
    show tt (δ.set i (some (e d))) μ _
    refine ht d List.mem_cons_self _ ?_
    have ht' := fun d' hd => ht d' (List.mem_cons_of_mem _ hd)
    have h' := fun d' hd => h d' (List.mem_cons_of_mem _ hd)
    cases q : p d with
    | true =>
      rw [if_pos rfl]
      refine h d List.mem_cons_self q _ (lc_filterOf p e f ds (acc ++ [f d]) ht' h' (by simp; omega) ?_)
      simpa [List.filter_cons, q] using k
    | false =>
      rw [if_neg Bool.false_ne_true]
      refine lc_filterOf p e f ds acc ht' h' (by omega) ?_
      simpa [List.filter_cons, q] using k
/-- a for by what holds ahead of each turn, by the items that are left; the body for any next that W lets -/
theorem for_ind {Pm : Mu → Prop} {g : TG3} {tb : TS3} {Z : Ends3} (W : List D → St3 → Mu → Prop) (h0 : ∀ δ μ, W [] δ μ → Pm μ ∧ Z.nx δ μ)
    (hs : ∀ d ds δ μ, W (d :: ds) δ μ → Pm μ ∧ ∃ δ', g d δ = some δ' ∧ ∀ N : St3 → Mu → Prop, (∀ δ' μ', W ds δ' μ' → N δ' μ') → tb { Z with nx := N, ct := N, bk := Z.nx } δ' μ) : ∀ ds δ μ, W ds δ μ → forW Pm g tb Z ds δ μ
  | [], δ, μ, w => h0 δ μ w
  | d :: ds, δ, μ, w => by
    obtain ⟨hP, δ', e, h⟩ := hs d ds δ μ w
    refine ⟨hP, ?_⟩
    rw [e]
    exact h _ fun δ2 μ2 w2 => for_ind W h0 hs ds δ2 μ2 w2
/-- a for over a range, by the turn's number -/
theorem for_rg {tb : TS3} {Z : Ends3} {i : Nat} {lo : Int} {n : Nat} (W : Nat → St3 → Mu → Prop) {δ : St3} {μ : Mu} (w0 : W 0 δ μ) (h0 : ∀ δ μ, W n δ μ → Z.nx δ μ)
    (hs : ∀ k δ μ, k < n → W k δ μ → ∀ N : St3 → Mu → Prop, (∀ δ' μ', W (k + 1) δ' μ' → N δ' μ') → tb { Z with nx := N, ct := N, bk := Z.nx } (δ.set i (some (.int (lo + (k : Nat))))) μ) : forW (fun _ => True) (gN i) tb Z (rgD lo n) δ μ := by
  refine for_ind (W := fun ds δ μ => ∃ k, k ≤ n ∧ ds = (rgD lo n).drop k ∧ W k δ μ) ?_ ?_ _ _ _ ⟨0, Nat.zero_le _, rfl, w0⟩
  · rintro δ μ ⟨k, hk, e, w⟩
    have hl : (rgD lo n).length = n := by simp [rgD]
    have : k = n := by
      have := congrArg List.length e
      rw [List.length_drop, hl] at this
      simp at this
      omega
    subst this
    exact ⟨trivial, h0 δ μ w⟩
  · rintro d ds δ μ ⟨k, hk, e, w⟩
    have hl : (rgD lo n).length = n := by simp [rgD]
    have hlt : k < n := by
      have := congrArg List.length e
      rw [List.length_drop, hl] at this
      simp at this
      omega
    rw [List.drop_eq_getElem_cons (by rw [hl]; exact hlt)] at e
    obtain ⟨e1, e2⟩ := List.cons.inj e
    have ed : d = .int (lo + (k : Nat)) := by rw [e1]; simp [rgD]
    subst ed
    exact ⟨trivial, _, rfl, fun N hN => hs k δ μ hlt w N fun δ' μ' w' => hN δ' μ' ⟨k + 1, hlt, e2, w'⟩⟩
/-- a comprehension that may change what is tracked -/
theorem lc_ind {g : TG3} {tt : TT3} {te : TE3} {δ : St3} {R : List D → Mu → Prop} {Pm : Mu → Prop} (W : List D → List D → Mu → Prop) (h0 : ∀ acc μ, W [] acc μ → Pm μ ∧ R acc μ)
    (hs : ∀ d ds acc μ, W (d :: ds) acc μ → Pm μ ∧ acc.length < sizeLine ∧ ∃ δ', g d δ = some δ' ∧ ∀ N : List D → Mu → Prop, (∀ acc' μ', W ds acc' μ' → N acc' μ') → tt δ' μ fun b μ1 => if b = true then te δ' μ1 fun y μ2 => N (acc ++ [y]) μ2 else N acc μ1) : ∀ ds acc μ, W ds acc μ → lcW Pm g tt te δ R ds acc μ
  | [], acc, μ, w => h0 acc μ w
  | d :: ds, acc, μ, w => by
    obtain ⟨hP, hl, δ', e, h⟩ := hs d ds acc μ w
    refine ⟨hP, hl, ?_⟩
    rw [e]
    exact h _ fun acc' μ' w' => lc_ind W h0 hs ds acc' μ' w'
/-- .. over a range, without a test, by the turn's number -/
theorem lc_rg {te : TE3} {δ : St3} {R : List D → Mu → Prop} {i : Nat} {lo : Int} {n : Nat} (hn : n < sizeLine) (W : Nat → List D → Mu → Prop) {μ : Mu} (w0 : W 0 [] μ) (hW : ∀ k acc μ, W k acc μ → acc.length = k) (h0 : ∀ acc μ, W n acc μ → R acc μ)
    (hs : ∀ k acc μ, k < n → W k acc μ → ∀ N : DK, (∀ y μ', W (k + 1) (acc ++ [y]) μ' → N y μ') → te (δ.set i (some (.int (lo + (k : Nat))))) μ N) : lcW (fun _ => True) (gN i) vYes te δ R (rgD lo n) [] μ := by
  have hl : (rgD lo n).length = n := by simp [rgD]
  refine lc_ind (W := fun ds acc μ => ∃ k, k ≤ n ∧ ds = (rgD lo n).drop k ∧ W k acc μ) ?_ ?_ _ _ _ ⟨0, Nat.zero_le _, rfl, w0⟩
  · rintro acc μ ⟨k, hk, e, w⟩
    have : k = n := by
      have := congrArg List.length e
      rw [List.length_drop, hl] at this
      simp at this
      omega
    subst this
    exact ⟨trivial, h0 acc μ w⟩
  · rintro d ds acc μ ⟨k, hk, e, w⟩
    have hlt : k < n := by
      have := congrArg List.length e
      rw [List.length_drop, hl] at this
      simp at this
      omega
    rw [List.drop_eq_getElem_cons (by rw [hl]; exact hlt)] at e
    obtain ⟨e1, e2⟩ := List.cons.inj e
    have ed : d = .int (lo + (k : Nat)) := by rw [e1]; simp [rgD]
    subst ed
    refine ⟨trivial, by rw [hW k acc μ w]; omega, _, rfl, fun N hN => ?_⟩
    change (if true = true then te (δ.set i (some (.int (lo + (k : Nat))))) μ (fun y μ2 => N (acc ++ [y]) μ2) else N acc μ)
    rw [if_pos rfl]
    exact hs k acc μ hlt w _ fun y μ' w' => hN _ _ ⟨k + 1, hlt, e2, w'⟩
theorem ix_ref {μ : Mu} {b : Addr} {xs : List D} {i : Int} {d : D} {R : DK} (e : μ b = some (.lst xs)) (h : atI xs i = some d) (k : R d μ) : gIx (.ref b) (.int i) μ R := ⟨xs, d, by simp only [seqOf, e], h, k⟩
theorem ix_lst {μ : Mu} {xs : List D} {i : Int} {d : D} {R : DK} (h : atI xs i = some d) (k : R d μ) : gIx (.lst xs) (.int i) μ R := ⟨xs, d, rfl, h, k⟩
theorem ix_tup {μ : Mu} {xs : List D} {i : Int} {d : D} {R : DK} (h : atI xs i = some d) (k : R d μ) : gIx (.tup xs) (.int i) μ R := ⟨xs, d, rfl, h, k⟩
theorem set_ref {μ : Mu} {b : Addr} {xs : List D} {i : Int} {j : Nat} {v : D} {R : Mu → Prop} (e : μ b = some (.lst xs)) (h : ixN xs.length i = some j) (k : R (mset μ b (.lst (xs.set j v)))) : gSetL (.ref b) (.int i) v μ R := ⟨b, xs, i, j, rfl, rfl, e, h, k⟩
theorem atI_of {α : Type} {xs : List α} {i : Int} {d : α} (h0 : 0 ≤ i) (h : xs[i.toNat]? = some d) : atI xs i = some d := by
  have hl : i.toNat < xs.length := (List.getElem?_eq_some_iff.mp h).1
  unfold atI ixN
  rw [if_pos h0, if_pos (by omega)]
  exact h
theorem endsOf_rt {R : DK} : (endsOf R).rt = fun d μ => fin R d μ := rfl
theorem endsOf_nx {R : DK} : (endsOf R).nx = fun _ μ => fin R .non μ := rfl
theorem gAdd_ii {i j : Int} {μ : Mu} {R : DK} : gAdd (.int i) (.int j) μ R = R (.int (i + j)) μ := rfl
theorem gAdd_ss {i j : Str} {μ : Mu} {R : DK} : gAdd (.str i) (.str j) μ R = (i.length + j.length ≤ sizeLine ∧ R (.str (i ++ j)) μ) := rfl
theorem gAdd_ll {i j : List D} {μ : Mu} {R : DK} (hz : i.length + j.length ≤ sizeLine) (h : R (.lst (i ++ j)) μ) : gAdd (.lst i) (.lst j) μ R := ⟨i, j, rfl, rfl, hz, h⟩
theorem gNeg_i {i : Int} {μ : Mu} {R : DK} : gNeg (.int i) μ R = R (.int (-i)) μ := rfl
theorem gMax2_ii {i j : Int} {μ : Mu} {R : DK} : gMax2 [.int i, .int j] μ R = R (.int (max i j)) μ := rfl
theorem gMin2_ii {i j : Int} {μ : Mu} {R : DK} : gMin2 [.int i, .int j] μ R = R (.int (min i j)) μ := rfl
theorem gLen_s {z : Str} {μ : Mu} {R : DK} : gLen [.str z] μ R = (z.length ≤ sizeLine ∧ R (.int z.length) μ) := rfl
theorem gLen_of {x : D} {xs : List D} {μ : Mu} {R : DK} (e : seqOf μ x = some xs) (h : R (.int xs.length) μ) : gLen [x] μ R := by
  cases x with
  | str z => cases e
  | _ => exact ⟨xs, e, h⟩
theorem gIsi_of {x : D} {n m : String} {b : Bool} {μ : Mu} {R : DK} (e : tyD μ x = some n) (k : kitB n m = some b) (h : R (.bl b) μ) : gIsi [x, .ty m] μ R := ⟨n, b, e, k, h⟩
theorem gEqS_ii {i j : Int} {μ : Mu} {R : DK} : gEqS (.int i) (.int j) μ R = R (.bl (decide (i = j))) μ := rfl
theorem gEqS_ss {i j : Str} {μ : Mu} {R : DK} : gEqS (.str i) (.str j) μ R = R (.bl (decide (i = j))) μ := rfl
theorem gEqS_bb {i j : Bool} {μ : Mu} {R : DK} : gEqS (.bl i) (.bl j) μ R = R (.bl (decide (i = j))) μ := rfl
theorem gNeS_ii {i j : Int} {μ : Mu} {R : DK} : gNeS (.int i) (.int j) μ R = R (.bl (!decide (i = j))) μ := rfl
theorem gNeS_ss {i j : Str} {μ : Mu} {R : DK} : gNeS (.str i) (.str j) μ R = R (.bl (!decide (i = j))) μ := rfl
theorem gIsN_n {x : D} {μ : Mu} {R : DK} : gIsN x .non μ R = R (.bl (isNonD x)) μ := rfl
theorem gNotN_n {x : D} {μ : Mu} {R : DK} : gNotN x .non μ R = R (.bl (!isNonD x)) μ := rfl
theorem gSl_s {z : Str} {lo hi : Option Int} {μ : Mu} {R : DK} : gSl (.str z) lo hi μ R = (z.length ≤ sizeLine ∧ R (.str (cutS z lo hi)) μ) := rfl
theorem gIx_s {z : Str} {i : Int} {μ : Mu} {R : DK} {c : Nat} (hz : z.length ≤ sizeLine) (h : atI z.cps.toList i = some c) (k : R (.str ⟨#[c]⟩) μ) : gIx (.str z) (.int i) μ R := ⟨c, hz, h, k⟩
/-! ### the law is entered with the script -/
theorem rps_ints {K : PySem.W.Frag} {F : Addr → Prop} {H : Hp} : ∀ ns : List Int, Rps K F H (ns.map D.int) (ns.map V.int)
  | [] => .nil
  | n :: r => .cons (.int n) (rps_ints r)
theorem enter_scr {K : PySem.W.Frag} {H : Hp} {a : Addr} {ns : List Int} {sp : Sp3} (hS : SqL K H a (ns.map V.int)) (h : sp [.scr (ns.map D.int)] (fun _ => none) (fun d _ => d = .bl true)) : lift K 1 sp [.ref a] H (fun v _ => v = .bl true) fun _ _ _ => False := by
  refine ⟨fun x => x = a ∧ Rd H a (.lst (ns.map V.int)), [.scr (ns.map D.int)], fun _ => none, fun d _ => d = .bl true, rfl, ⟨fun x f => ?_, fun x o e => (by cases e)⟩, .cons (.scr ?_ (rps_ints ns)) .nil, h, fun F' v H' d μ' _ r e => ?_⟩
  · obtain ⟨rfl, f | ⟨o, f⟩⟩ := f
    · exact ⟨_, f⟩
    · exact ⟨_, f⟩
  · rcases hS with r | r
    · exact .inl ⟨⟨rfl, r⟩, r⟩
    · exact .inr r
  · subst e
    cases r
    rfl
/-! ### isinstance by the written types -/
theorem kb_NoneType_int : kitB "NoneType" "int" = some false := by decide +kernel
theorem kb_NoneType_bool : kitB "NoneType" "bool" = some false := by decide +kernel
theorem kb_NoneType_str : kitB "NoneType" "str" = some false := by decide +kernel
theorem kb_NoneType_list : kitB "NoneType" "list" = some false := by decide +kernel
theorem kb_NoneType_tuple : kitB "NoneType" "tuple" = some false := by decide +kernel
theorem kb_NoneType_dict : kitB "NoneType" "dict" = some false := by decide +kernel
theorem kb_bool_int : kitB "bool" "int" = some true := by decide +kernel
theorem kb_bool_bool : kitB "bool" "bool" = some true := by decide +kernel
theorem kb_bool_str : kitB "bool" "str" = some false := by decide +kernel
theorem kb_bool_list : kitB "bool" "list" = some false := by decide +kernel
theorem kb_bool_tuple : kitB "bool" "tuple" = some false := by decide +kernel
theorem kb_bool_dict : kitB "bool" "dict" = some false := by decide +kernel
theorem kb_int_int : kitB "int" "int" = some true := by decide +kernel
theorem kb_int_bool : kitB "int" "bool" = some false := by decide +kernel
theorem kb_int_str : kitB "int" "str" = some false := by decide +kernel
theorem kb_int_list : kitB "int" "list" = some false := by decide +kernel
theorem kb_int_tuple : kitB "int" "tuple" = some false := by decide +kernel
theorem kb_int_dict : kitB "int" "dict" = some false := by decide +kernel
theorem kb_str_int : kitB "str" "int" = some false := by decide +kernel
theorem kb_str_bool : kitB "str" "bool" = some false := by decide +kernel
theorem kb_str_str : kitB "str" "str" = some true := by decide +kernel
theorem kb_str_list : kitB "str" "list" = some false := by decide +kernel
theorem kb_str_tuple : kitB "str" "tuple" = some false := by decide +kernel
theorem kb_str_dict : kitB "str" "dict" = some false := by decide +kernel
theorem kb_tuple_int : kitB "tuple" "int" = some false := by decide +kernel
theorem kb_tuple_bool : kitB "tuple" "bool" = some false := by decide +kernel
theorem kb_tuple_str : kitB "tuple" "str" = some false := by decide +kernel
theorem kb_tuple_list : kitB "tuple" "list" = some false := by decide +kernel
theorem kb_tuple_tuple : kitB "tuple" "tuple" = some true := by decide +kernel
theorem kb_tuple_dict : kitB "tuple" "dict" = some false := by decide +kernel
theorem kb_list_int : kitB "list" "int" = some false := by decide +kernel
theorem kb_list_bool : kitB "list" "bool" = some false := by decide +kernel
theorem kb_list_str : kitB "list" "str" = some false := by decide +kernel
theorem kb_list_list : kitB "list" "list" = some true := by decide +kernel
theorem kb_list_tuple : kitB "list" "tuple" = some false := by decide +kernel
theorem kb_list_dict : kitB "list" "dict" = some false := by decide +kernel
theorem kb_dict_int : kitB "dict" "int" = some false := by decide +kernel
theorem kb_dict_bool : kitB "dict" "bool" = some false := by decide +kernel
theorem kb_dict_str : kitB "dict" "str" = some false := by decide +kernel
theorem kb_dict_list : kitB "dict" "list" = some false := by decide +kernel
theorem kb_dict_tuple : kitB "dict" "tuple" = some false := by decide +kernel
theorem kb_dict_dict : kitB "dict" "dict" = some true := by decide +kernel
end L3

namespace L3
open PySem PySem.Spec PyProof.Rows L2
/-! ### a def's promise where no repr is under way -/
structure RoomG (k : Nat) (A : Around) : Prop where
  rm : Room k A
  gd : A.guards = some []
theorem RoomG.mono {j k : Nat} {A : Around} (r : RoomG k A) (h : j ≤ k) : RoomG j A := ⟨r.rm.mono h, r.gd⟩
structure FnG (P : Program) (w : World) (K : PySem.W.Frag) (mg : Str → Option Value) (base : Heap) (X0 : CXT) (k : Nat) (f : Addr) (fd : FuncData) (ps : List Str) (sp : Sp) : Prop where
  wide : ∀ xs H Q E, sp xs H Q E → xs.length = ps.length
  go : ∀ (A : Around) (fs : List Env) (s : Shared) (H : Hp) (args : Args) (us : List Value) (xs : List V) (Q : VK) (E : XK), RoomG k A → Env0 P w K mg base A fs s H → BindsTo s fd args (ps.zip us) →
    Vals xs us → sp xs H Q E → codeAny (model P w) A (.call (.ref f) args) (CR X0 fs P w H s Q E) s
theorem FnG.mono {P : Program} {w : World} {K : PySem.W.Frag} {mg : Str → Option Value} {base : Heap} {X0 : CXT} {j k : Nat} {f : Addr} {fd : FuncData} {ps : List Str} {sp : Sp} (F : FnG P w K mg base X0 j f fd ps sp) (h : j ≤ k) : FnG P w K mg base X0 k f fd ps sp :=
  ⟨F.wide, fun A fs s H args us xs Q E r => F.go A fs s H args us xs Q E (r.mono h)⟩
/-- by the body -/
theorem fng_of {X0 : CXT} {P : Program} {w : World} {K : PySem.W.Frag} {mg : Str → Option Value} {base : Heap} {k : Nat} {f : Addr} {nm qual : Str} {pr : Arguments} {bd : List Stmt} {sc : Scope} {d1 d2 d3 d4 cdv ct oc : Value} {an od : Option Addr}
    {osl : Array (Option Value)} {N ps : List Str} {sp : Sp} (lk : K.lookup f = some ⟨oc, od, .func (PySem.W.fnOf nm qual pr bd sc d1 d2 d3 d4 an cdv ct), osl⟩) (cd : PySem.W.codeIn K cdv qual = true) (S : FnScope N ps sc)
    (wide : ∀ xs H Q E, sp xs H Q E → xs.length = ps.length)
    (hb : ∀ (A : Around) (fs : List Env) (s : Shared) (H : Hp) (xs : List V) (Q : VK) (E : XK), RoomG k (A.deeper (envOfC qual sc s.heap.objs.size f cdv)) → sp xs H Q E →
      ∃ t, PSs (cxOf X0 P w K mg base N qual sc f cdv A fs s H E) bd t ∧ t { nx := fun _ H1 => Q .non H1, rt := Q } (start N xs) H) :
    FnG P w K mg base X0 (k + 1) f (PySem.W.fnOf nm qual pr bd sc d1 d2 d3 d4 an cdv ct) ps sp := by
  refine ⟨wide, fun A fs s H args us xs Q E room e0 hbind rv hsp => ?_⟩
  have kept : ∀ b o, base.get? b = some o → s.heap.get? b = some o := fun b o e => (e0.bs b o e).1
  have KX : K.In s.heap := e0.mod.kin.keeps kept
  have noLim : s.heap.NoLimit := e0.mod.nolimit.keeps kept
  refine codeAny_call_function room.rm.depth (KX _ _ lk) rfl S.co S.gen rfl (PySem.W.codeRec_of KX cd) (hbind _ _ _ _ ?_)
  refine wpAny_newFunctionEnv_cells S.kind (fun y hy => ?_) fun env he s1 x => ?_
  · rcases S.par y.1 (List.of_mem_zip (show (y.1, y.2) ∈ _ from hy)).1 with q | q
    · exact .inl q
    · exact .inr ⟨q, PySem.W.cellsFrom_some _ _ _ (.inl q)⟩
  subst he
  refine ⟨noLim.keeps x.toInCall.keep, codeAny_func ?_⟩
  obtain ⟨t, ht, hq⟩ := hb A fs s H xs Q E ⟨room.rm.deeper _, room.gd⟩ hsp
  have I0 := inv_start (CX := X0) (E := E) S room.rm.hd e0 (wide _ _ _ _ hsp) rv x
  refine wpAny_mono (ht.run [] s1 (start N xs) H _ I0 hq) (fun fl s2 hs => ?_) fun _ _ hs => hs
  cases fl with
  | ret u => obtain ⟨v, σ2, H2, J, r2, q⟩ := hs; exact ⟨v, H2, J.os, J.bare, J.base, J.hok, r2, q⟩
  | next => obtain ⟨σ2, H2, J, q⟩ := hs; exact ⟨.non, H2, J.os, J.bare, J.base, J.hok, rfl, q⟩
  | brk => obtain ⟨_, _, _, q⟩ := hs; exact False.elim q
  | cont => obtain ⟨_, _, _, q⟩ := hs; exact False.elim q
section
variable {X : Cx} {X0 : CXT} {k : Nat} {f C : Addr} {fd : FuncData} {ps : List Str} {sp : Sp} {E : XK}
/-- the callee runs -/
theorem run_g {pins : List (Addr × Obj)} {σ : L2.St} {H : Hp} {s : Shared} {Q : VK} {us as : List Value} {kw : List (Str × Value)} {xs : List V} (F : FnG X.prog X.w X.K X.mg X.base X0 k f fd ps sp) (hr : RoomG k X.A) (hx : Passes X0 X E)
    (I : Inv X pins σ H s) (hb : BindsTo s fd ⟨as, kw⟩ (ps.zip us)) (rv : Vals xs us) (h : sp xs H Q E) : wpAny (model X.prog X.w) X.A (call (.ref f) as kw) (EP X pins σ Q) X.xe s := by
  refine wpAny_call (codeAny_mono (F.go X.A X.stack s H _ us xs Q E hr I.env0 hb rv h) fun res s2 hq => ?_)
  match res, hq with
  | .error er, hq => exact hx pins σ H s er s2 I hq
  | .ok (.ret u), hq => exact I.after hq
/-- a new object, then __init__ -/
theorem run_gmake {pins : List (Addr × Obj)} {σ : L2.St} {H : Hp} {s : Shared} {Q : VK} {as : List Value} {kw : List (Str × Value)} (M : Mk X.K C f) (F : FnG X.prog X.w X.K X.mg X.base X0 k f fd ps sp) (hr : RoomG (k + 1) X.A) (hx : Passes X0 X E)
    (I : Inv X pins σ H s)
    (h : ∀ x dx, H x = none → H dx = none → dx ≠ x → ∃ us xs, (∀ s1 : Shared, X.K.In s1.heap → BindsTo s1 fd ⟨.ref x :: as, kw⟩ (ps.zip us)) ∧ Vals xs us ∧ sp xs (upd (upd H dx (.own x)) x (.ins C dx [])) (fun v H2 => v = .non ∧ Q (.ref x) H2) E) :
    wpAny (model X.prog X.w) X.A (call (.ref C) as kw) (EP X pins σ Q) X.xe s := by
  obtain ⟨us, xs, hb, rv, hq⟩ := h (s.heap.objs.size + 1) s.heap.objs.size (I.hok.fresh (Nat.le_succ _)) (I.hok.fresh (Nat.le_refl _)) (Nat.ne_of_lt (Nat.lt_succ_self _))
  have J := Inv.made (C := C) I
  have gd : (X.A.under (.builtin "type.__call__" ⟨.ref C :: as, kw⟩)).guards = some [] := by
    have : (X.A.under (.builtin "type.__call__" ⟨.ref C :: as, kw⟩)).guards = X.A.guards := by
      first | rfl | simp [Around.under, Code.guards, Code.isGuard, guardIds, pushGuards]
    rw [this]; exact hr.gd
  refine wpAny_call (make_map (f := f) I.kIn M.makes M.init (beq_iff_eq.mp M.fn) (codeAny_mono (F.go _ X.stack _ _ _ us xs _ E ⟨hr.rm.make C as kw, gd⟩ (J.env0.make C as kw) (hb _ J.kIn) rv hq) fun res s2 hq2 => ?_))
  match res, hq2 with
  | .error er, hq2 => exact hx pins σ _ _ er s2 J hq2
  | .ok (.ret u), hq2 =>
    obtain ⟨v, H2, J2, r2, e2, q2⟩ := J.after hq2
    subst e2
    exact ⟨r2, .ref (s.heap.objs.size + 1), H2, J2, rfl, q2⟩
end
end L3

namespace L3
open PySem PySem.Spec PyProof.Rows L2
/-- what is known of the heap behind the top, beyond Mod -/
structure BaseX (base : Heap) : Prop where
  nd : ∃ mc, base.Ns cStatics mc ∧ mc "sys.int_max_str_digits" = none
/-- the script is seen, frozen, unless the written part holds it -/
def scrH (K : PySem.W.Frag) (a : Addr) (us : List Value) (ns : List Int) : Hp := fun b => if b = a ∧ K.lookup a = none then some (.frz { cls := .type "list", data := .seq us.toArray } (.lst (ns.map V.int))) else none
theorem scrH_some {K : PySem.W.Frag} {a b : Addr} {us : List Value} {ns : List Int} {u : HO} (h : scrH K a us ns b = some u) : b = a ∧ K.lookup a = none ∧ u = .frz { cls := .type "list", data := .seq us.toArray } (.lst (ns.map V.int)) := by
  unfold scrH at h
  split at h
  · rename_i c
    cases h
    exact ⟨c.1, c.2, rfl⟩
  · cases h
theorem scrH_none {K : PySem.W.Frag} {a b : Addr} {us : List Value} {ns : List Int} (h : ¬ (b = a ∧ K.lookup a = none)) : scrH K a us ns b = none := if_neg h
theorem enter_law {P : Program} {w : World} {K : PySem.W.Frag} {mg mb : Str → Option Value} {X0 : CXT} {k : Nat} {fa a : Addr} {fd : FuncData} {x : Str} {sp : Sp} {s1 : Shared} {us : List Value} {ns : List Int}
    (KX : K.In s1.heap) (h1 : s1.heap.Ns mainGlobals mg) (h2 : s1.heap.Ns builtinsNs mb) (h3 : ∀ x : Str, x ≠ "__name__" → mb x = bootBuiltins x) (h4 : s1.heap.NoLimit) (h5 : ∃ mc, s1.heap.Ns cStatics mc ∧ mc "sys.int_max_str_digits" = none) (hg : s1.gens = #[])
    (ha : s1.heap.get? a = some { cls := .type "list", data := .seq us.toArray }) (hi : IntsAre us ns) (hl : ns.length ≤ sizeLine) (hr : RoomG k callerA)
    (F : ∀ base : Heap, K.In base → base.Ns mainGlobals mg → BaseX base → FnG P w K mg base X0 k fa fd [x] sp) (hbind : ∀ (s : Shared) (u : Value), BindsTo s fd ⟨[u], []⟩ [(x, u)])
    (hsp : ∀ H : Hp, SqL K H a (ns.map V.int) → sp [.ref a] H (fun v _ => v = .bl true) fun _ _ _ => False)
    (hX0 : ∀ H e s2, X0 [] H s1 (fun _ _ _ => False) e s2 → False) :
    codeAny (model P w) callerA (.call (.ref fa) ⟨[.ref a], []⟩) (fun r s2 => r = .ok (.ret (.bool true)) ∧ OldK s1.heap s2.heap ∧ s2.os = s1.os ∧ AllBare s2.gens) s1 := by
  have rv := vals_ints hi
  have lz : us.length = ns.length := by rw [← rv.length, List.length_map]
  generalize eH : scrH K a us ns = H
  have look : ∀ {b u}, H b = some u → b = a ∧ K.lookup a = none ∧ u = .frz { cls := .type "list", data := .seq us.toArray } (.lst (ns.map V.int)) := fun h => scrH_some (eH ▸ h)
  have sq : SqL K H a (ns.map V.int) := by
    cases hk : K.lookup a with
    | some o =>
      have e := KX a o hk
      rw [ha] at e
      cases e
      exact .inr ⟨_, us.toArray, _, hk, rfl, rfl, rfl, by rw [List.size_toArray, lz]; exact hl, by simpa using rv⟩
    | none =>
      refine .inl (.inr ⟨{ cls := .type "list", data := .seq us.toArray }, ?_⟩)
      rw [← eH]
      exact if_pos ⟨rfl, hk⟩
  have ok : HOk P w H s1.heap := fun b u h => by
    obtain ⟨rfl, _, rfl⟩ := look h
    exact ⟨ha, by rw [List.length_map]; exact hl, us, _, rv, ha⟩
  -- an object that is no list of this form stays in sight
  have seen : ∀ {b : Addr} {o : Obj}, s1.heap.get? b = some o → (b = a → K.lookup a ≠ none) → (hidT s1.heap H).get? b = some o := fun {b o} e n => hidT_get e (by
    rw [← eH]
    exact scrH_none fun ⟨z1, z2⟩ => n z1 z2)
  have dict : ∀ {b : Addr} {m : Str → Option Value}, s1.heap.Ns b m → (hidT s1.heap H).Ns b m := fun {b m} ⟨o, es, ep, e, dd, rest⟩ => ⟨o, es, ep, seen e (fun z => by
    subst z
    rw [ha] at e
    cases e
    cases (show Data.seq us.toArray _ = Data.dict es ep from dd)), dd, rest⟩
  have KB : K.In (hidT s1.heap H) := fun b o e => seen (KX b o e) fun z n => by rw [z, n] at e; cases e
  have e0 : Env0 P w K mg (hidT s1.heap H) callerA [] s1 H :=
    ⟨rfl, ⟨KB, dict h1, ⟨mb, dict h2, h3⟩, let ⟨mc, q1, q2⟩ := h4; ⟨mc, dict q1, q2⟩⟩, fun b o e => of_hidT e, Nat.le_of_eq (hidT_size _ _), trivial, fun b hb => absurd (show b ∈ ([] : List Addr) from hb) (by simp), ok, .of_eq hg⟩
  have BX : BaseX (hidT s1.heap H) := ⟨let ⟨mc, q1, q2⟩ := h5; ⟨mc, dict q1, q2⟩⟩
  refine codeAny_mono ((F _ KB (dict h1) BX).go callerA [] s1 H _ [.ref a] [.ref a] _ _ hr e0 (hbind s1 (.ref a)) (.cons rfl .nil) (hsp H sq)) fun res s2 h => ?_
  match res, h with
  | .error er, h => exact (hX0 H er s2 h).elim
  | .ok (.ret u), h =>
    obtain ⟨v, H2, os, bare, un, ok2, r2, q⟩ := h
    obtain rfl : v = .bl true := q
    obtain rfl : u = Value.bool true := r2
    refine ⟨rfl, OldK.of_keep fun b o e => ?_, os, bare⟩
    cases q : H b with
    | none => exact un.keep b o e q (by intro z; exact absurd (show b ∈ ([] : List Addr) from z) (by simp)) (by simp)
    | some u =>
      obtain ⟨rfl, _, rfl⟩ := look q
      have e2 := (ok2 _ _ (un.frzs _ _ _ q)).1
      rw [ha] at e
      cases e
      exact e2
/-- the goal that k_head leaves -/
theorem walkG {l : PySem.W.OpenLaw} {n k : Nat} {q : Program} {loose : List Str} {XP : (Str → Option Value) → Heap → Prop} {YP : World → Heap → Prop} {d : DefRec} {K : Params → PySem.W.Frag} {X0 : World → CXT} {sp : World → Sp} {x : Str}
    (hn : l.most = some n) (hn2 : n ≤ sizeLine) (hdf : d.params.defaults = []) (hr : Room k callerA) (hY : ∀ (w : World) (h : Heap), YP w h → (K w.params).In h)
    (F : ∀ (w : World) (mg : Str → Option Value) (fa : Addr) (h : Heap), (K w.params).In h → h.Ns mainGlobals mg → mg d.name = some (.ref fa) →
      ∃ fd : FuncData, (∀ (s : Shared) (u : Value), BindsTo s fd ⟨[u], []⟩ [(x, u)]) ∧ ∀ base : Heap, (K w.params).In base → base.Ns mainGlobals mg → BaseX base → FnG l.prog w (K w.params) mg base (X0 w) k fa fd [x] (sp w))
    (hsp : ∀ (w : World) (H : Hp) (a : Addr) (ns : List Int), ns.length ≤ n → SqL (K w.params) H a (ns.map V.int) → sp w [.ref a] H (fun v _ => v = .bl true) fun _ _ _ => False)
    (hX0 : ∀ (w : World) (H : Hp) (s : Shared) (e : Value) (s2 : Shared), X0 w [] H s (fun _ _ _ => False) e s2 → False) :
    PySem.W.WalkO q loose XP YP l.row.toRowW d [] (fun f vs => PySem.call f vs) := by
  refine Att.attach_call hn hdf fun w s0 s1 mg mb fa o pm cd doc a us ns G Y ho hd hcd hmg hobj hints hlen hg => ?_
  obtain ⟨fd, hb, hF⟩ := F w mg fa _ (hY w _ Y) G.T.g hmg
  exact enter_law (hY w _ Y) G.T.g G.T.b G.T.builtins G.T.nolimit G.T.nodigits hg hobj hints (Nat.le_trans hlen hn2) ⟨hr, rfl⟩ hF hb (fun H hS => hsp w H a ns hlen hS) fun H e s2 => hX0 w H s1 e s2
/-! ### a def of the text -/
section
variable {P : Program} {w : World} {K : PySem.W.Frag} {mg : Str → Option Value} {base : Heap}
/-- a def or method as it stands behind the top; dfl: the defaults, kwd: those of the keyword-only ones -/
structure Def3 (K : PySem.W.Frag) (x qual : Str) (st : Stmt) (dfl : List V) (kwd : List (Str × V)) (f : Addr) (fd : FuncData) : Prop where
  ex : ∃ (oc : Value) (od : Option Addr) (dV kV doc pm : Value) (an : Option Addr) (cdv ct : Value) (osl : Array (Option Value)),
    fd = PySem.W.fnOf x qual (defArgs st) (defBody st) (defScope st) dV kV doc pm an cdv ct ∧ K.lookup f = some ⟨oc, od, .func fd, osl⟩ ∧ PySem.W.codeIn K cdv qual = true ∧ DflV K dV dfl ∧ KwdV K kV kwd
  kp : PySem.W.keepIn K (.ref f) = true
theorem Def3.ok3 {x qual : Str} {st : Stmt} {dfl : List V} {kwd : List (Str × V)} {f : Addr} {fd : FuncData} {N ps : List Str} {k : Nat} {sp : Sp3} (F : Def3 K x qual st dfl kwd f fd) (S : FnScope N ps (defScope st))
    (hb : ∀ (cdv : Value) (A : Around) (fs : List Env) (s : Shared) (H : Hp) (E : XK), RoomG k (A.deeper (envOfC qual (defScope st) s.heap.objs.size f cdv)) →
      ∃ t, Ss3 (cxOf CX0 P w K mg base N qual (defScope st) f cdv A fs s H E).nox (defBody st) t ∧ ∀ ds μ R, ds.length = ps.length → sp ds μ R → t (endsOf R) (start3 N ds) μ) : FnG P w K mg base CX0 (k + 1) f fd ps (lift K ps.length sp) := by
  obtain ⟨oc, od, dV, kV, doc, pm, an, cdv, ct, osl, rfl, lk, cd, _⟩ := F.ex
  refine fng_of lk cd S (fun _ _ _ _ h => lift_len h) fun A fs s H xs Q E hr h => ?_
  obtain ⟨F', ds, μ, R, l, sm, r, hsp, kk⟩ := h
  obtain ⟨t, h1, h2⟩ := hb cdv A fs s H E hr
  exact ⟨_, PSs.nox h1, F', _, μ, _, sm, Sl.start r, h2 ds μ R l hsp, fin_ends kk⟩
/-- where a parameter's value comes from: the values, the keywords, the defaults -/
inductive Src where
  | pos (i : Nat) | kw (i : Nat) | dfl (i : Nat)
def pick {α : Type} (z : α) (us ws ds : List α) : Src → α
  | .pos i => us.getD i z
  | .kw i => ws.getD i z
  | .dfl i => ds.getD i z
def picks {α : Type} (z : α) (os : List Src) (us ws ds : List α) : List α := os.map (pick z us ws ds)
/-- how n values and the keywords ks are bound -/
structure Bd3 (K : PySem.W.Frag) (fd : FuncData) (ps : List Str) (n : Nat) (ks : List Str) (os : List Src) (dfl : List V) : Prop where
  len : os.length = ps.length
  to : ∃ ds : List Value, Vals dfl ds ∧ ∀ (s : Shared) (us ws : List Value), K.In s.heap → us.length = n → ws.length = ks.length → BindsTo s fd ⟨us, ks.zip ws⟩ (ps.zip (picks .none os us ws ds))
variable {x qual : Str} {st : Stmt} {f : Addr} {fd : FuncData} {ps : List Str} {dfl : List V} {kwd : List (Str × V)}
/-- no defaults -/
theorem Def3.bind0 (F : Def3 K x qual st [] kwd f fd) (n : Nat) (ks : List Str) (os : List Src) (hl : os.length = ps.length)
    (h : ∀ (kV doc pm : Value) (an : Option Addr) (cdv ct : Value) (us ws : List Value), us.length = n → ws.length = ks.length → bindArgs (PySem.W.fnOf x qual (defArgs st) (defBody st) (defScope st) .none kV doc pm an cdv ct) ⟨us, ks.zip ws⟩ = pure (ps.zip (picks .none os us ws []))) :
    Bd3 K fd ps n ks os [] := by
  obtain ⟨oc, od, dV, kV, doc, pm, an, cdv, ct, osl, rfl, lk, cd, hD, hK⟩ := F.ex
  rcases hD with ⟨_, rfl⟩ | ⟨e, _⟩
  · exact ⟨hl, [], .nil, fun s us ws X l1 l2 => .of_eq (h kV doc pm an cdv ct us ws l1 l2)⟩
  · exact absurd rfl e
/-- with defaults -/
theorem Def3.bindD (F : Def3 K x qual st dfl kwd f fd) (hd : dfl ≠ []) (n : Nat) (ks : List Str) (os : List Src) (hl : os.length = ps.length)
    (h : ∀ (T : Addr) (kV doc pm : Value) (an : Option Addr) (cdv ct : Value) (us ws ds : List Value), us.length = n → ws.length = ks.length → ds.length = dfl.length →
      ∃ k, bindArgs (PySem.W.fnOf x qual (defArgs st) (defBody st) (defScope st) (.ref T) kV doc pm an cdv ct) ⟨us, ks.zip ws⟩ = seqItems? (.ref T) >>= k ∧ k (some ds.toArray) = pure (ps.zip (picks .none os us ws ds))) :
    Bd3 K fd ps n ks os dfl := by
  obtain ⟨oc, od, dV, kV, doc, pm, an, cdv, ct, osl, rfl, lk, cd, hD, hK⟩ := F.ex
  rcases hD with ⟨e, _⟩ | ⟨_, T, o, its, m, rfl, lT, oT, rT⟩
  · exact absurd e hd
  · refine ⟨hl, its, rT, fun s us ws X l1 l2 => ?_⟩
    obtain ⟨kk, e1, e2⟩ := h T kV doc pm an cdv ct us ws its l1 l2 rT.length.symm
    refine BindsTo.of_looks fun M => ?_
    rw [e1]
    exact looks_items X lT oT (.of_pure e2)
/-- keyword-only defaults alone; ms: those that lack -/
theorem Def3.bindK (F : Def3 K x qual st [] kwd f fd) (hk : kwd ≠ []) (ms : List (Str × V)) (hms : ∀ q ∈ ms, q ∈ kwd) (n : Nat) (ks : List Str) (os : List Src) (hl : os.length = ps.length)
    (h : ∀ (D : Addr) (doc pm : Value) (an : Option Addr) (cdv ct : Value) (us ws mv : List Value), us.length = n → ws.length = ks.length → mv.length = ms.length →
      KwChain D ((ms.map (·.1)).zip mv) (bindArgs (PySem.W.fnOf x qual (defArgs st) (defBody st) (defScope st) .none (.ref D) doc pm an cdv ct) ⟨us, ks.zip ws⟩) (ps.zip (picks .none os us ws mv))) :
    Bd3 K fd ps n ks os (ms.map (·.2)) := by
  obtain ⟨oc, od, dV, kV, doc, pm, an, cdv, ct, osl, rfl, lk, cd, hD, hK⟩ := F.ex
  rcases hD with ⟨_, rfl⟩ | ⟨e, _⟩
  · rcases hK with e | ⟨D, rfl, hq⟩
    · exact absurd e hk
    · obtain ⟨mv, l3, rk, hks⟩ := kwd_vals (ms := ms) fun q hm => hq q (hms q hm)
      exact ⟨hl, mv, rk, fun s us ws X l1 l2 => BindsTo.of_looks fun M => KwChain.looks X hks (h D doc pm an cdv ct us ws mv l1 l2 l3)⟩
  · exact absurd rfl e
/-- both kinds -/
theorem Def3.bindB (F : Def3 K x qual st dfl kwd f fd) (hd : dfl ≠ []) (hk : kwd ≠ []) (ms : List (Str × V)) (hms : ∀ q ∈ ms, q ∈ kwd) (n : Nat) (ks : List Str) (os : List Src) (hl : os.length = ps.length)
    (h : ∀ (T D : Addr) (doc pm : Value) (an : Option Addr) (cdv ct : Value) (us ws ds mv : List Value), us.length = n → ws.length = ks.length → ds.length = dfl.length → mv.length = ms.length →
      ∃ k, bindArgs (PySem.W.fnOf x qual (defArgs st) (defBody st) (defScope st) (.ref T) (.ref D) doc pm an cdv ct) ⟨us, ks.zip ws⟩ = seqItems? (.ref T) >>= k ∧ KwChain D ((ms.map (·.1)).zip mv) (k (some ds.toArray)) (ps.zip (picks .none os us ws (ds ++ mv)))) :
    Bd3 K fd ps n ks os (dfl ++ ms.map (·.2)) := by
  obtain ⟨oc, od, dV, kV, doc, pm, an, cdv, ct, osl, rfl, lk, cd, hD, hK⟩ := F.ex
  rcases hD with ⟨e, _⟩ | ⟨_, T, o, its, m, rfl, lT, oT, rT⟩
  · exact absurd e hd
  · rcases hK with e | ⟨D, rfl, hq⟩
    · exact absurd e hk
    · obtain ⟨mv, l3, rk, hks⟩ := kwd_vals (ms := ms) fun q hm => hq q (hms q hm)
      refine ⟨hl, its ++ mv, rT.append rk, fun s us ws X l1 l2 => ?_⟩
      obtain ⟨kk, e1, e2⟩ := h T D doc pm an cdv ct us ws its mv l1 l2 rT.length.symm l3
      refine BindsTo.of_looks fun M => ?_
      rw [e1]
      exact looks_items X lT oT (KwChain.looks X hks e2)
end
/-! ### the relations of what is picked -/
section
variable {K : PySem.W.Frag} {F : Addr → Prop} {H : Hp}
theorem vals_getD {vs : List V} {us : List Value} (r : Vals vs us) (i : Nat) : RelV (vs.getD i .non) (us.getD i .none) := by
  rw [List.getD_eq_getElem?_getD, List.getD_eq_getElem?_getD]
  cases e : vs[i]? with
  | some v =>
    obtain ⟨u, e1, r1⟩ := r.get e
    rw [e1]
    exact r1
  | none =>
    have : us[i]? = none := by
      rw [List.getElem?_eq_none_iff] at e ⊢
      rw [← r.length]
      exact e
    rw [this]
    rfl
theorem vals_picks {vs zs dv : List V} {us ws ds : List Value} (r1 : Vals vs us) (r2 : Vals zs ws) (r3 : Vals dv ds) : ∀ os : List Src, Vals (picks .non os vs zs dv) (picks .none os us ws ds)
  | [] => .nil
  | o :: os => by
    refine .cons ?_ (vals_picks r1 r2 r3 os)
    cases o with
    | pos i => exact vals_getD r1 i
    | kw i => exact vals_getD r2 i
    | dfl i => exact vals_getD r3 i
theorem rps_getD {ds : List D} {vs : List V} (r : Rps K F H ds vs) (i : Nat) : Rp K F H (ds.getD i .non) (vs.getD i .non) := by
  rw [List.getD_eq_getElem?_getD, List.getD_eq_getElem?_getD]
  cases e : ds[i]? with
  | some d =>
    obtain ⟨v, e1, r1⟩ := r.get e
    rw [e1]
    exact r1
  | none =>
    have : vs[i]? = none := by
      rw [List.getElem?_eq_none_iff] at e ⊢
      rw [← r.length]
      exact e
    rw [this]
    exact .non
theorem rps_picks {ds zs fs : List D} {vs us ws : List V} (r1 : Rps K F H ds vs) (r2 : Rps K F H zs us) (r3 : Rps K F H fs ws) : ∀ os : List Src, Rps K F H (picks .non os ds zs fs) (picks .non os vs us ws)
  | [] => .nil
  | o :: os => by
    refine .cons ?_ (rps_picks r1 r2 r3 os)
    cases o with
    | pos i => exact rps_getD r1 i
    | kw i => exact rps_getD r2 i
    | dfl i => exact rps_getD r3 i
end
/-- defaults: flat things -/
def flV : D → V
  | .bl b => .bl b
  | .int i => .int i
  | .str x => .str x
  | _ => .non
theorem flV_ok {K : PySem.W.Frag} {F : Addr → Prop} {H : Hp} : ∀ {ds : List D}, ds.all flatD = true → Rps K F H ds (ds.map flV)
  | [], _ => .nil
  | d :: ds, h => by
    rw [List.all_cons, Bool.and_eq_true] at h
    refine .cons ?_ (flV_ok h.2)
    cases d <;> first | exact .non | exact .bl _ | exact .int _ | exact .str _ | cases h.1
/-! ### calls -/
def K3 (X : Cx) (kws : List Keyword) (t : TA3) : Prop := PK X kws (lowA X.K t)
theorem _root_.L2.PK.imp {X : Cx} {e : List Keyword} {t t' : TA} (h : PK X e t) (i : ∀ σ H Q, t' σ H Q → t σ H Q) : PK X e t' := ⟨fun p pins s σ H Q I q => h.run p pins s σ H Q I (i _ _ _ q)⟩
/-- x called with n values and the keywords ks -/
structure Cal3 (P : Program) (w : World) (K : PySem.W.Frag) (mg : Str → Option Value) (base : Heap) (k : Nat) (x : Str) (n : Nat) (ks : List Str) (os : List Src) (dfl : List D) (sp : Sp3) : Prop where
  ex : ∃ (f : Addr) (fd : FuncData) (ps : List Str), mg x = some (.ref f) ∧ PySem.W.keepIn K (.ref f) = true ∧ Bd3 K fd ps n ks os (dfl.map flV) ∧ FnG P w K mg base CX0 k f fd ps (lift K ps.length sp)
  fl : dfl.all flatD = true
def vCal (n m : Nat) (os : List Src) (dfl : List D) (sp : Sp3) (tr tk : TA3) : TE3 := fun δ μ R => tr δ μ fun ds μ1 => tk δ μ1 fun zs μ2 => ds.length = n ∧ zs.length = m ∧ sp (picks .non os ds zs dfl) μ2 R
/-- what is known behind a list of arguments -/
def Got (K : PySem.W.Frag) (F : Addr → Prop) (H : Hp) (μ : Mu) (R : List D → Mu → Prop) (vs : List V) (H1 : Hp) : Prop := ∃ F1 ds μ1, Step K F H μ F1 H1 μ1 ∧ Rps K F1 H1 ds vs ∧ R ds μ1
theorem got {K : PySem.W.Frag} {F : Addr → Prop} {H : Hp} {μ : Mu} {R : List D → Mu → Prop} {σ : L2.St} {δ : St3} {t : TA3} (sm : Sim K F H μ) (sl : Sl K F H σ δ) (h : t δ μ R) : lowA K t σ H (Got K F H μ R) :=
  ⟨F, δ, μ, R, sm, sl, h, fun F1 vs H1 ds μ1 g r1 q1 => ⟨F1, ds, μ1, g, r1, q1⟩⟩
section
variable {X : Cx} {e : Expr} {es : List Expr} {kws : List Keyword} {tr tk : TA3} {te : TE3} {x : Str} {p pos : Pos} {k n : Nat} {ks : List Str} {os : List Src} {dfl : List D} {sp : Sp3} {j : Nat}
theorem k_nil : K3 X [] vNil := pk_nil.imp fun σ H Q h => by
  obtain ⟨F, δ, μ, R, s, sl, h, kk⟩ := h
  exact kk F [] H [] μ (Step.refl s) .nil h
theorem k_cons {nm : Option Str} {kpos : Pos} (ha : E3 X e te) (hr : K3 X kws tk) : K3 X (⟨nm, e, kpos⟩ :: kws) (vCons te tk) := (pk_cons ha hr).imp fun _ _ _ h => low_cons h
theorem run_cal {pins : List (Addr × Obj)} {σ : L2.St} {H : Hp} {s : Shared} {Q : VK} {us ws : List Value} {f : Addr} {fd : FuncData} {ps : List Str} {vs zs : List V} {F : Addr → Prop} {μ : Mu} {ds es : List D} {R : DK}
    (hb : Bd3 X.K fd ps n ks os (dfl.map flV)) (fl : dfl.all flatD = true) (G : FnG X.prog X.w X.K X.mg X.base CX0 k f fd ps (lift X.K ps.length sp)) (hr : RoomG k X.A) (I : Inv X pins σ H s) (r1 : Vals vs us) (r2 : Vals zs ws)
    (sm : Sim X.K F H μ) (q1 : Rps X.K F H ds vs) (q2 : Rps X.K F H es zs) (l1 : ds.length = n) (l2 : es.length = ks.length) (hsp : sp (picks .non os ds es dfl) μ R)
    (kk : ∀ F' v H' d μ', Step X.K F H μ F' H' μ' → Rp X.K F' H' d v → R d μ' → Q v H') : wpAny (model X.prog X.w) X.A (call (.ref f) us (ks.zip ws)) (EP X pins σ Q) X.xe s := by
  obtain ⟨hl, dv, rd, hb⟩ := hb
  refine run_g G hr pass0 I (hb s us ws I.kIn (by rw [← r1.length, ← q1.length, l1]) (by rw [← r2.length, ← q2.length, l2])) (vals_picks r1 r2 rd os) ?_
  exact ⟨F, _, μ, R, by rw [← hl]; exact List.length_map _, sm, rps_picks q1 q2 (flV_ok fl) os, hsp, kk⟩
/-- f(e, ..) -/
theorem e_calP (c : Cal3 X.prog X.w X.K X.mg X.base k x n [] os dfl sp) (hr : RoomG j X.A) (ha : A3 X (e :: es) tr) (hk : k ≤ j := by decide) (hg : Gl X x := by rfl) (hd : (x == ("__debug__" : Str)) = false := by decide)
    (he : starEach (e :: es) X.env = (false, eval e X.env) :: starEach es X.env := by rfl) (hpl : (backTo pos (starEach es X.env)).any (·.1) = false := by rfl) : E3 X (.Call (.Name x p) (e :: es) [] pos) (vCal n 0 os dfl sp tr vNil) := by
  obtain ⟨f, fd, ps, hm, kp, hb, G⟩ := c.ex
  refine ⟨fun pins s σ H Q I h => ?_⟩
  refine wpAny_Call_Name_kw (ld_glob I hg hm ?_ hd)
  obtain ⟨F, δ, μ, R, sm, sl, h, kk⟩ := h
  refine PySem.W.callWith_K (h₀ := X.base) I.ok.mod.kin kp (thn (ha.run pos pins s σ H _ I (got sm sl h))
    fun us s1 ⟨vs, H1, I1, r, F1, ds, μ1, g, r1, q1⟩ => ⟨I1.kIn, ?_⟩) he hpl
  exact run_cal (us := us) (ws := []) (ks := []) hb c.fl G (hr.mono hk) I1 r .nil g.sim r1 .nil q1.1 rfl q1.2.2 fun F2 v H2 d μ2 g2 r2 q2 => kk F2 v H2 d μ2 (g.trans g2) r2 q2
/-- f() -/
theorem e_cal0 (c : Cal3 X.prog X.w X.K X.mg X.base k x n [] os dfl sp) (hr : RoomG j X.A) (hk : k ≤ j := by decide) (hg : Gl X x := by rfl) (hd : (x == ("__debug__" : Str)) = false := by decide) : E3 X (.Call (.Name x p) [] [] pos) (vCal n 0 os dfl sp vNil vNil) := by
  obtain ⟨f, fd, ps, hm, kp, hb, G⟩ := c.ex
  refine ⟨fun pins s σ H Q I h => ?_⟩
  refine wpAny_Call_Name_kw (ld_glob I hg hm ?_ hd)
  obtain ⟨F, δ, μ, R, sm, sl, h, kk⟩ := h
  exact PySem.W.callWith_K0 I.kIn kp (run_cal (us := []) (ws := []) (ks := []) hb c.fl G (hr.mono hk) I .nil .nil sm .nil .nil h.1 rfl h.2.2 kk)
/-- f(e, .., k = v, ..) -/
theorem e_calK {m : Nat} (c : Cal3 X.prog X.w X.K X.mg X.base k x n ks os dfl sp) (hr : RoomG j X.A) (ha : A3 X (e :: es) tr) (hkw : K3 X kws tk) (hk : k ≤ j := by decide) (hg : Gl X x := by rfl) (hd : (x == ("__debug__" : Str)) = false := by decide)
    (hall : (backToKw pos (keywordEach kws X.env)).all (·.1.isSome) = true := by rfl) (hks : (backToKw pos (keywordEach kws X.env)).filterMap (·.1) = ks := by rfl)
    (he : starEach (e :: es) X.env = (false, eval e X.env) :: starEach es X.env := by rfl)
    (hpl : ((backTo pos (starEach (e :: es) X.env)).any (·.1) || (backToKw pos (keywordEach kws X.env)).any (·.1.isNone)) = false := by rfl) (hm : ks.length = m := by rfl) : E3 X (.Call (.Name x p) (e :: es) kws pos) (vCal n m os dfl sp tr tk) := by
  subst hm
  obtain ⟨f, fd, ps, hm, kp, hb, G⟩ := c.ex
  refine ⟨fun pins s σ H Q I h => ?_⟩
  refine wpAny_Call_Name_kw (ld_glob I hg hm ?_ hd)
  obtain ⟨F, δ, μ, R, sm, sl, h, kk⟩ := h
  refine PySem.W.callWith_KW (h₀ := X.base) I.ok.mod.kin kp hall (thn (ha.run pos pins s σ H _ I (got sm sl h))
    fun us s1 ⟨vs, H1, I1, r, F1, ds, μ1, g, r1, q1⟩ => ?_) hpl he
  refine thn (hkw.run pos pins s1 σ H1 _ I1 (got g.sim (sl.st g) q1))
    fun ws s2 ⟨zs, H2, I2, rz, F2, ds2, μ2, g2, r2, q2⟩ => ⟨I2.kIn, ?_⟩
  rw [hks]
  exact run_cal hb c.fl G (hr.mono hk) I2 r rz g2.sim (r1.st g2) r2 q2.1 q2.2.1 q2.2.2 fun F3 v H3 d μ3 g3 r3 q3 => kk F3 v H3 d μ3 ((g.trans g2).trans g3) r3 q3
end
end L3

namespace L3
open PySem PySem.Spec PyProof.Rows L2
/-! ### repr -/
def ShowOk (p : PyData) : Prop := p.showable = true ∧ p.hasDict = false ∧ p.depth ≤ 100 ∧ p.shown.length ≤ sizeLine
theorem call_repr {X : Cx} {k : Nat} (hr : RoomG k X.A) : CallR X (.builtin "repr") (fun xs H Q => ∃ v p, xs = [v] ∧ Dp X.K H v p ∧ ShowOk p ∧ Q (.str p.shown) H) := by
  intro pins s σ H xs us Q I rs h
  obtain ⟨v, p, rfl, rd, ⟨h1, h2, h3, h4⟩, q⟩ := h
  cases rs with
  | cons r rs =>
    cases rs
    rename_i u
    obtain ⟨as, rds⟩ := Dp.reads I p v u rd r
    have hu := hr.rm.un
    have fin : ∀ h' t tk, (∀ b o, s.heap.get? b = some o → h'.get? b = some o) → EP X pins σ Q (.str p.shown t) { s with heap := h', toks := tk } := fun h' t tk kp => ⟨.str p.shown, H, I.kept kp, ⟨_, rfl⟩, q⟩
    cases rds with
    | none => exact P.repr_of_none ⟨.str PyData.none.shown, H, I.tok _, ⟨_, rfl⟩, q⟩
    | bool b => exact P.repr_of_bool ⟨.str (PyData.bool b).shown, H, I.tok _, ⟨_, by cases b <;> rfl⟩, q⟩
    | int i t => exact P.repr_of_int (by simpa [PyData.showable] using h1) ⟨.str (PyData.int i).shown, H, I.tok _, ⟨s.toks, by simp [PyData.shown]⟩, q⟩
    | str x t => exact P.repr_of_str ⟨.str (PyData.str x).shown, H, I.tok _, ⟨s.toks, by simp [PyData.shown]⟩, q⟩ (by simpa [PyData.shown] using h4)
    | list e1 e2 e3 e4 => exact repr_of_reads' (.list e1 e2 e3 e4) h1 (fun z => by rw [h2] at z; cases z) hr.gd (by omega) (fun _ _ e => e) fin h4
    | tuple e1 e2 e3 e4 => exact repr_of_reads' (.tuple e1 e2 e3 e4) h1 (fun z => by rw [h2] at z; cases z) hr.gd (by omega) (fun _ _ e => e) fin h4
    | dict e1 e2 e3 e4 e5 => cases h2
/-! what a tree shows -/
mutual
inductive Sh (μ : Mu) : D → PyData → Prop
  | non : Sh μ .non .none
  | bl (b : Bool) : Sh μ (.bl b) (.bool b)
  | int (i : Int) : Sh μ (.int i) (.int i)
  | str (x : Str) : Sh μ (.str x) (.str x)
  | lst {xs : List D} {ps : List PyData} : Shs μ xs ps → Sh μ (.lst xs) (.list ps)
  | scr {xs : List D} {ps : List PyData} : Shs μ xs ps → Sh μ (.scr xs) (.list ps)
  | tup {xs : List D} {ps : List PyData} : Shs μ xs ps → Sh μ (.tup xs) (.tuple ps)
  | ref {a : Addr} {xs : List D} {ps : List PyData} : μ a = some (.lst xs) → Shs μ xs ps → Sh μ (.ref a) (.list ps)
inductive Shs (μ : Mu) : List D → List PyData → Prop
  | nil : Shs μ [] []
  | cons {x : D} {xs : List D} {p : PyData} {ps : List PyData} : Sh μ x p → Shs μ xs ps → Shs μ (x :: xs) (p :: ps)
end
mutual
theorem Sh.dp {K : PySem.W.Frag} {F : Addr → Prop} {H : Hp} {μ : Mu} (s : Sim K F H μ) {d : D} {p : PyData} {v : V} : Sh μ d p → Rp K F H d v → Dp K H v p
  | .non, r => by cases r; exact .non
  | .bl b, r => by cases r; exact .bl b
  | .int i, r => by cases r; exact .int i
  | .str x, r => by cases r; exact .str x
  | .lst h, r => by
    cases r with
    | lst f e rs => exact .lst (SqL.of e) (Shs.dp s h rs)
  | .scr h, r => by
    cases r with
    | scr f rs => exact .lst f.sq (Shs.dp s h rs)
  | .tup h, r => by
    cases r with
    | tup f e rs => exact .tup (SqT.of e) (Shs.dp s h rs)
  | .ref e h, r => by
    cases r
    obtain ⟨_, vs, e3, rs⟩ := s.obj _ _ e
    exact .lst (SqL.of e3) (Shs.dp s h rs)
theorem Shs.dp {K : PySem.W.Frag} {F : Addr → Prop} {H : Hp} {μ : Mu} (s : Sim K F H μ) {ds : List D} {ps : List PyData} : ∀ {vs : List V}, Shs μ ds ps → Rps K F H ds vs → DpAll K H vs ps
  | _, .nil, r => by cases r; exact .nil
  | _, .cons h t, r => by
    cases r with
    | cons r1 rs => exact .cons (Sh.dp s h r1) (Shs.dp s t rs)
end
def gRepr : GA := fun ds μ R => ∃ d p, ds = [d] ∧ Sh μ d p ∧ ShowOk p ∧ R (.str p.shown) μ
theorem c_repr {X : Cx} {k : Nat} (hr : RoomG k X.A) : CallL X (.builtin "repr") gRepr := ⟨_, call_repr hr, fun F H μ ds vs R Q s rs q kk => by
  obtain ⟨d, p, rfl, sh, ok, q⟩ := q
  obtain ⟨v, rfl, r⟩ := one_of rs
  exact ⟨v, p, rfl, sh.dp s r, ok, kk F _ H _ μ (Step.refl s) (.str _) q⟩⟩
/-! ### == of data -/
section
variable {X : Cx}
def gEqD : G2 := fun x y μ R => ∃ d e, Sh μ x d ∧ Sh μ y e ∧ SeqAt.shaped d = true ∧ SeqAt.shaped e = true ∧ R (.bl (PyData.eqv d e)) μ
def gNeD : G2 := fun x y μ R => ∃ d e, Sh μ x d ∧ Sh μ y e ∧ SeqAt.shaped d = true ∧ SeqAt.shaped e = true ∧ R (.bl (!PyData.eqv d e)) μ
theorem o_eqD {k : Nat} (hr : RoomG k X.A) : OpL X (compareOp .Eq) gEqD := ⟨_, op_eqD (by have := hr.rm.un; omega), fun F H μ x y vx vy R Q s rx ry q kk => by
  obtain ⟨d, e, h1, h2, h3, h4, q⟩ := q
  exact ⟨d, e, h1.dp s rx, h2.dp s ry, h3, h4, kk F _ H _ μ (Step.refl s) (.bl _) q⟩⟩
theorem o_neD {k : Nat} (hr : RoomG k X.A) : OpL X (compareOp .NotEq) gNeD := ⟨_, op_neD (by have := hr.rm.un; omega), fun F H μ x y vx vy R Q s rx ry q kk => by
  obtain ⟨d, e, h1, h2, h3, h4, q⟩ := q
  exact ⟨d, e, h1.dp s rx, h2.dp s ry, h3, h4, kk F _ H _ μ (Step.refl s) (.bl _) q⟩⟩
end
end L3

namespace L3
open PySem PySem.Spec PyProof.Rows L2
section
variable {X : Cx}
/-! ### str, int, abs -/
def gStr : GA := fun ds μ R => match ds with
  | [.int i] => i.natAbs.log2 < 1920 ∧ R (.str (toString i)) μ
  | _ => False
theorem c_str : CallL X (.type "str") gStr := ⟨_, call_str_int, fun F H μ ds vs R Q s rs q k => by
  unfold gStr at q
  split at q
  · obtain ⟨v, rfl, r⟩ := one_of rs
    cases r
    exact ⟨_, rfl, q.1, k F _ H _ μ (Step.refl s) (.str _) q.2⟩
  · exact q.elim⟩
def gInt : GA := fun ds μ R => match ds with
  | [.int i] => R (.int i) μ
  | [.bl b] => R (.int (if b then 1 else 0)) μ
  | [.str a] => ∃ n, PySem.intText? a = some n ∧ a.length ≤ 640 ∧ R (.int n) μ
  | _ => False
theorem CallR.or {f : Value} {r r' : List V → Hp → VK → Prop} (h : CallR X f r) (h' : CallR X f r') : CallR X f (fun xs H Q => r xs H Q ∨ r' xs H Q) := fun pins s σ H xs us Q I rs q => q.elim (h pins s σ H xs us Q I rs) (h' pins s σ H xs us Q I rs)
theorem c_int : CallL X (.type "int") gInt := ⟨_, CallR.or call_int1 call_int_str, fun F H μ ds vs R Q s rs q k => by
  unfold gInt at q
  split at q
  · obtain ⟨v, rfl, r⟩ := one_of rs
    cases r
    exact .inl (.inl ⟨_, rfl, k F _ H _ μ (Step.refl s) (.int _) q⟩)
  · obtain ⟨v, rfl, r⟩ := one_of rs
    cases r
    exact .inl (.inr ⟨_, rfl, k F _ H _ μ (Step.refl s) (.int _) q⟩)
  · obtain ⟨v, rfl, r⟩ := one_of rs
    cases r
    obtain ⟨n, h1, h2, q⟩ := q
    exact .inr ⟨_, n, rfl, h1, h2, k F _ H _ μ (Step.refl s) (.int _) q⟩
  · exact q.elim⟩
def gAbs : GA := fun ds μ R => match ds with
  | [.int i] => R (.int (if i < 0 then -i else i)) μ
  | _ => False
theorem c_abs : CallL X (.builtin "abs") gAbs := ⟨_, call_abs, fun F H μ ds vs R Q s rs q k => by
  unfold gAbs at q
  split at q
  · obtain ⟨v, rfl, r⟩ := one_of rs
    cases r
    exact ⟨_, rfl, k F _ H _ μ (Step.refl s) (.int _) q⟩
  · exact q.elim⟩
/-! ### x.split(y): a new list -/
theorem rps_strs {K : PySem.W.Frag} {F : Addr → Prop} {H : Hp} : ∀ ys : List Str, Rps K F H (ys.map D.str) (ys.map V.str)
  | [] => .nil
  | y :: r => .cons (.str y) (rps_strs r)
def gSplit : GM := fun x ds μ R => match x, ds with
  | .str a, [.str b] => (b.length == 0) = false ∧ a.length + 2 ≤ sizeLine ∧ ∀ q, μ q = none → R (.ref q) (mset μ q (.lst ((Txt.split a b).map D.str)))
  | _, _ => False
theorem m_split : MtL X "str.split" "str" gSplit := ⟨_, mt_split, fun F H μ x ds vx vs R Q s rx rs q k => by
  unfold gSplit at q
  split at q
  · rename_i a b
    obtain ⟨v, rfl, r⟩ := one_of rs
    cases r
    cases rx
    refine ⟨_, _, rfl, rfl, q.1, q.2.1, fun p hp => ?_⟩
    have g := s.trkS (o := .lst ((Txt.split a b).map V.str)) (m := .lst ((Txt.split a b).map D.str)) hp fun g' e => ⟨_, e, rps_strs _⟩
    exact k _ _ _ _ _ g (.ref p) (q.2.2 p (s.free hp))
  · exact q.elim⟩
end
end L3
namespace L3
open PySem PySem.Spec PyProof.Rows L2
/-! ### every parameter by its place -/
def allPos (n : Nat) : List Src := (List.range n).map Src.pos
theorem picks_all {α : Type} {z : α} {us ws ds : List α} {n : Nat} (h : us.length = n) : picks z (allPos n) us ws ds = us := by
  subst h
  unfold picks allPos
  rw [List.map_map]
  apply List.ext_getElem?
  intro i
  rw [List.getElem?_map]
  by_cases hi : i < us.length
  · rw [List.getElem?_range hi]
    show some (us.getD i z) = us[i]?
    rw [List.getD_eq_getElem?_getD, List.getElem?_eq_getElem hi]
    rfl
  · rw [List.getElem?_eq_none_iff.mpr (by simpa using hi), List.getElem?_eq_none_iff.mpr (by simpa using hi)]
    rfl
theorem e_cal {X : Cx} {e : Expr} {es : List Expr} {tr : TA3} {x : Str} {p pos : Pos} {k n : Nat} {sp : Sp3} {j : Nat} (c : Cal3 X.prog X.w X.K X.mg X.base k x n [] (allPos n) [] sp) (hr : RoomG j X.A) (ha : A3 X (e :: es) tr) (hk : k ≤ j := by decide) (hg : Gl X x := by rfl) (hd : (x == ("__debug__" : Str)) = false := by decide)
    (he : starEach (e :: es) X.env = (false, eval e X.env) :: starEach es X.env := by rfl) (hpl : (backTo pos (starEach es X.env)).any (·.1) = false := by rfl) : E3 X (.Call (.Name x p) (e :: es) [] pos) (vCall n sp tr) := by
  refine PE.imp (e_calP c hr ha hk hg hd he hpl) fun σ H Q h => ?_
  obtain ⟨F, δ, μ, R, s, sl, h, kk⟩ := h
  have e : vCall n sp tr = vCal n 0 (allPos n) [] sp tr vNil := by
    funext δ μ R
    unfold vCall vCal vNil
    congr 1
    funext ds μ1
    apply propext
    constructor
    · intro ⟨h1, h2⟩; exact ⟨h1, rfl, by rw [picks_all h1]; exact h2⟩
    · intro ⟨h1, _, h2⟩; rw [picks_all h1] at h2; exact ⟨h1, h2⟩
  exact ⟨F, δ, μ, R, s, sl, e ▸ h, kk⟩
/-! ### `binding` by the written text -/
theorem Def3.bindA {K : PySem.W.Frag} {x qual : Str} {st : Stmt} {f : Addr} {fd : FuncData} {ps : List Str} {kwd : List (Str × V)} (F : Def3 K x qual st [] kwd f fd) (n : Nat) (hl : ps.length = n)
    (h : ∀ (kV doc pm : Value) (an : Option Addr) (cdv ct : Value) (us : List Value), us.length = n → bindArgs (PySem.W.fnOf x qual (defArgs st) (defBody st) (defScope st) .none kV doc pm an cdv ct) ⟨us, []⟩ = pure (ps.zip us)) : Bd3 K fd ps n [] (allPos n) [] :=
  F.bind0 n [] (allPos n) (by simp [allPos, hl]) fun kV doc pm an cdv ct us ws h1 h2 => by
    rw [picks_all h1]
    exact h kV doc pm an cdv ct us h1
theorem def_mk {K : PySem.W.Frag} {x qual : Str} {st : Stmt} {f : Addr} {oc : Value} {od an : Option Addr} {osl : Array (Option Value)} {dV kV doc pm cdv ct : Value} {dfl : List V} {kwd : List (Str × V)} (l : K.lookup f = some ⟨oc, od, .func (PySem.W.fnOf x qual (defArgs st) (defBody st) (defScope st) dV kV doc pm an cdv ct), osl⟩)
    (c : PySem.W.codeIn K cdv qual = true) (k : PySem.W.keepIn K (.ref f) = true) (hd : DflV K dV dfl) (hk : KwdV K kV kwd) : Def3 K x qual st dfl kwd f (PySem.W.fnOf x qual (defArgs st) (defBody st) (defScope st) dV kV doc pm an cdv ct) := ⟨⟨oc, od, dV, kV, doc, pm, an, cdv, ct, osl, rfl, l, c, hd, hk⟩, k⟩
theorem dfl0 {K : PySem.W.Frag} : DflV K .none [] := .inl ⟨rfl, rfl⟩
theorem kwd0 {K : PySem.W.Frag} {kV : Value} : KwdV K kV [] := .inl rfl
theorem kwd1 {K : PySem.W.Frag} {kD : Addr} {kwd : List (Str × V)} (h : ∀ q ∈ kwd, ∃ u, PySem.W.nsIn K kD q.1 = some (some u) ∧ RelV q.2 u) : KwdV K (.ref kD) kwd := .inr ⟨kD, rfl, h⟩
end L3

namespace K02
open PySem PySem.Spec L2 L3
theorem ext_l {x y : Str} (h : x.cps.toList = y.cps.toList) : x = y := TL.ext_tl h
def bodyL : List Nat → List Nat
  | 45 :: r => r
  | l => l
def valL : List Nat → Int
  | 45 :: r => -((NumText.digitsVal r : Nat) : Int)
  | l => ((NumText.digitsVal l : Nat) : Int)
def digS : Str := "0123456789"
theorem mem_dig (c : Nat) : c ∈ digS.cps.toList ↔ 48 ≤ c ∧ c ≤ 57 := by
  have e : digS.cps.toList = [48, 49, 50, 51, 52, 53, 54, 55, 56, 57] := by decide +kernel
  rw [e]
  simp only [List.mem_cons, List.not_mem_nil, or_false]
  omega
/-- a notation: signs, digits; no leading zero -/
def shapeL (l : List Nat) : Bool := decide (1 ≤ (bodyL l).length ∧ (bodyL l).length ≤ 30) && (bodyL l).all fun c => decide (c ∈ digS.cps.toList)
def leadL (l : List Nat) : Bool := decide ((bodyL l).head? = some 48) && decide (l ≠ [48])
theorem cut_head (z : Str) : (cutS z none (some 1)).cps.toList = z.cps.toList.take 1 := by
  unfold cutS
  have e : HT.sIx z.length 0 none = 0 := rfl
  rw [e]
  simp only [List.drop_zero, Nat.sub_zero]
  have : HT.sIx z.length z.length (some 1) = min 1 z.length := by
    unfold HT.sIx
    simp
  rw [this]
  have l : z.length = z.cps.toList.length := by simp [Str.length]
  rw [l, List.take_eq_take_iff]
  simp
theorem cut_tail (z : Str) : (cutS z (some 1) none).cps.toList = z.cps.toList.drop 1 := by
  unfold cutS
  have e : HT.sIx z.length z.length none = z.length := rfl
  rw [e]
  have : HT.sIx z.length 0 (some 1) = min 1 z.length := by
    unfold HT.sIx
    simp
  rw [this]
  have l : z.length = z.cps.toList.length := by simp [Str.length]
  rw [l]
  simp only
  rw [List.take_of_length_le (by simp)]
  cases z.cps.toList with
  | nil => rfl
  | cons a r => simp
theorem all_dig {l : List Nat} (h : l.all (fun c => decide (c ∈ digS.cps.toList)) = true) : NumText.AllDigits l := fun c hc => (mem_dig c).mp (of_decide_eq_true (List.all_eq_true.mp h c hc))
theorem numL_of {l : List Nat} (h : NumText.AllDigits l) (hn : l ≠ []) : TL.numL (NumText.digitsVal l) = l ↔ (l.head? ≠ some 48 ∨ l = [48]) := by
  have e := NumText.toDigits_all l h
  unfold TL.numL
  rw [e]
  cases l with
  | nil => exact absurd rfl hn
  | cons c r =>
    by_cases hc : c = 48
    · subst hc
      constructor
      · intro q
        right
        rw [List.dropWhile_cons, if_pos (by rfl)] at q
        split at q
        · simpa using q.symm
        · rename_i c' r' e'
          have hd : ¬ (c' == 48) = true := by
            intro hh
            have := List.head?_dropWhile_not (p := (· == 48)) (l := r)
            rw [e'] at this
            simp at this
            exact this (by simpa using hh)
          have q1 : (c' :: r').length = (48 :: r).length := by
            have := congrArg List.length q
            simpa using this
          have q2 : (r.dropWhile (· == 48)).length ≤ r.length := (List.dropWhile_suffix _).length_le
          rw [e'] at q2
          simp at q1 q2
          omega
      · intro q
        rcases q with q | q
        · exact absurd rfl q
        · cases q
          rfl
    · constructor
      · intro _
        left
        simpa using hc
      · intro _
        rw [List.dropWhile_cons, if_neg (by rw [beq_iff_eq]; exact hc)]
        show ((c :: r).map Char.ofNat).map Char.toNat = c :: r
        rw [List.map_map]
        have : ∀ x ∈ c :: r, (Char.toNat ∘ Char.ofNat) x = x := fun x hx => by
          have := h x hx
          have e2 : ∀ n, 48 ≤ n → n ≤ 57 → (Char.ofNat n).toNat = n := by
            intro n h1 h2
            have : n = 48 ∨ n = 49 ∨ n = 50 ∨ n = 51 ∨ n = 52 ∨ n = 53 ∨ n = 54 ∨ n = 55 ∨ n = 56 ∨ n = 57 := by omega
            rcases this with rfl | rfl | rfl | rfl | rfl | rfl | rfl | rfl | rfl | rfl <;> rfl
          exact e2 x this.1 this.2
        exact (List.map_congr_left this).trans (List.map_id _)
theorem val_pos {l : List Nat} (h : NumText.AllDigits l) (hn : l ≠ []) (h0 : l.head? ≠ some 48) : 0 < NumText.digitsVal l := by
  cases l with
  | nil => exact absurd rfl hn
  | cons c r =>
    refine NumText.digitsVal_pos ?_
    have := h c List.mem_cons_self
    have : c ≠ 48 := fun e => h0 (by rw [e]; rfl)
    omega
theorem text_nat (n : Nat) : (Str.ofString (toString ((n : Nat) : Int))).cps.toList = TL.numL n := TL.tl_num n
theorem text_neg {n : Nat} (h : 0 < n) : (Str.ofString (toString (-(n : Int)))).cps.toList = 45 :: TL.numL n := by
  have e : toString (-(n : Int)) = "-" ++ toString ((n : Nat) : Int) := by
    have := PyProof.Rows.toString_neg (n := -(n : Int)) (by omega)
    rw [this]
    congr 2
    omega
  rw [e]
  have e2 : ∀ x y : Str, (x ++ y).cps.toList = x.cps.toList ++ y.cps.toList := fun x y => by
    show (x.cps ++ y.cps).toList = _
    simp
  have : Str.ofString ("-" ++ toString ((n : Nat) : Int)) = Str.ofString "-" ++ Str.ofString (toString ((n : Nat) : Int)) := by
    apply ext_l; rw [e2, Str.ofString_eq_toList, Str.ofString_eq_toList, Str.ofString_eq_toList]; simp [String.toList_append]
  rw [this]
  rw [e2, text_nat]
  rfl
theorem int_of {z : Str} (hs : shapeL z.cps.toList = true) : PySem.intText? z = some (valL z.cps.toList) ∧ z.length ≤ 31 := by
  unfold shapeL at hs
  rw [Bool.and_eq_true, decide_eq_true_eq] at hs
  obtain ⟨⟨h1, h2⟩, h3⟩ := hs
  have l : z.length = z.cps.toList.length := by simp [Str.length]
  by_cases hz : ∃ r, z.cps.toList = 45 :: r
  · obtain ⟨r, e⟩ := hz
    rw [e] at h1 h2 h3 l ⊢
    have h1' : 1 ≤ r.length := h1
    have h2' : r.length ≤ 30 := h2
    simp at l
    refine ⟨?_, by omega⟩
    exact PySem.intText_neg e (all_dig h3) (by intro q; rw [q] at h1'; simp at h1') (by omega)
  · have eb : bodyL z.cps.toList = z.cps.toList := by
      unfold bodyL
      split
      · rename_i r e; exact absurd ⟨r, e⟩ hz
      · rfl
    rw [eb] at h1 h2 h3
    have ev : valL z.cps.toList = ((NumText.digitsVal z.cps.toList : Nat) : Int) := by
      unfold valL
      split
      · rename_i r e; exact absurd ⟨r, e⟩ hz
      · rfl
    rw [ev]
    refine ⟨PySem.intText_digits (all_dig h3) (by intro q; rw [q] at h1; simp at h1) (by omega), by omega⟩
theorem str_of {z : Str} (hs : shapeL z.cps.toList = true) : (Str.ofString (toString (valL z.cps.toList)) = z) ↔ leadL z.cps.toList = false := by
  unfold shapeL at hs
  rw [Bool.and_eq_true, decide_eq_true_eq] at hs
  obtain ⟨⟨h1, h2⟩, h3⟩ := hs
  have iff1 : (Str.ofString (toString (valL z.cps.toList)) = z) ↔ (Str.ofString (toString (valL z.cps.toList))).cps.toList = z.cps.toList := ⟨fun e => by rw [e], ext_l⟩
  rw [iff1]
  unfold leadL
  by_cases hz : ∃ r, z.cps.toList = 45 :: r
  · obtain ⟨r, e⟩ := hz
    rw [e] at h1 h2 h3 ⊢
    have h1' : 1 ≤ r.length := h1
    have hne : r ≠ [] := by intro q; rw [q] at h1'; simp at h1'
    have hd : NumText.AllDigits r := all_dig h3
    show (Str.ofString (toString (-((NumText.digitsVal r : Nat) : Int)))).cps.toList = 45 :: r ↔ _
    have hb : bodyL (45 :: r) = r := rfl
    rw [hb]
    by_cases h0 : r.head? = some 48
    · have : (decide (r.head? = some 48) && decide ((45 :: r) ≠ [48])) = true := by simp [h0]
      rw [this]
      simp only [Bool.true_eq_false, iff_false]
      intro q
      by_cases hv : 0 < NumText.digitsVal r
      · rw [text_neg hv] at q
        have q' : TL.numL (NumText.digitsVal r) = r := by simpa using q
        rcases (numL_of hd hne).mp q' with k | k
        · exact k h0
        · rw [k] at hv; exact absurd hv (by decide)
      · have hv0 : NumText.digitsVal r = 0 := by omega
        rw [hv0] at q
        have : (Str.ofString (toString (-((0 : Nat) : Int)))).cps.toList = [48] := by decide +kernel
        rw [this] at q
        simp at q
    · have : (decide (r.head? = some 48) && decide ((45 :: r) ≠ [48])) = false := by simp [h0]
      rw [this]
      simp only [iff_true]
      rw [text_neg (val_pos hd hne h0), (numL_of hd hne).mpr (.inl h0)]
  · have eb : bodyL z.cps.toList = z.cps.toList := by
      unfold bodyL
      split
      · rename_i r e; exact absurd ⟨r, e⟩ hz
      · rfl
    rw [eb] at h1 h2 h3
    have ev : valL z.cps.toList = ((NumText.digitsVal z.cps.toList : Nat) : Int) := by
      unfold valL
      split
      · rename_i r e; exact absurd ⟨r, e⟩ hz
      · rfl
    have hne : z.cps.toList ≠ [] := by intro q; rw [q] at h1; simp at h1
    rw [ev, eb, text_nat, numL_of (all_dig h3) hne]
    by_cases h0 : z.cps.toList.head? = some 48 <;> by_cases h4 : z.cps.toList = [48] <;> simp [h0, h4]
theorem val_bound {z : Str} (hs : shapeL z.cps.toList = true) : (valL z.cps.toList).natAbs < 10 ^ 30 := by
  unfold shapeL at hs
  rw [Bool.and_eq_true, decide_eq_true_eq] at hs
  obtain ⟨⟨h1, h2⟩, h3⟩ := hs
  have key : ∀ (n : Nat) (l : List Nat), l.length = n → NumText.AllDigits l → NumText.digitsVal l < 10 ^ l.length := by
    intro n
    induction n with
    | zero => intro l e _; rw [List.length_eq_zero_iff.mp e]; decide
    | succ n ih =>
      intro l e h
      have hne : l ≠ [] := by intro q; rw [q] at e; cases e
      have es := List.dropLast_concat_getLast hne
      rw [← es] at h ⊢
      generalize l.getLast hne = c at h ⊢
      have hl : l.dropLast.length = n := by rw [List.length_dropLast, e]; rfl
      generalize l.dropLast = l' at h hl ⊢
      rw [NumText.digitsVal_snoc, List.length_append]
      have := ih l' hl fun d hd => h d (List.mem_append_left _ hd)
      have hc := h c (List.mem_append_right _ (List.mem_singleton.mpr rfl))
      show _ < 10 ^ (l'.length + 1)
      rw [Nat.pow_succ]
      omega
  have mono : ∀ n, n ≤ 30 → 10 ^ n ≤ 10 ^ 30 := fun n hn => Nat.pow_le_pow_right (by decide) hn
  by_cases hz : ∃ r, z.cps.toList = 45 :: r
  · obtain ⟨r, e⟩ := hz
    rw [e] at h1 h2 h3 ⊢
    have := key _ r rfl (all_dig h3)
    have := mono r.length h2
    show (-((NumText.digitsVal r : Nat) : Int)).natAbs < _
    omega
  · have eb : bodyL z.cps.toList = z.cps.toList := by
      unfold bodyL
      split
      · rename_i r e; exact absurd ⟨r, e⟩ hz
      · rfl
    rw [eb] at h1 h2 h3
    have ev : valL z.cps.toList = ((NumText.digitsVal z.cps.toList : Nat) : Int) := by
      unfold valL
      split
      · rename_i r e; exact absurd ⟨r, e⟩ hz
      · rfl
    rw [ev]
    have := key _ _ rfl (all_dig h3)
    have := mono _ h2
    omega
/-! ### words between spaces -/
def cutL : List Nat → List Nat → List (List Nat)
  | acc, [] => [acc]
  | acc, c :: r => if c = 32 then acc :: cutL [] r else cutL (acc ++ [c]) r
theorem spl_cut : ∀ (l acc : List Nat), TL.spl [32] 0 acc l = cutL acc l
  | [], acc => rfl
  | c :: r, acc => by
    have hp : TL.pre [32] (c :: r) = decide (c = 32) := by
      show ([c] == [32]) = decide (c = 32)
      rw [Bool.eq_iff_iff, beq_iff_eq, decide_eq_true_eq]
      exact ⟨fun h => by injection h, fun h => by rw [h]⟩
    unfold cutL
    by_cases h : c = 32
    · rw [TL.spl_hit (by rw [hp]; simpa using h), if_pos h]
      exact congrArg _ (spl_cut r [])
    · have : TL.spl [32] 0 acc (c :: r) = TL.spl [32] 0 (acc ++ [c]) r := by
        show (if TL.pre [32] (c :: r) = true then _ else _) = _
        rw [if_neg (by rw [hp]; simpa using h)]
      rw [this, if_neg h, spl_cut r]
def toS (l : List Nat) : Str := ⟨l.toArray⟩
theorem split_cut (z : Str) : Txt.split z (Str.ofString " ") = (cutL [] z.cps.toList).map toS := by
  have h := SX.split_S (a := z.cps.toList) (b := [32]) (by simp) (by decide)
  rw [spl_cut] at h
  have e : Str.ofString " " = SX.S [32] := by decide +kernel
  rw [e]
  exact h
/-! ### texts of plain signs -/
def asc (z : Str) : Prop := ∀ c ∈ z.cps.toList, c < 128
theorem asc_app {x y : Str} (hx : asc x) (hy : asc y) : asc (x ++ y) := fun c hc => by
  have : (x ++ y).cps.toList = x.cps.toList ++ y.cps.toList := by show (x.cps ++ y.cps).toList = _; simp
  rw [this] at hc
  exact (List.mem_append.mp hc).elim (hx c) (hy c)
theorem asc_cut {z : Str} (h : asc z) (lo hi : Option Int) : asc (cutS z lo hi) := fun c hc => by
  unfold cutS at hc
  exact h c (List.mem_of_mem_drop (List.mem_of_mem_take (by simpa using hc)))
theorem asc_join {a : Str} (ha : asc a) : ∀ {ys : List Str}, (∀ y ∈ ys, asc y) → asc (Txt.join a ys) := by
  intro ys h c hc
  rw [TL.join_eq] at hc
  have hc' : c ∈ TL.tl (Str.join a ys) := hc
  rw [TL.tl_join] at hc'
  have key : ∀ (ps : List (List Nat)), (∀ p ∈ ps, ∀ c ∈ p, c < 128) → ∀ c ∈ TL.joinL (TL.tl a) ps, c < 128 := by
    intro ps
    induction ps with
    | nil => intro _ c hc; cases hc
    | cons p r ih =>
      intro hp c hc
      cases r with
      | nil => exact hp p List.mem_cons_self c hc
      | cons q r =>
        have hc2 : c ∈ p ++ (TL.tl a ++ TL.joinL (TL.tl a) (q :: r)) := by simpa [TL.joinL] using hc
        rcases List.mem_append.mp hc2 with k | k
        · exact hp p List.mem_cons_self c k
        · rcases List.mem_append.mp k with k | k
          · exact ha c k
          · exact ih (fun p hp' => hp p (List.mem_cons_of_mem _ hp')) c k
  refine key _ (fun p hp => ?_) c hc'
  obtain ⟨y, hy, rfl⟩ := List.mem_map.mp hp
  exact h y hy
theorem len_join {a : Str} {ys : List Str} {B : Nat} (h : ∀ y ∈ ys, y.length ≤ B) : (Txt.join a ys).length ≤ ys.length * B + ys.length * a.length := by
  rw [TL.join_eq]
  have h1 := StrLaws.join_length_le a ys
  have : (ys.map (·.length)).sum ≤ ys.length * B := by
    clear h1
    induction ys with
    | nil => simp
    | cons y r ih =>
      have := ih fun z hz => h z (List.mem_cons_of_mem _ hz)
      have := h y List.mem_cons_self
      simp only [List.map_cons, List.sum_cons, List.length_cons, Nat.succ_mul]
      omega
  omega
theorem sum_le {ys : List Str} {B : Nat} (h : ∀ y ∈ ys, y.length ≤ B) : (ys.map (·.length)).sum ≤ ys.length * B := by
  induction ys with
  | nil => simp
  | cons y r ih =>
    have := ih fun z hz => h z (List.mem_cons_of_mem _ hz)
    have := h y List.mem_cons_self
    simp only [List.map_cons, List.sum_cons, List.length_cons, Nat.succ_mul]
    omega
/-! ### what repr shows -/
theorem show_int {i : Int} (h : i.natAbs < 10 ^ 31) : (PyData.int i).shown.length ≤ 40 := by
  have e : (PyData.int i).shown = Str.ofString (toString i) := by simp [PyData.shown]
  rw [e]
  have len : ∀ n : Nat, n < 10 ^ 31 → (TL.numL n).length ≤ 31 := fun n hn => TL.numL_len (by decide) hn
  have lz : ∀ x : Str, x.length = x.cps.toList.length := fun x => by simp [Str.length]
  rcases Int.eq_nat_or_neg i with ⟨n, rfl | rfl⟩
  · rw [lz, text_nat]
    have := len n (by simpa using h)
    omega
  · by_cases h0 : 0 < n
    · rw [lz, text_neg h0]
      have := len n (by simpa using h)
      simp only [List.length_cons]
      omega
    · obtain rfl : n = 0 := by omega
      decide +kernel
theorem log_int {i : Int} (h : i.natAbs < 10 ^ 31) : i.natAbs.log2 < 1920 := by
  have := PySem.Flt.log2_lt_of (n := i.natAbs) (k := 110) (by decide) (Nat.lt_trans h (by decide))
  omega
theorem strOk_asc {z : Str} (h : asc z) : PyData.strOk z = true := by
  unfold PyData.strOk
  rw [← Array.all_toList, List.all_eq_true]
  intro c hc
  have := h c hc
  exact decide_eq_true (by omega)
theorem depth_strs : ∀ ws : List Str, PyData.depthAll (ws.map PyData.str) = 0
  | [] => by simp [PyData.depthAll]
  | w :: r => by simp [PyData.depthAll, PyData.depth, depth_strs r]
theorem shaped_strs {ws : List Str} (h : ∀ w ∈ ws, asc w) : SeqAt.shaped (.list (ws.map PyData.str)) = true := by
  unfold SeqAt.shaped
  rw [Bool.and_eq_true]
  constructor
  · show PyData.canLayAll0 _ = true
    induction ws with
    | nil => rfl
    | cons w r ih =>
      show (PyData.strOk w && PyData.canLayAll0 (r.map PyData.str)) = true
      rw [strOk_asc (h w List.mem_cons_self), ih fun z hz => h z (List.mem_cons_of_mem _ hz)]
      rfl
  · simp [PyData.depth, depth_strs]
theorem cut_mem : ∀ (l acc : List Nat) (w : List Nat), w ∈ cutL acc l → (∀ c ∈ w, c ∈ acc ∨ c ∈ l) ∧ w.length ≤ acc.length + l.length
  | [], acc, w, h => by
    have : w = acc := by simpa [cutL] using h
    subst this
    exact ⟨fun c hc => .inl hc, by simp⟩
  | c :: r, acc, w, h => by
    rw [cutL] at h
    by_cases hc : c = 32
    · rw [if_pos hc] at h
      rcases List.mem_cons.mp h with h | h
      · subst h
        exact ⟨fun c hc => .inl hc, by simp⟩
      · obtain ⟨h1, h2⟩ := cut_mem r [] w h
        refine ⟨fun d hd => ?_, by simp at h2 ⊢; omega⟩
        rcases h1 d hd with k | k
        · cases k
        · exact .inr (List.mem_cons_of_mem _ k)
    · rw [if_neg hc] at h
      obtain ⟨h1, h2⟩ := cut_mem r (acc ++ [c]) w h
      refine ⟨fun d hd => ?_, by simp at h2 ⊢; omega⟩
      rcases h1 d hd with k | k
      · rcases List.mem_append.mp k with k | k
        · exact .inl k
        · rw [List.mem_singleton.mp k]; exact .inr List.mem_cons_self
      · exact .inr (List.mem_cons_of_mem _ k)
theorem cut_len : ∀ (l acc : List Nat), (cutL acc l).length ≤ l.length + 1
  | [], acc => by simp [cutL]
  | c :: r, acc => by
    rw [cutL]
    by_cases hc : c = 32
    · rw [if_pos hc]; have := cut_len r []; simp; omega
    · rw [if_neg hc]; have := cut_len r (acc ++ [c]); simp; omega
theorem words_ok {z : Str} (h : z.length ≤ 1000) (ha : asc z) : (∀ w ∈ (cutL [] z.cps.toList).map toS, asc w ∧ w.length ≤ 1000) ∧ ((cutL [] z.cps.toList).map toS).length ≤ 1001 := by
  have lz : z.length = z.cps.toList.length := by simp [Str.length]
  refine ⟨fun w hw => ?_, by rw [List.length_map]; have := cut_len z.cps.toList []; omega⟩
  obtain ⟨l, hl, rfl⟩ := List.mem_map.mp hw
  obtain ⟨h1, h2⟩ := cut_mem z.cps.toList [] l hl
  refine ⟨fun c hc => ?_, ?_⟩
  · have hc' : c ∈ l := by simpa [toS] using hc
    rcases h1 c hc' with k | k
    · cases k
    · exact ha c k
  · have : (toS l).length = l.length := by simp [toS, Str.length]
    simp only [List.length_nil, Nat.zero_add] at h2
    omega
theorem show_strs {ws : List Str} (h : ∀ w ∈ ws, asc w ∧ w.length ≤ 1000) (hl : ws.length ≤ 1001) : ShowOk (.list (ws.map PyData.str)) := by
  have h1 : ∀ ws : List Str, PyData.showableAll (ws.map PyData.str) = true := by
    intro ws; induction ws with
    | nil => rfl
    | cons w r ih => simp [PyData.showableAll, PyData.showable, ih]
  have h2 : ∀ ws : List Str, PyData.hasDictAll (ws.map PyData.str) = false := by
    intro ws; induction ws with
    | nil => rfl
    | cons w r ih => simp [PyData.hasDictAll, PyData.hasDict, ih]
  have h3 : ∀ ws : List Str, (∀ w ∈ ws, asc w ∧ w.length ≤ 1000) → PyData.leavesShortAll 8 (ws.map PyData.str) = true ∧ PyData.bulkAll (ws.map PyData.str) ≤ 1001 * ws.length := by
    intro ws; induction ws with
    | nil => intro _; exact ⟨rfl, by simp [PyData.bulkAll]⟩
    | cons w r ih =>
      intro h
      obtain ⟨i1, i2⟩ := ih fun z hz => h z (List.mem_cons_of_mem _ hz)
      obtain ⟨a1, a2⟩ := h w List.mem_cons_self
      constructor
      · show (PyData.leavesShort 8 (.str w) && PyData.leavesShortAll 8 (r.map PyData.str)) = true
        rw [i1, Bool.and_true]
        show (w.cps.toList.all fun c => decide (c < 16 ^ 8)) = true
        rw [List.all_eq_true]
        intro c hc
        exact decide_eq_true (Nat.lt_trans (a1 c hc) (by decide))
      · show PyData.bulk (.str w) + 1 + PyData.bulkAll (r.map PyData.str) ≤ _
        have : PyData.bulk (.str w) = w.length := by simp [PyData.bulk, Str.length]
        rw [this, List.length_cons]
        omega
  obtain ⟨l1, l2⟩ := h3 ws h
  refine ⟨h1 ws, h2 ws, ?_, ?_⟩
  · show PyData.depthAll _ + 1 ≤ 100
    rw [depth_strs]; decide
  · have := PyData.shown_le_bulk 8 (by decide) (.list (ws.map PyData.str)) l1
    have e : PyData.bulk (.list (ws.map PyData.str)) = PyData.bulkAll (ws.map PyData.str) := by simp [PyData.bulk]
    rw [e] at this
    have : sizeLine = 16777216 := by decide
    omega
/-- None or a small number -/
def smallP (p : PyData) : Prop := p = .none ∨ ∃ i : Int, p = .int i ∧ i.natAbs < 10 ^ 31
theorem show_small : ∀ {ps : List PyData}, (∀ p ∈ ps, smallP p) → ps.length ≤ 100 → ShowOk (.list ps) := by
  intro ps h hl
  have key : ∀ ps : List PyData, (∀ p ∈ ps, smallP p) → PyData.showableAll ps = true ∧ PyData.hasDictAll ps = false ∧ PyData.depthAll ps = 0 ∧ PyData.leavesShortAll 40 ps = true ∧ PyData.bulkAll ps = ps.length := by
    intro ps; induction ps with
    | nil => intro _; exact ⟨rfl, rfl, by simp [PyData.depthAll], rfl, by simp [PyData.bulkAll]⟩
    | cons p r ih =>
      intro h
      obtain ⟨i1, i2, i3, i4, i5⟩ := ih fun z hz => h z (List.mem_cons_of_mem _ hz)
      rcases h p List.mem_cons_self with rfl | ⟨i, rfl, hi⟩
      · exact ⟨by simp [PyData.showableAll, PyData.showable, i1], by simp [PyData.hasDictAll, PyData.hasDict, i2], by simp [PyData.depthAll, PyData.depth, i3], by simp [PyData.leavesShortAll, PyData.leavesShort, i4], by simp [PyData.bulkAll, PyData.bulk, i5]; omega⟩
      · exact ⟨by simp [PyData.showableAll, PyData.showable, i1, log_int hi], by simp [PyData.hasDictAll, PyData.hasDict, i2], by simp [PyData.depthAll, PyData.depth, i3], by simp [PyData.leavesShortAll, PyData.leavesShort, i4, show_int hi], by simp [PyData.bulkAll, PyData.bulk, i5]; omega⟩
  obtain ⟨k1, k2, k3, k4, k5⟩ := key ps h
  refine ⟨k1, k2, ?_, ?_⟩
  · show PyData.depthAll _ + 1 ≤ 100
    rw [k3]; decide
  · have := PyData.shown_le_bulk 40 (by decide) (.list ps) k4
    have e : PyData.bulk (.list ps) = PyData.bulkAll ps := by simp [PyData.bulk]
    rw [e, k5] at this
    have : sizeLine = 16777216 := by decide
    omega
theorem show_none : ShowOk .none := ⟨rfl, rfl, by decide, by decide +kernel⟩
end K02

namespace K02
open PySem PySem.Spec L2 L3
local macro_rules | `(tactic| walk_at "l3") => `(tactic| simp only [sSeq, sNext, sIf, sRet, sRetN, sSet, sDrop, sSub, sFor, sAsg, vVar, vC, vNil, vCons, vOp, vB, vChain, vAnd, vOr, vNot, vAndV, vOrV, vNotV, vIf, vUn, vCB, vLst, vTup, vLstT, vCall, vCal, vSl, vPart, vNoP, vLc, vBM, vBM0, iRg1, iRg2, iSeq, iStr3, vDict0, vDisp, vPairs,
  List.getElem?_cons_zero, List.getElem?_cons_succ, List.set_cons_zero, List.set_cons_succ, wipe3, endsOf_rt, endsOf_nx, g2I, g2I0, gN, gAdd_ii, gAdd_ss, gNeg_i, gMax2_ii, gMin2_ii, gLen_s, gEqS_ii, gEqS_ss, gEqS_bb, gNeS_ii, gNeS_ss, gIsN_n, gNotN_n, gSl_s, isNonD, if_true, if_false, Bool.false_eq_true])
/-! ### the program's words -/
theorem isi_str {μ : Mu} {x : D} {n : String} (h : tyD μ x = some n) : ∃ b, kitB n "str" = some b ∧ ((∃ i, x = .str i) ∧ b = true ∨ (∀ i, x ≠ .str i) ∧ b = false) := by
  cases x with
  | non => cases h; exact ⟨_, kb_NoneType_str, .inr ⟨nofun, rfl⟩⟩
  | bl i => cases h; exact ⟨_, kb_bool_str, .inr ⟨nofun, rfl⟩⟩
  | int i => cases h; exact ⟨_, kb_int_str, .inr ⟨nofun, rfl⟩⟩
  | str i => cases h; exact ⟨_, kb_str_str, .inl ⟨⟨i, rfl⟩, rfl⟩⟩
  | tup i => cases h; exact ⟨_, kb_tuple_str, .inr ⟨nofun, rfl⟩⟩
  | lst i => cases h; exact ⟨_, kb_list_str, .inr ⟨nofun, rfl⟩⟩
  | dct i => cases h; exact ⟨_, kb_dict_str, .inr ⟨nofun, rfl⟩⟩
  | ref a =>
    have h' : (match μ a with
      | some (.lst _) => some "list"
      | some (.dct _) => some "dict"
      | _ => none) = some n := h
    split at h'
    · cases h'; exact ⟨_, kb_list_str, .inr ⟨nofun, rfl⟩⟩
    · cases h'; exact ⟨_, kb_dict_str, .inr ⟨nofun, rfl⟩⟩
    · cases h'
  | _ => cases h
def okB (fl rf : D) (n : Int) : Bool := (match fl with
  | .int i => decide (i ≤ n)
  | _ => true) && (match rf with
  | .int i => decide (n ≤ i)
  | _ => true)
def isB (d : D) : Prop := d = .non ∨ ∃ i, d = .int i
def dueD (x fl rf : D) : D := match x with
  | .str z => bif shapeL z.cps.toList && !leadL z.cps.toList && okB fl rf (valL z.cps.toList) then .int (valL z.cps.toList) else .non
  | _ => .non
theorem due_s {z : Str} {fl rf : D} : dueD (.str z) fl rf = bif shapeL z.cps.toList && !leadL z.cps.toList && okB fl rf (valL z.cps.toList) then .int (valL z.cps.toList) else .non := rfl
theorem due_no {x fl rf : D} (h : ∀ z, x ≠ .str z) : dueD x fl rf = .non := by
  cases x with
  | str z => exact absurd rfl (h z)
  | _ => rfl
def sp_due : Sp3 := fun ds μ R => ∃ x n fl rf, ds = [x, fl, rf] ∧ tyD μ x = some n ∧ (∀ z, x = .str z → z.length ≤ 1000 ∧ asc z) ∧ isB fl ∧ isB rf ∧ R (dueD x fl rf) μ
/-- the part behind a leading minus -/
theorem body_of (z : Str) : (if decide (cutS z none (some 1) = Str.ofString "-") = true then cutS z (some 1) none else z).cps.toList = bodyL z.cps.toList := by
  by_cases h : cutS z none (some 1) = Str.ofString "-"
  · rw [decide_eq_true h, if_pos rfl, cut_tail]
    have e := cut_head z
    rw [h] at e
    have e2 : (Str.ofString "-").cps.toList = [45] := by decide +kernel
    rw [e2] at e
    cases q : z.cps.toList with
    | nil => rw [q] at e; cases e
    | cons c r =>
      rw [q] at e
      have : c = 45 := by simpa using e.symm
      rw [this]
      rfl
  · rw [decide_eq_false h, if_neg Bool.false_ne_true]
    unfold bodyL
    split
    · rename_i r e
      refine absurd (ext_l ?_) h
      rw [cut_head, e]
      show [45] = _
      decide +kernel
    · rfl
def sp_parse_integer : Sp3 := sp_due
def t_parse_integer_6 : TS3 := (sRet (vVar 5))
def t_parse_integer_5 : TS3 := sSeq (sIf (vOr (vAnd (vB (vOp gNotN (vVar 1) (vC .non))) (vB (vOp gLt (vVar 5) (vVar 1)))) (vAnd (vB (vOp gNotN (vVar 2) (vC .non))) (vB (vOp gGt (vVar 5) (vVar 2))))) (sRet (vC .non)) sNext) t_parse_integer_6
def t_parse_integer_4 : TS3 := sSeq (sSet 5 (vCB gInt (vCons (vVar 0) vNil))) t_parse_integer_5
def t_parse_integer_3 : TS3 := sSeq (sIf (vAnd (vB (vOp gEqS (vOp gIx (vVar 3) (vC (.int 0))) (vC (.str "0")))) (vB (vOp gNeS (vVar 0) (vC (.str "0"))))) (sRet (vC .non)) sNext) t_parse_integer_4
def t_parse_integer_2 : TS3 := sSeq (sIf (vOr (vNot (vB (vChain gLe gLe (vC (.int 1)) (vCB gLen (vCons (vVar 3) vNil)) (vC (.int 30))))) (vNot (vB (vCB gAll (vCons (vLc (iStr3 (vVar 3)) (gN 4) vYes (vOp gInS (vVar 4) (vC (.str "0123456789"))) [4]) vNil))))) (sRet (vC .non)) sNext) t_parse_integer_3
def t_parse_integer_1 : TS3 := sSeq (sSet 3 (vIf (vB (vOp gEqS (vSl (vVar 0) vNoP (vPart (vC (.int 1)))) (vC (.str "-")))) (vSl (vVar 0) (vPart (vC (.int 1))) vNoP) (vVar 0))) t_parse_integer_2
def t_parse_integer : TS3 := sSeq (sIf (vNot (vB (vCB gIsi (vCons (vVar 0) (vCons (vC (.ty "str")) vNil))))) (sRet (vC .non)) sNext) t_parse_integer_1
theorem parse_tail {R : DK} {μ : Mu} {z y : Str} {fl rf : D} {x4 x5 : Option D} (hy : y.cps.toList = bodyL z.cps.toList) (hz : z.length ≤ 1000) (hyz : y.length ≤ 1000) (hf : isB fl) (hr : isB rf) (h : R (dueD (.str z) fl rf) μ) :
    t_parse_integer_2 (endsOf R) [some (.str z), some fl, some rf, some (.str y), x4, x5] μ := by
  have hs : y.length ≤ sizeLine := Nat.le_trans hyz (by decide)
  have ly : y.length = (bodyL z.cps.toList).length := by rw [← hy]; simp [Str.length]
  have no : shapeL z.cps.toList = false → R .non μ := fun e => by
    have : dueD (.str z) fl rf = .non := by rw [due_s, e]; rfl
    rw [← this]; exact h
  unfold t_parse_integer_2
  walk_at "l3"
  refine ⟨hs, ?_⟩
  by_cases h1 : (1 : Int) ≤ y.length
  · by_cases h2 : (y.length : Int) ≤ 30
    · simp only [h1, h2, decide_true, if_true, Bool.not_true, Bool.false_eq_true, if_false]
      refine lc_mapOf _ (fun c => .bl (decide (c ∈ digS.cps.toList))) y.cps.toList [] (fun c hc R' hR => ⟨c, rfl, hR⟩) (by simpa [Str.length] using hs) ?_
      refine ⟨_, y.cps.toList.map fun c => decide (c ∈ digS.cps.toList), rfl, by show some _ = some _; simp, ?_⟩
      have e1 : (y.cps.toList.map fun c => decide (c ∈ digS.cps.toList)).all id = shapeL z.cps.toList := by
        unfold shapeL
        rw [← hy, decide_eq_true (show 1 ≤ y.cps.toList.length ∧ y.cps.toList.length ≤ 30 by rw [hy, ← ly]; omega)]
        simp
      rw [e1]
      cases hsh : shapeL z.cps.toList with
      | false => exact fin_now (no hsh)
      | true =>
        simp only [Bool.not_true, Bool.false_eq_true, if_false]
        obtain ⟨hi, hzl⟩ := int_of hsh
        have hne : ∃ c, y.cps.toList.head? = some c := by
          cases q : y.cps.toList with
          | nil => rw [hy] at q; rw [q] at ly; simp at ly; omega
          | cons c r => exact ⟨c, rfl⟩
        obtain ⟨c, hc⟩ := hne
        have hlead : leadL z.cps.toList = (decide ((⟨#[c]⟩ : Str) = Str.ofString "0") && !decide (z = Str.ofString "0")) := by
          unfold leadL
          rw [← hy, hc]
          have a1 : decide (some c = some 48) = decide ((⟨#[c]⟩ : Str) = Str.ofString "0") := by
            rw [Bool.eq_iff_iff, decide_eq_true_eq, decide_eq_true_eq]
            have e0 : Str.ofString "0" = ⟨#[48]⟩ := by decide +kernel
            rw [e0]
            simp
          have a2 : decide (z.cps.toList ≠ [48]) = !decide (z = Str.ofString "0") := by
            rw [Bool.eq_iff_iff, decide_eq_true_eq, Bool.not_eq_true', decide_eq_false_iff_not]
            have e0 : (Str.ofString "0").cps.toList = [48] := by decide +kernel
            rw [← e0]
            exact ⟨fun q e => q (by rw [e]), fun q e => q (ext_l e)⟩
          rw [a1, a2]
        unfold t_parse_integer_3
        walk_at "l3"
        refine gIx_s hs (atI_of (Int.le_refl 0) (by rw [← hc]; simp [List.head?_eq_getElem?])) ?_
        walk_at "l3"
        have yes : leadL z.cps.toList = false → t_parse_integer_4 (endsOf R) [some (.str z), some fl, some rf, some (.str y), x4, x5] μ := fun e => by
          unfold t_parse_integer_4 t_parse_integer_5 t_parse_integer_6
          walk_at "l3"
          refine ⟨_, hi, by omega, ?_⟩
          rw [due_s, hsh, e] at h
          simp only [Bool.not_false, Bool.true_and] at h
          generalize valL z.cps.toList = n at h ⊢
          rcases hf with rfl | ⟨i, rfl⟩ <;> rcases hr with rfl | ⟨j, rfl⟩ <;> simp only [isNonD, Bool.not_true, Bool.not_false, if_true, if_false, Bool.false_eq_true, okB, Bool.true_and, Bool.and_true] at h ⊢ <;> (try walk_at "l3")
          · exact fin_now h
          · by_cases q : j < n
            · simp only [q, decide_true, if_true]
              rw [decide_eq_false (by omega)] at h
              exact fin_now h
            · simp only [q, decide_false, Bool.false_eq_true, if_false]
              rw [decide_eq_true (by omega)] at h
              exact fin_now h
          · by_cases q : n < i
            · simp only [q, decide_true, if_true]
              rw [decide_eq_false (by omega)] at h
              exact fin_now h
            · simp only [q, decide_false, Bool.false_eq_true, if_false]
              rw [decide_eq_true (by omega)] at h
              exact fin_now h
          · by_cases q : n < i
            · simp only [q, decide_true, if_true]
              rw [decide_eq_false (by omega)] at h
              exact fin_now h
            · simp only [q, decide_false, Bool.false_eq_true, if_false]
              rw [decide_eq_true (show i ≤ n by omega)] at h
              by_cases q2 : j < n
              · simp only [q2, decide_true, if_true]
                rw [decide_eq_false (by omega)] at h
                exact fin_now h
              · simp only [q2, decide_false, Bool.false_eq_true, if_false]
                rw [decide_eq_true (by omega)] at h
                exact fin_now h
        have nope : leadL z.cps.toList = true → R .non μ := fun e => by
          rw [due_s, hsh, e] at h
          exact h
        cases q1 : decide ((⟨#[c]⟩ : Str) = Str.ofString "0") with
        | false => rw [q1] at hlead; exact yes hlead
        | true =>
          rw [q1, Bool.true_and] at hlead
          simp only [if_true]
          cases q2 : !decide (z = Str.ofString "0") with
          | false => rw [q2] at hlead; exact yes hlead
          | true => rw [q2] at hlead; exact fin_now (nope hlead)
    · simp only [h1, h2, decide_true, decide_false, if_true, Bool.not_false]
      refine fin_now (no ?_)
      unfold shapeL
      rw [decide_eq_false (by omega)]
      rfl
  · simp only [h1, decide_false, Bool.false_eq_true, if_false, Bool.not_false, if_true]
    refine fin_now (no ?_)
    unfold shapeL
    rw [decide_eq_false (by omega)]
    rfl
theorem pure_parse_integer (ds : List D) (μ : Mu) (R : DK) (hl : ds.length = 3) (h : sp_parse_integer ds μ R) : t_parse_integer (endsOf R) (start3 ["text", "low", "high", "digits", "sign", "number"] ds) μ := by
  obtain ⟨x, n, fl, rf, rfl, ht, hz, hf, hr, h⟩ := h
  show t_parse_integer (endsOf R) [some x, some fl, some rf, none, none, none] μ
  unfold t_parse_integer t_parse_integer_1
  walk_at "l3"
  obtain ⟨b, hb, hc⟩ := isi_str ht
  refine ⟨n, b, ht, hb, ?_⟩
  rcases hc with ⟨⟨z, rfl⟩, rfl⟩ | ⟨hi, rfl⟩
  · have hz' := (hz z rfl).1
    have hs : z.length ≤ sizeLine := Nat.le_trans hz' (by decide)
    have hbod := body_of z
    simp only [Bool.not_true, Bool.false_eq_true, if_false]
    walk_at "l3"
    refine ⟨hs, ?_⟩
    by_cases hm : cutS z none (some 1) = Str.ofString "-"
    · simp only [hm, decide_true, if_true] at hbod ⊢
      exact ⟨hs, parse_tail hbod hz' (Nat.le_trans (cutS_length z _ _) hz') hf hr h⟩
    · simp only [hm, decide_false, Bool.false_eq_true, if_false] at hbod ⊢
      exact parse_tail hbod hz' hz' hf hr h
  · rw [due_no hi] at h
    exact fin_now h
/-! ### words -/
def wordsO : D → Option (List Str)
  | .str z => bif decide (Str.ofString "" ∈ (cutL [] z.cps.toList).map toS) then none else some ((cutL [] z.cps.toList).map toS)
  | _ => none
theorem words_no {x : D} (h : ∀ z, x ≠ .str z) : wordsO x = none := by
  cases x with
  | str z => exact absurd rfl (h z)
  | _ => rfl
def sp_words : Sp3 := fun ds μ R => ∃ x n, ds = [x] ∧ tyD μ x = some n ∧ (∀ z, x = .str z → z.length ≤ 1000 ∧ asc z) ∧ (wordsO x = none → R .non μ) ∧ ∀ ws, wordsO x = some ws → ∀ q, μ q = none → R (.ref q) (mset μ q (.lst (ws.map D.str)))
theorem flat_strs (ws : List Str) : (ws.map D.str).all flatD = true := by simp [List.all_map, flatD]
theorem in_strs (a : Str) (ws : List Str) : inD (.str a) (ws.map D.str) = decide (a ∈ ws) := by
  unfold inD
  rw [List.any_map, Bool.eq_iff_iff, List.any_eq_true, decide_eq_true_eq]
  constructor
  · rintro ⟨x, hx, e⟩
    have e' : (x == a) = true := e
    rw [beq_iff_eq] at e'
    rw [← e']; exact hx
  · intro h
    exact ⟨a, h, (by show (a == a) = true; simp)⟩
theorem mset_mset {μ : Mu} {a : Addr} {x y : MO} : mset (mset μ a x) a y = mset μ a y := by
  funext b
  unfold mset
  by_cases h : b = a <;> simp [h]
theorem le_mset {μ : Mu} {a : Addr} {x : MO} (h : μ a = none) : Le μ (mset μ a x) := (Le.refl μ).mset h
/-- what both end with: None if "" is in the list, else the list -/
theorem words_end {R : DK} {μ : Mu} {q : Addr} {z : Str} (hq : μ q = none) (h1 : wordsO (.str z) = none → R .non μ) (h2 : ∀ ws, wordsO (.str z) = some ws → R (.ref q) (mset μ q (.lst (ws.map D.str)))) :
    gInL false (.str (Str.ofString "")) (.ref q) (mset μ q (.lst (((cutL [] z.cps.toList).map toS).map D.str))) fun d μ1 => match d with
      | .bl b => if b = true then fin R .non μ1 else fin R (.ref q) μ1
      | _ => False := by
  have e : seqOf (mset μ q (.lst (((cutL [] z.cps.toList).map toS).map D.str))) (.ref q) = some (((cutL [] z.cps.toList).map toS).map D.str) := by simp only [seqOf, mset_same]
  unfold gInL
  rw [e]
  refine ⟨rfl, flat_strs _, ?_⟩
  simp only [Bool.false_eq_true, if_false, in_strs]
  have hw : wordsO (.str z) = bif decide (Str.ofString "" ∈ (cutL [] z.cps.toList).map toS) then none else some ((cutL [] z.cps.toList).map toS) := rfl
  cases q1 : decide (Str.ofString "" ∈ (cutL [] z.cps.toList).map toS) with
  | true =>
    rw [q1] at hw
    simp only [if_true]
    exact fin_same (le_mset hq) (h1 hw)
  | false =>
    rw [q1] at hw
    simp only [Bool.false_eq_true, if_false]
    exact fin_now (h2 _ hw)
def sp_split_words : Sp3 := sp_words
def t_split_words_2 : TS3 := (sRet (vIf (vB (vOp (gInL false) (vC (.str "")) (vVar 1))) (vC .non) (vVar 1)))
def t_split_words_1 : TS3 := sSeq (sSet 1 (vBM "str" gSplit (vVar 0) (vCons (vC (.str " ")) vNil))) t_split_words_2
def t_split_words : TS3 := sSeq (sIf (vNot (vB (vCB gIsi (vCons (vVar 0) (vCons (vC (.ty "str")) vNil))))) (sRet (vC .non)) sNext) t_split_words_1
theorem pure_split_words (ds : List D) (μ : Mu) (R : DK) (hl : ds.length = 1) (h : sp_split_words ds μ R) : t_split_words (endsOf R) (start3 ["text", "words"] ds) μ := by
  obtain ⟨x, n, rfl, ht, hz, h1, h2⟩ := h
  show t_split_words (endsOf R) [some x, none] μ
  unfold t_split_words
  walk_at "l3"
  obtain ⟨b, hb, hc⟩ := isi_str ht
  refine ⟨n, b, ht, hb, ?_⟩
  rcases hc with ⟨⟨z, rfl⟩, rfl⟩ | ⟨hi, rfl⟩
  · have hz' := (hz z rfl).1
    simp only [Bool.not_true, Bool.false_eq_true, if_false]
    unfold t_split_words_1 t_split_words_2
    walk_at "l3"
    refine ⟨rfl, by decide +kernel, Nat.le_trans (by omega : z.length + 2 ≤ 2000) (by decide), fun q hq => ?_⟩
    rw [split_cut]
    exact words_end hq h1 fun ws hw => h2 ws hw q hq
  · exact fin_now (h1 (words_no hi))
/-! ### the law's draws -/
structure BoxOk (n : Nat) (c0 c1 c2 : Int) : Prop where
  h0 : 0 ≤ c0
  h1 : 0 ≤ c1
  h2 : c1 < 2147483629
  h3 : 0 ≤ c2
  h4 : c2 ≤ n
/-- at b: a box from which at most n draws were made by reckoning -/
def Box (μ : Mu) (b : Addr) (n : Nat) : Prop := ∃ c0 c1 c2, μ b = some (.lst [.int c0, .int c1, .int c2]) ∧ BoxOk n c0 c1 c2
def Onl (b : Addr) (μ μ' : Mu) : Prop := ∀ a, a ≠ b → μ' a = μ a
theorem Onl.refl (b : Addr) (μ : Mu) : Onl b μ μ := fun _ _ => rfl
theorem Onl.trans {b : Addr} {μ μ1 μ2 : Mu} (h : Onl b μ μ1) (k : Onl b μ1 μ2) : Onl b μ μ2 := fun a ha => (k a ha).trans (h a ha)
theorem Box.mono {μ : Mu} {b : Addr} {n m : Nat} (h : Box μ b n) (l : n ≤ m) : Box μ b m := by
  obtain ⟨c0, c1, c2, e, k⟩ := h
  exact ⟨c0, c1, c2, e, k.h0, k.h1, k.h2, k.h3, by have := k.h4; omega⟩
def sp__law_cell : Sp3 := fun ds μ R => ∃ (ns : List Int) (k : Nat), ds = [.scr (ns.map D.int), .int k] ∧ k ≤ 100 ∧ ∀ z, R (.int z) μ
def t__law_cell_1 : TS3 := (sRet (vOp gAdd (vOp gMul (vC (.int 7919)) (vVar 1)) (vC (.int 131))))
def t__law_cell : TS3 := sSeq (sIf (vB (vOp gLt (vVar 1) (vCB gLen (vCons (vVar 0) vNil)))) (sRet (vOp gIx (vVar 0) (vVar 1))) sNext) t__law_cell_1
theorem pure__law_cell (ds : List D) (μ : Mu) (R : DK) (hl : ds.length = 2) (h : sp__law_cell ds μ R) : t__law_cell (endsOf R) (start3 ["_law_script", "_law_k"] ds) μ := by
  obtain ⟨ns, k, rfl, hk, h⟩ := h
  show t__law_cell (endsOf R) [some (.scr (ns.map D.int)), some (.int k)] μ
  unfold t__law_cell t__law_cell_1
  walk_at "l3"
  refine ⟨_, rfl, ?_⟩
  walk_at "l3"
  by_cases hlt : (k : Int) < ((ns.map D.int).length : Nat)
  · simp only [hlt, decide_true, if_true]
    have hk2 : k < ns.length := by simpa using hlt
    refine ⟨ns.map D.int, .int ns[k], rfl, ?_, fin_now (h _)⟩
    unfold atI ixN
    rw [if_pos (by omega), if_pos hlt]
    simp [hk2]
  · simp only [hlt, decide_false, Bool.false_eq_true, if_false]
    refine ⟨?_, fin_now (h _)⟩
    exact wide_mul (a := 20) (b := 20) (by decide) (by omega) (by decide) (by decide) (by decide)
def sp__law_box : Sp3 := fun ds μ R => ∃ z, ds = [.int z] ∧ ∀ b μ', μ b = none → Onl b μ μ' → Box μ' b 0 → R (.ref b) μ'
def t__law_box : TS3 := (sRet (vLstT (vCons (vCB gMax2 (vCons (vC (.int 0)) (vCons (vOp gSub (vVar 0) (vOp gPow (vC (.int 10)) (vC (.int 18)))) vNil))) (vCons (vOp gMod (vVar 0) (vC (.int 2147483629))) (vCons (vC (.int 0)) vNil)))))
theorem pure__law_box (ds : List D) (μ : Mu) (R : DK) (hl : ds.length = 1) (h : sp__law_box ds μ R) : t__law_box (endsOf R) (start3 ["_law_cell_here"] ds) μ := by
  obtain ⟨z, rfl, h⟩ := h
  show t__law_box (endsOf R) [some (.int z)] μ
  unfold t__law_box
  walk_at "l3"
  refine ⟨⟨by decide, by decide, by decide⟩, ?_⟩
  refine ⟨by decide, (by show 3 ≤ sizeLine; decide), fun q hq => fin_now (h q _ hq (fun a ha => mset_ne ha) ⟨_, _, _, mset_same, ?_⟩)⟩
  exact ⟨by omega, by omega, by omega, by decide, by decide⟩
def sp__law_take : Sp3 := fun ds μ R => ∃ b m n, ds = [.ref b, .int m] ∧ Box μ b n ∧ n < 1099511627776 ∧ 0 < m ∧ m < 1152921504606846976 ∧ ∀ r μ', 0 ≤ r → r < m → Onl b μ μ' → Box μ' b (n + 1) → R (.int r) μ'
def t__law_take_4 : TS3 := (sRet (vOp gMod (vOp gDiv (vVar 3) (vC (.int 8))) (vVar 1)))
def t__law_take_3 : TS3 := sSeq (sSet 3 (vOp gMod (vOp gPow (vOp gAdd (vVar 3) (vOp gMul (vC (.int 104729)) (vOp gIx (vVar 0) (vC (.int 2))))) (vC (.int 3))) (vC (.int 2147483587)))) t__law_take_4
def t__law_take_2 : TS3 := sSeq (sSet 3 (vOp gMod (vOp gPow (vOp gAdd (vOp gAdd (vOp gIx (vVar 0) (vC (.int 1))) (vOp gMul (vC (.int 7919)) (vOp gIx (vVar 0) (vC (.int 2))))) (vC (.int 43))) (vC (.int 5))) (vC (.int 2147483647)))) t__law_take_3
def t__law_take_1 : TS3 := sSeq (sSub gSetL (vOp gAdd (vOp gIx (vVar 0) (vC (.int 2))) (vC (.int 1))) (vVar 0) (vC (.int 2))) t__law_take_2
def t__law_take : TS3 := sSeq (sIf (vB (vOp gGt (vOp gIx (vVar 0) (vC (.int 0))) (vC (.int 0)))) (sSeq (sSet 2 (vOp gMod (vOp gIx (vVar 0) (vC (.int 0))) (vVar 1))) (sSeq (sSub gSetL (vOp gDiv (vOp gIx (vVar 0) (vC (.int 0))) (vVar 1)) (vVar 0) (vC (.int 0))) (sRet (vVar 2)))) sNext) t__law_take_1
theorem pure__law_take (ds : List D) (μ : Mu) (R : DK) (hl : ds.length = 2) (h : sp__law_take ds μ R) : t__law_take (endsOf R) (start3 ["_law_box_here", "_law_many", "_law_digit", "_law_number"] ds) μ := by
  obtain ⟨b, m, n, rfl, ⟨c0, c1, c2, e, k⟩, hn, hm, hm2, h⟩ := h
  show t__law_take (endsOf R) [some (.ref b), some (.int m), none, none] μ
  unfold t__law_take t__law_take_1 t__law_take_2 t__law_take_3 t__law_take_4
  walk_at "l3"
  refine ix_ref e rfl ?_
  walk_at "l3"
  by_cases hp : 0 < c0
  · simp only [hp, decide_true, if_true]
    refine ix_ref e rfl ⟨hm, ?_⟩
    refine ix_ref e rfl ⟨⟨hm, ?_⟩, ?_⟩
    · have := PySem.Flt.log2_lt_of (n := m.natAbs) (k := 60) (by decide) (by omega)
      omega
    · refine set_ref e rfl (fin_now ?_)
      refine h _ _ (Int.emod_nonneg _ (by omega)) (Int.emod_lt_of_pos _ hm) (fun a ha => mset_ne ha) ⟨_, _, _, mset_same, ?_⟩
      exact ⟨Int.ediv_nonneg k.h0 (by omega), k.h1, k.h2, k.h3, by have := k.h4; omega⟩
  · simp only [hp, decide_false, Bool.false_eq_true, if_false]
    have k4 := k.h4
    have k3 := k.h3
    have k2 := k.h2
    have k1 := k.h1
    refine ix_ref e rfl ?_
    rw [gAdd_ii]
    refine set_ref (i := 2) (j := 2) (v := .int (c2 + 1)) e rfl ?_
    have e1 : (mset μ b (.lst ([.int c0, .int c1, .int c2].set 2 (.int (c2 + 1))))) b = some (.lst [.int c0, .int c1, .int (c2 + 1)]) := mset_same
    refine ix_ref e1 rfl (ix_ref e1 rfl ⟨?_, ?_⟩)
    · exact wide_mul (a := 20) (b := 64) (by decide) (by omega) (by decide) (by decide) (by decide)
    refine ⟨⟨by decide, by decide, by omega⟩, ?_⟩
    refine ⟨(by show (0 : Int) < 2147483647; decide), ?_⟩
    refine ix_ref e1 rfl ⟨?_, ?_⟩
    · exact wide_mul (a := 20) (b := 64) (by decide) (by omega) (by decide) (by decide) (by decide)
    generalize hx : ((c1 + 7919 * (c2 + 1) + 43) ^ (5 : Int).toNat) % 2147483647 = x1
    have hx0 : 0 ≤ x1 := by rw [← hx]; exact Int.emod_nonneg _ (by decide)
    have hx1 : x1 < 2147483647 := by rw [← hx]; exact Int.emod_lt_of_pos _ (by decide)
    refine ⟨⟨by decide, by decide, by omega⟩, ?_⟩
    refine ⟨(by show (0 : Int) < 2147483587; decide), ?_⟩
    refine ⟨⟨by decide, by decide⟩, hm, fin_now ?_⟩
    refine h _ _ (Int.emod_nonneg _ (by omega)) (Int.emod_lt_of_pos _ hm) (fun a ha => mset_ne ha) ⟨_, _, _, mset_same, ?_⟩
    exact ⟨k.h0, k.h1, k.h2, by omega, by omega⟩
theorem join1 (zs : List Str) (h : ∀ a ∈ zs, a.length = 1) : (Txt.join (Str.ofString "") zs).length = zs.length := PySem.W.KT.join_ones zs h
theorem sum1 (zs : List Str) (h : ∀ a ∈ zs, a.length = 1) : (zs.map (·.length)).sum = zs.length := by
  induction zs with
  | nil => rfl
  | cons a r ih => rw [List.map_cons, List.sum_cons, h a List.mem_cons_self, ih fun b hb => h b (List.mem_cons_of_mem _ hb), List.length_cons]; omega
/-- what stood there ahead stays, but for the box -/
def Keeps (b : Addr) (μ μ' : Mu) : Prop := ∀ a o, a ≠ b → μ a = some o → μ' a = some o
theorem Keeps.refl (b : Addr) (μ : Mu) : Keeps b μ μ := fun _ _ _ h => h
theorem Keeps.onl {b : Addr} {μ μ1 μ2 : Mu} (h : Keeps b μ μ1) (o : Onl b μ1 μ2) : Keeps b μ μ2 := fun a x ha e => by rw [o a ha]; exact h a x ha e
theorem Keeps.fresh {b : Addr} {μ μ1 : Mu} {n : Nat} {q : Addr} (h : Keeps b μ μ1) (bx : Box μ1 b n) (hq : μ1 q = none) : μ q = none ∧ q ≠ b := by
  have hb : q ≠ b := fun e => by obtain ⟨_, _, _, e2, _⟩ := bx; rw [e, e2] at hq; cases hq
  refine ⟨?_, hb⟩
  cases e : μ q with
  | none => rfl
  | some o => rw [h q o hb e] at hq; cases hq
theorem Keeps.put {b : Addr} {μ μ1 : Mu} {q : Addr} {o : MO} (h : Keeps b μ μ1) (hq : μ q = none) : Keeps b μ (mset μ1 q o) := fun a x ha e => by
  have : a ≠ q := fun e' => by rw [e', hq] at e; cases e
  rw [mset_ne this]; exact h a x ha e
theorem Box.put {b : Addr} {μ : Mu} {n : Nat} {q : Addr} {o : MO} (h : Box μ b n) (hq : q ≠ b) : Box (mset μ q o) b n := by
  obtain ⟨c0, c1, c2, e, k⟩ := h
  exact ⟨c0, c1, c2, by rw [mset_ne (Ne.symm hq)]; exact e, k⟩
/-- a def ends: what it made is forgotten -/
theorem fin_box {b : Addr} {n : Nat} {μ μ' : Mu} {R : DK} {d : D} (s : Keeps b μ μ') (bx : Box μ' b n) (h : ∀ μ2, Onl b μ μ2 → Box μ2 b n → R d μ2) : fin R d μ' := by
  refine fin_same (μ' := fun a => if a = b then μ' b else μ a) (fun a o e => ?_) (h _ (fun a ha => if_neg ha) ?_)
  · by_cases ha : a = b
    · subst ha; simpa using e
    · exact s a o ha (by simpa [ha] using e)
  · obtain ⟨c0, c1, c2, e, k⟩ := bx
    exact ⟨c0, c1, c2, by simp only [if_true]; exact e, k⟩
def sp__law_words : Sp3 := sp_words
def t__law_words_3 : TS3 := (sRet (vIf (vB (vOp (gInL false) (vC (.str "")) (vVar 1))) (vC .non) (vVar 1)))
def t__law_words_2 : TS3 := sSeq (sFor (iStr3 (vVar 0)) (gN 2) (sIf (vB (vOp gEqS (vVar 2) (vC (.str " ")))) (sDrop (vBM "list" gApp (vVar 1) (vCons (vC (.str "")) vNil))) (sSub gSetL (vOp gAdd (vOp gIx (vVar 1) (vUn gNeg (vC (.int 1)))) (vVar 2)) (vVar 1) (vUn gNeg (vC (.int 1)))))) t__law_words_3
def t__law_words_1 : TS3 := sSeq (sSet 1 (vLstT (vCons (vC (.str "")) vNil))) t__law_words_2
def t__law_words : TS3 := sSeq (sIf (vNot (vB (vCB gIsi (vCons (vVar 0) (vCons (vC (.ty "str")) vNil))))) (sRet (vC .non)) sNext) t__law_words_1
theorem pure__law_words (ds : List D) (μ : Mu) (R : DK) (hl : ds.length = 1) (h : sp__law_words ds μ R) : t__law_words (endsOf R) (start3 ["_law_text", "_law_found", "_law_sign"] ds) μ := by
  obtain ⟨x, n, rfl, ht, hz, h1, h2⟩ := h
  show t__law_words (endsOf R) [some x, none, none] μ
  unfold t__law_words
  walk_at "l3"
  obtain ⟨b, hb, hc⟩ := isi_str ht
  refine ⟨n, b, ht, hb, ?_⟩
  rcases hc with ⟨⟨z, rfl⟩, rfl⟩ | ⟨hi, rfl⟩
  · have hz' := (hz z rfl).1
    simp only [Bool.not_true, Bool.false_eq_true, if_false]
    unfold t__law_words_1
    walk_at "l3"
    refine ⟨(by show 1 ≤ sizeLine; decide), fun q hq => ?_⟩
    unfold t__law_words_2
    walk_at "l3"
    refine for_ind (W := fun ds δ μ' => ∃ done acc rest y, ds = rest.map (fun c => D.str ⟨#[c]⟩) ∧ done.length + acc.length + rest.length ≤ 1000 ∧ cutL [] z.cps.toList = done ++ cutL acc rest ∧ δ = [some (.str z), some (.ref q), y] ∧ μ' = mset μ q (.lst (((done ++ [acc]).map toS).map D.str))) ?_ ?_ _ _ _ ⟨[], [], z.cps.toList, none, rfl, by simpa [Str.length] using hz', rfl, rfl, ?_⟩
    · rintro δ μ' ⟨done, acc, rest, y, e1, hlen, e2, rfl, rfl⟩
      refine ⟨trivial, ?_⟩
      obtain rfl : rest = [] := by cases rest with | nil => rfl | cons a r => cases e1
      have e3 : done ++ [acc] = cutL [] z.cps.toList := e2.symm
      rw [e3]
      dsimp only
      unfold t__law_words_3
      walk_at "l3"
      exact words_end hq h1 fun ws hw => h2 ws hw q hq
    · rintro d ds δ μ' ⟨done, acc, rest, y, e1, hlen, e2, rfl, rfl⟩
      obtain ⟨c, r, rfl⟩ : ∃ c r, rest = c :: r := by cases rest with | nil => cases e1 | cons a r => exact ⟨a, r, rfl⟩
      obtain ⟨rfl, rfl⟩ := List.cons.inj e1
      refine ⟨trivial, _, rfl, fun N hN => ?_⟩
      walk_at "l3"
      have hcs : decide ((⟨#[c]⟩ : Str) = Str.ofString " ") = decide (c = 32) := by
        have e0 : Str.ofString " " = ⟨#[32]⟩ := by decide +kernel
        rw [e0, Bool.eq_iff_iff, decide_eq_true_eq, decide_eq_true_eq]
        simp
      rw [hcs]
      have hl2 : done.length + acc.length + (r.length + 1) ≤ 1000 := hlen
      by_cases hc : c = 32
      · simp only [hc, decide_true, if_true]
        refine ⟨.inl ⟨rfl, _, mset_same⟩, q, _, _, rfl, rfl, mset_same, ?_, hN _ _ ⟨done ++ [acc], [], r, _, rfl, by simp; omega, ?_, rfl, ?_⟩⟩
        · simp only [List.length_map, List.length_append, List.length_cons, List.length_nil]
          exact Nat.lt_of_lt_of_le (by omega : _ < 2000) (by decide)
        · rw [e2]
          show done ++ cutL acc (c :: r) = _
          conv => lhs; rw [cutL]
          rw [if_pos hc, List.append_assoc]
          rfl
        · rw [mset_mset]
          congr 2
          simp
          decide +kernel
      · simp only [hc, decide_false, Bool.false_eq_true, if_false]
        have hll : (((done ++ [acc]).map toS).map D.str).length = done.length + 1 := by simp
        have em : (mset μ q (.lst (((done ++ [acc]).map toS).map D.str))) q = some (.lst (((done ++ [acc]).map toS).map D.str)) := mset_same
        have hat : atI (((done ++ [acc]).map toS).map D.str) (-1) = some (.str (toS acc)) := by
          unfold atI ixN
          rw [hll, if_neg (by decide), if_pos (by omega)]
          have en : (-1 + ((done.length + 1 : Nat) : Int)).toNat = done.length := by omega
          simp only [Option.bind_some, en]
          simp
        refine ix_ref em hat ?_
        walk_at "l3"
        have l1 : (toS acc).length = acc.length := by simp [toS, Str.length]
        have l2 : (⟨#[c]⟩ : Str).length = 1 := rfl
        refine ⟨Nat.le_trans (by omega : _ ≤ 2000) (by decide), ?_⟩
        refine set_ref (j := done.length) em ?_ (hN _ _ ⟨done, acc ++ [c], r, _, rfl, by simp; omega, ?_, rfl, ?_⟩)
        · unfold ixN
          rw [hll, if_neg (by decide), if_pos (by omega)]
          have en : (-1 + ((done.length + 1 : Nat) : Int)).toNat = done.length := by omega
          rw [en]
        · rw [e2]
          show done ++ cutL acc (c :: r) = _
          conv => lhs; rw [cutL]
          rw [if_neg hc]
        · rw [mset_mset]
          congr 2
          have : toS acc ++ (⟨#[c]⟩ : Str) = toS (acc ++ [c]) := by
            apply ext_l
            show (acc.toArray ++ #[c]).toList = (acc ++ [c]).toArray.toList
            simp
          rw [this]
          simp [List.set_append]
    · rfl
  · exact fin_now (h1 (words_no hi))
def sp__law_due : Sp3 := sp_due
def t__law_due_5 : TS3 := (sRet (vIf (vAnd (vOr (vB (vOp gIsN (vVar 1) (vC .non))) (vB (vOp gGe (vVar 5) (vVar 1)))) (vOr (vB (vOp gIsN (vVar 2) (vC .non))) (vB (vOp gLe (vVar 5) (vVar 2))))) (vVar 5) (vC .non)))
def t__law_due_4 : TS3 := sSeq (sSet 5 (vCB gInt (vCons (vVar 0) vNil))) t__law_due_5
def t__law_due_3 : TS3 := sSeq (sIf (vB (vOp gNeS (vCB gStr (vCons (vCB gInt (vCons (vVar 0) vNil)) vNil)) (vVar 0))) (sRet (vC .non)) sNext) t__law_due_4
def t__law_due_2 : TS3 := sSeq (sIf (vOr (vNot (vB (vChain gLe gLe (vC (.int 1)) (vCB gLen (vCons (vVar 3) vNil)) (vC (.int 30))))) (vB (vOp gNeD (vLc (iStr3 (vVar 3)) (gN 4) (vB (vOp gNotInS (vVar 4) (vC (.str "0123456789")))) (vVar 4) [4]) (vLst vNil)))) (sRet (vC .non)) sNext) t__law_due_3
def t__law_due_1 : TS3 := sSeq (sSet 3 (vIf (vB (vOp gEqS (vSl (vVar 0) vNoP (vPart (vC (.int 1)))) (vC (.str "-")))) (vSl (vVar 0) (vPart (vC (.int 1))) vNoP) (vVar 0))) t__law_due_2
def t__law_due : TS3 := sSeq (sIf (vNot (vB (vCB gIsi (vCons (vVar 0) (vCons (vC (.ty "str")) vNil))))) (sRet (vC .non)) sNext) t__law_due_1
theorem sh_strs {μ : Mu} : ∀ ws : List Str, Shs μ (ws.map D.str) (ws.map PyData.str)
  | [] => .nil
  | w :: r => .cons (.str w) (sh_strs r)
theorem due_tail {R : DK} {μ : Mu} {z y : Str} {fl rf : D} {x4 x5 : Option D} (hya : asc y) (hy : y.cps.toList = bodyL z.cps.toList) (hz : z.length ≤ 1000) (hyz : y.length ≤ 1000) (hf : isB fl) (hr : isB rf) (h : R (dueD (.str z) fl rf) μ) :
    t__law_due_2 (endsOf R) [some (.str z), some fl, some rf, some (.str y), x4, x5] μ := by
  have hs : y.length ≤ sizeLine := Nat.le_trans hyz (by decide)
  have ly : y.length = (bodyL z.cps.toList).length := by rw [← hy]; simp [Str.length]
  have no : shapeL z.cps.toList = false → R .non μ := fun e => by
    have : dueD (.str z) fl rf = .non := by rw [due_s, e]; rfl
    rw [← this]; exact h
  unfold t__law_due_2
  walk_at "l3"
  refine ⟨hs, ?_⟩
  by_cases h1 : (1 : Int) ≤ y.length
  · by_cases h2 : (y.length : Int) ≤ 30
    · simp only [h1, h2, decide_true, if_true, Bool.not_true, Bool.false_eq_true, if_false]
      refine lc_filterOf (fun c => !decide (c ∈ digS.cps.toList)) _ (fun c => .str ⟨#[c]⟩) y.cps.toList [] (fun c hc R' hR => ⟨c, rfl, hR⟩) (fun c hc _ R' hR => hR) (by simpa [Str.length] using hs) ?_
      rw [List.nil_append]
      have hflt : (List.filter (fun c => !decide (c ∈ digS.cps.toList)) y.cps.toList = []) ↔ shapeL z.cps.toList = true := by
        unfold shapeL
        rw [← hy, decide_eq_true (show 1 ≤ y.cps.toList.length ∧ y.cps.toList.length ≤ 30 by rw [hy, ← ly]; omega), Bool.true_and, List.filter_eq_nil_iff, List.all_eq_true]
        simp
      have hfl : (List.filter (fun c => !decide (c ∈ digS.cps.toList)) y.cps.toList).length ≤ 1000 := Nat.le_trans (List.length_filter_le _ _) (by simpa [Str.length] using hyz)
      have hba : ∀ c ∈ List.filter (fun c => !decide (c ∈ digS.cps.toList)) y.cps.toList, c < 128 := fun c hc => hya c (List.mem_filter.mp hc).1
      generalize hq : List.filter (fun c => !decide (c ∈ digS.cps.toList)) y.cps.toList = bad at hflt hfl hba
      refine ⟨(by show 0 ≤ sizeLine; decide), .list ((bad.map fun c => (⟨#[c]⟩ : Str)).map PyData.str), .list [], .lst ?_, .lst .nil, ?_, by decide +kernel, ?_⟩
      · have := sh_strs (μ := μ) (bad.map fun c => (⟨#[c]⟩ : Str))
        rw [List.map_map] at this
        exact this
      · refine shaped_strs fun w hw => ?_
        obtain ⟨c, hc, rfl⟩ := List.mem_map.mp hw
        intro d hd
        have : d = c := by simpa using hd
        rw [this]
        exact hba c hc
      have eqv : PyData.eqv (.list ((bad.map fun c => (⟨#[c]⟩ : Str)).map PyData.str)) (.list []) = decide (bad = []) := by
        cases bad <;> rfl
      rw [eqv]
      by_cases hb : bad = []
      · have hsh := hflt.mp hb
        simp only [hb, decide_true, Bool.not_true, Bool.false_eq_true, if_false]
        obtain ⟨hi, hzl⟩ := int_of hsh
        unfold t__law_due_3
        walk_at "l3"
        refine ⟨_, hi, by omega, ?_, ?_⟩
        · have := PySem.Flt.log2_lt_of (n := (valL z.cps.toList).natAbs) (k := 100) (by decide) (Nat.lt_trans (val_bound hsh) (by decide))
          omega
        have hst := str_of hsh
        walk_at "l3"
        cases hle : leadL z.cps.toList with
        | true =>
          rw [decide_eq_false (fun q => by rw [hst.mp q] at hle; cases hle)]
          rw [due_s, hsh, hle] at h
          exact fin_now h
        | false =>
          rw [decide_eq_true (hst.mpr hle)]
          simp only [Bool.not_true, Bool.false_eq_true, if_false]
          unfold t__law_due_4 t__law_due_5
          walk_at "l3"
          refine ⟨_, hi, by omega, ?_⟩
          rw [due_s, hsh, hle] at h
          simp only [Bool.not_false, Bool.true_and] at h
          generalize valL z.cps.toList = n at h ⊢
          rcases hf with rfl | ⟨i, rfl⟩ <;> rcases hr with rfl | ⟨j, rfl⟩ <;> simp only [isNonD, Bool.not_true, Bool.not_false, if_true, if_false, Bool.false_eq_true, okB, Bool.true_and, Bool.and_true] at h ⊢ <;> (try walk_at "l3")
          · exact fin_now h
          · by_cases q : n ≤ j
            · simp only [q, decide_true, if_true] at h ⊢
              exact fin_now h
            · simp only [q, decide_false, Bool.false_eq_true, if_false] at h ⊢
              exact fin_now h
          · by_cases q : i ≤ n
            · simp only [q, decide_true, if_true] at h ⊢
              exact fin_now h
            · simp only [q, decide_false, Bool.false_eq_true, if_false] at h ⊢
              exact fin_now h
          · by_cases q : i ≤ n
            · by_cases q2 : n ≤ j
              · simp only [q, q2, decide_true, if_true] at h ⊢
                exact fin_now h
              · simp only [q, q2, decide_true, if_true, decide_false, Bool.false_eq_true, if_false] at h ⊢
                exact fin_now h
            · simp only [q, decide_false, Bool.false_eq_true, if_false] at h ⊢
              exact fin_now h
      · simp only [hb, decide_false, Bool.not_false, if_true]
        refine fin_now (no ?_)
        cases q : shapeL z.cps.toList with
        | false => rfl
        | true => exact absurd (hflt.mpr q) hb
    · simp only [h1, h2, decide_true, decide_false, if_true, Bool.not_false]
      refine fin_now (no ?_)
      unfold shapeL
      rw [decide_eq_false (by omega)]
      rfl
  · simp only [h1, decide_false, Bool.false_eq_true, if_false, Bool.not_false, if_true]
    refine fin_now (no ?_)
    unfold shapeL
    rw [decide_eq_false (by omega)]
    rfl
theorem pure__law_due (ds : List D) (μ : Mu) (R : DK) (hl : ds.length = 3) (h : sp__law_due ds μ R) : t__law_due (endsOf R) (start3 ["_law_text", "_law_floor", "_law_roof", "_law_digits_here", "_law_sign", "_law_number"] ds) μ := by
  obtain ⟨x, n, fl, rf, rfl, ht, hz, hf, hr, h⟩ := h
  show t__law_due (endsOf R) [some x, some fl, some rf, none, none, none] μ
  unfold t__law_due t__law_due_1
  walk_at "l3"
  obtain ⟨b, hb, hc⟩ := isi_str ht
  refine ⟨n, b, ht, hb, ?_⟩
  rcases hc with ⟨⟨z, rfl⟩, rfl⟩ | ⟨hi, rfl⟩
  · have hz' := (hz z rfl).1
    have hs : z.length ≤ sizeLine := Nat.le_trans hz' (by decide)
    have hbod := body_of z
    simp only [Bool.not_true, Bool.false_eq_true, if_false]
    walk_at "l3"
    refine ⟨hs, ?_⟩
    by_cases hm : cutS z none (some 1) = Str.ofString "-"
    · simp only [hm, decide_true, if_true] at hbod ⊢
      exact ⟨hs, due_tail (asc_cut (hz z rfl).2 _ _) hbod hz' (Nat.le_trans (cutS_length z _ _) hz') hf hr h⟩
    · simp only [hm, decide_false, Bool.false_eq_true, if_false] at hbod ⊢
      exact due_tail (hz z rfl).2 hbod hz' hz' hf hr h
  · rw [due_no hi] at h
    exact fin_now h
/-! ### drawn texts -/
def Tx (z : Str) : Prop := z.length ≤ 200 ∧ asc z
theorem tx_lit {z : Str} (h : (decide (z.length ≤ 20) && z.cps.toList.all fun c => decide (c < 128)) = true) : z.length ≤ 20 ∧ asc z := by
  rw [Bool.and_eq_true, decide_eq_true_eq, List.all_eq_true] at h
  exact ⟨h.1, fun c hc => of_decide_eq_true (h.2 c hc)⟩
/-- a sign of a written text -/
theorem sign_of {t : Str} {n : Nat} (ht : t.cps.toList.length = n) (ha : t.cps.toList.all (fun c => decide (c < 128)) = true) {r : Int} (h0 : 0 ≤ r) (h1 : r < n) : ∃ c, atI t.cps.toList r = some c ∧ c < 128 := by
  have hlt : r.toNat < t.cps.toList.length := by rw [ht]; omega
  refine ⟨t.cps.toList[r.toNat], atI_of h0 (List.getElem?_eq_getElem hlt), ?_⟩
  exact of_decide_eq_true (List.all_eq_true.mp ha _ (List.getElem_mem hlt))
theorem one_asc {c : Nat} (h : c < 128) : asc ⟨#[c]⟩ := fun d hd => by
  have : d = c := by simpa using hd
  rw [this]; exact h
/-- one of written things -/
theorem pick_of {xs : List D} {n : Nat} (hn : xs.length = n) {r : Int} (h0 : 0 ≤ r) (h1 : r < n) : ∃ x, atI xs r = some x ∧ x ∈ xs := by
  have hlt : r.toNat < xs.length := by rw [hn]; omega
  exact ⟨xs[r.toNat], atI_of h0 (List.getElem?_eq_getElem hlt), List.getElem_mem hlt⟩
def sp__law_digits : Sp3 := fun ds μ R => ∃ b n, ds = [.ref b] ∧ Box μ b n ∧ n < 1000000000 ∧ ∀ z μ', Tx z → Onl b μ μ' → Box μ' b (n + 50) → R (.str z) μ'
def t__law_digits_4 : TS3 := (sRet (vVar 2))
def t__law_digits_3 : TS3 := sSeq (sIf (vB (vOp gEqS (vCall 2 sp__law_take (vCons (vVar 0) (vCons (vC (.int 4)) vNil))) (vC (.int 0)))) (sSeq (sSet 4 (vCall 2 sp__law_take (vCons (vVar 0) (vCons (vOp gAdd (vCB gLen (vCons (vVar 2) vNil)) (vC (.int 1))) vNil)))) (sSet 2 (vOp gAdd (vOp gAdd (vSl (vVar 2) vNoP (vPart (vVar 4))) (vOp gIx (vLst (vCons (vC (.str " ")) (vCons (vC (.str "a")) (vCons (vC (.str "_")) (vCons (vC (.str "-")) (vCons (vC (.str "\n")) (vCons (vC (.str "0")) (vCons (vC (.str ".")) vNil)))))))) (vCall 2 sp__law_take (vCons (vVar 0) (vCons (vC (.int 7)) vNil))))) (vSl (vVar 2) (vPart (vVar 4)) vNoP)))) sNext) t__law_digits_4
def t__law_digits_2 : TS3 := sSeq (sSet 2 (vOp gAdd (vOp gIx (vLst (vCons (vC (.str "")) (vCons (vC (.str "")) (vCons (vC (.str "-")) (vCons (vC (.str "--")) (vCons (vC (.str "+")) (vCons (vC (.str "-")) vNil))))))) (vCall 2 sp__law_take (vCons (vVar 0) (vCons (vC (.int 6)) vNil)))) (vVar 2))) t__law_digits_3
def t__law_digits_1 : TS3 := sSeq (sSet 2 (vBM "str" gJoin (vC (.str "")) (vCons (vLc (iRg1 (vCons (vVar 1) vNil)) (gN 3) vYes (vOp gIx (vC (.str "0123456789")) (vCall 2 sp__law_take (vCons (vVar 0) (vCons (vC (.int 10)) vNil)))) [3]) vNil))) t__law_digits_2
def t__law_digits : TS3 := sSeq (sSet 1 (vOp gIx (vLst (vCons (vC (.int 1)) (vCons (vC (.int 1)) (vCons (vC (.int 2)) (vCons (vC (.int 3)) (vCons (vC (.int 29)) (vCons (vC (.int 30)) (vCons (vC (.int 31)) vNil)))))))) (vCall 2 sp__law_take (vCons (vVar 0) (vCons (vC (.int 7)) vNil))))) t__law_digits_1
theorem pure__law_digits (ds : List D) (μ : Mu) (R : DK) (hl : ds.length = 1) (h : sp__law_digits ds μ R) : t__law_digits (endsOf R) (start3 ["_law_box_here", "_law_many", "_law_text", "_law_k", "_law_at"] ds) μ := by
  obtain ⟨b, n, rfl, hb, hn, h⟩ := h
  show t__law_digits (endsOf R) [some (.ref b), none, none, none, none] μ
  unfold t__law_digits
  walk_at "l3"
  refine ⟨(by show 7 ≤ sizeLine; decide), rfl, b, 7, n, rfl, hb, by omega, by decide, by decide, fun r1 μ1 h1 h2 o1 b1 => ?_⟩
  obtain ⟨x, ex, hx⟩ := pick_of (xs := [D.int 1, .int 1, .int 2, .int 3, .int 29, .int 30, .int 31]) rfl h1 h2
  have hm : ∃ m : Nat, m ≤ 31 ∧ x = .int m := by
    simp only [List.mem_cons, List.not_mem_nil, or_false] at hx
    rcases hx with rfl | rfl | rfl | rfl | rfl | rfl | rfl
    · exact ⟨1, by decide, rfl⟩
    · exact ⟨1, by decide, rfl⟩
    · exact ⟨2, by decide, rfl⟩
    · exact ⟨3, by decide, rfl⟩
    · exact ⟨29, by decide, rfl⟩
    · exact ⟨30, by decide, rfl⟩
    · exact ⟨31, by decide, rfl⟩
  obtain ⟨m, hm, rfl⟩ := hm
  refine ix_lst ex ?_
  unfold t__law_digits_1
  walk_at "l3"
  refine ⟨rfl, by omega, by omega, ?_⟩
  rw [Int.toNat_natCast]
  refine lc_rg (Nat.lt_of_lt_of_le (by omega : m < 100) (by decide)) (fun k acc μ' => ∃ zs : List Str, acc = zs.map D.str ∧ (∀ a ∈ zs, a.length ≤ 1 ∧ asc a) ∧ zs.length = k ∧ Onl b μ μ' ∧ Box μ' b (n + 1 + k)) ⟨[], rfl, (by simp), rfl, o1, b1⟩ ?_ ?_ ?_
  · rintro k acc μ' ⟨zs, rfl, _, rfl, _, _⟩
    rw [List.length_map]
  · rintro acc μ3 ⟨zs, rfl, hz, hlz, o3, b3⟩
    have e0 : (Str.ofString "").length = 0 := by decide
    have hj := len_join (a := Str.ofString "") (B := 1) fun y hy => (hz y hy).1
    have ha := asc_join (a := Str.ofString "") (tx_lit (by decide +kernel)).2 fun y hy => (hz y hy).2
    rw [hlz, e0] at hj
    refine ⟨_, _, zs, rfl, rfl, rfl, ?_, ?_⟩
    · have := sum_le (B := 1) fun y hy => (hz y hy).1
      rw [e0]
      omega
    generalize Txt.join (Str.ofString "") zs = z at hj ha
    unfold t__law_digits_2
    walk_at "l3"
    refine ⟨(by show 6 ≤ sizeLine; decide), rfl, b, 6, _, rfl, b3, by omega, by decide, by decide, fun r5 μ5 g1 g2 o5 b5 => ?_⟩
    obtain ⟨x, ex, hx⟩ := pick_of (xs := [D.str (Str.ofString ""), .str (Str.ofString ""), .str (Str.ofString "-"), .str (Str.ofString "--"), .str (Str.ofString "+"), .str (Str.ofString "-")]) rfl g1 g2
    have hm2 : ∃ y : Str, (y.length ≤ 20 ∧ asc y) ∧ x = .str y := by
      simp only [List.mem_cons, List.not_mem_nil, or_false] at hx
      rcases hx with rfl | rfl | rfl | rfl | rfl | rfl <;> exact ⟨_, tx_lit (by decide +kernel), rfl⟩
    obtain ⟨y, ⟨hy1, hy2⟩, rfl⟩ := hm2
    refine ix_lst ex ?_
    walk_at "l3"
    refine ⟨Nat.le_trans (by omega : _ ≤ 100) (by decide), ?_⟩
    have hz1 : (y ++ z).length ≤ 51 := by rw [PySem.Str.length_append]; omega
    have hz2 : asc (y ++ z) := asc_app hy2 ha
    generalize y ++ z = z at hz1 hz2 ⊢
    have hzs : z.length ≤ sizeLine := Nat.le_trans (by omega : z.length ≤ 100) (by decide)
    unfold t__law_digits_3
    walk_at "l3"
    refine ⟨rfl, b, 4, _, rfl, b5, by omega, by decide, by decide, fun r6 μ6 g3 g4 o6 b6 => ?_⟩
    have last : ∀ z' μ', Tx z' → Onl b μ6 μ' → Box μ' b (n + 50) → ∀ x3 x4, t__law_digits_4 (endsOf R) [some (.ref b), some (.int m), some (.str z'), x3, x4] μ' := fun z' μ' t o bx x3 x4 => by
      unfold t__law_digits_4
      walk_at "l3"
      exact fin_now (h z' μ' t (((o3.trans o5).trans o6).trans o) bx)
    walk_at "l3"
    by_cases h0 : r6 = 0
    · simp only [h0, decide_true, if_true]
      refine ⟨hzs, rfl, b, _, _, rfl, b6, by omega, by omega, by omega, fun r7 μ7 g5 g6 o7 b7 => ?_⟩
      refine ⟨hzs, (by show 7 ≤ sizeLine; decide), rfl, b, 7, _, rfl, b7, by omega, by decide, by decide, fun r8 μ8 g7 g8 o8 b8 => ?_⟩
      obtain ⟨x, ex, hx⟩ := pick_of (xs := [D.str (Str.ofString " "), .str (Str.ofString "a"), .str (Str.ofString "_"), .str (Str.ofString "-"), .str (Str.ofString "\n"), .str (Str.ofString "0"), .str (Str.ofString ".")]) rfl g7 g8
      have hm3 : ∃ y : Str, (y.length ≤ 20 ∧ asc y) ∧ x = .str y := by
        simp only [List.mem_cons, List.not_mem_nil, or_false] at hx
        rcases hx with rfl | rfl | rfl | rfl | rfl | rfl | rfl <;> exact ⟨_, tx_lit (by decide +kernel), rfl⟩
      obtain ⟨y, ⟨hy1, hy2⟩, rfl⟩ := hm3
      refine ix_lst ex ?_
      walk_at "l3"
      have l1 : (cutS z none (some r7)).length ≤ z.length := cutS_length z none (some r7)
      have l3 : (cutS z (some r7) none).length ≤ z.length := cutS_length z _ _
      refine ⟨Nat.le_trans (by omega : _ ≤ 100) (by decide), hzs, ?_⟩
      rw [PySem.Str.length_append]
      refine ⟨Nat.le_trans (by omega : _ ≤ 200) (by decide), ?_⟩
      refine last _ μ8 ⟨?_, asc_app (asc_app (asc_cut hz2 _ _) hy2) (asc_cut hz2 _ _)⟩ (o7.trans o8) (b8.mono (by omega)) _ _
      rw [PySem.Str.length_append, PySem.Str.length_append]
      omega
    · simp only [h0, decide_false, Bool.false_eq_true, if_false]
      exact last z μ6 ⟨by omega, hz2⟩ (Onl.refl _ _) (b6.mono (by omega)) _ _
  · rintro k acc μ' hk ⟨zs, rfl, hz, rfl, o3, b3⟩ N hN
    walk_at "l3"
    refine ⟨rfl, b, 10, _, rfl, b3, by omega, by decide, by decide, fun r μ4 g1 g2 o4 b4 => ?_⟩
    obtain ⟨c, hc, hc2⟩ := sign_of (t := Str.ofString "0123456789") (n := 10) (by decide +kernel) (by decide +kernel) g1 g2
    refine gIx_s (by decide +kernel) hc (hN _ _ ⟨zs ++ [⟨#[c]⟩], by simp, ?_, by simp, o3.trans o4, b4⟩)
    intro a ha
    rcases List.mem_append.mp ha with ha | ha
    · exact hz a ha
    · rw [List.mem_singleton.mp ha]
      exact ⟨Nat.le_refl _, one_asc hc2⟩
def sp__law_line : Sp3 := fun ds μ R => ∃ b n, ds = [.ref b] ∧ Box μ b n ∧ n < 1000000000 ∧ ∀ z μ', Tx z → Onl b μ μ' → Box μ' b (n + 100) → R (.str z) μ'
def t__law_line_5 : TS3 := (sRet (vVar 5))
def t__law_line_4 : TS3 := sSeq (sIf (vB (vOp gEqS (vCall 2 sp__law_take (vCons (vVar 0) (vCons (vC (.int 2)) vNil))) (vC (.int 0)))) (sSeq (sSet 6 (vCall 2 sp__law_take (vCons (vVar 0) (vCons (vOp gAdd (vCB gLen (vCons (vVar 5) vNil)) (vC (.int 1))) vNil)))) (sSet 5 (vOp gAdd (vOp gAdd (vSl (vVar 5) vNoP (vPart (vVar 6))) (vOp gIx (vLst (vCons (vC (.str " ")) (vCons (vC (.str "  ")) (vCons (vC (.str "\n")) vNil)))) (vCall 2 sp__law_take (vCons (vVar 0) (vCons (vC (.int 3)) vNil))))) (vSl (vVar 5) (vPart (vVar 6)) vNoP)))) sNext) t__law_line_5
def t__law_line_3 : TS3 := sSeq (sSet 5 (vBM "str" gJoin (vC (.str " ")) (vCons (vVar 2) vNil))) t__law_line_4
def t__law_line_2 : TS3 := sSeq (sFor (iRg1 (vCons (vOp gAdd (vC (.int 1)) (vCall 2 sp__law_take (vCons (vVar 0) (vCons (vC (.int 6)) vNil)))) vNil)) (gN 3) (sDrop (vBM "list" gApp (vVar 2) (vCons (vBM "str" gJoin (vC (.str "")) (vCons (vLc (iRg1 (vCons (vOp gAdd (vC (.int 1)) (vCall 2 sp__law_take (vCons (vVar 0) (vCons (vC (.int 5)) vNil)))) vNil)) (gN 4) vYes (vOp gIx (vVar 1) (vCall 2 sp__law_take (vCons (vVar 0) (vCons (vC (.int 31)) vNil)))) [4]) vNil)) vNil)))) t__law_line_3
def t__law_line_1 : TS3 := sSeq (sSet 2 (vLstT vNil)) t__law_line_2
def t__law_line : TS3 := sSeq (sSet 1 (vC (.str "!#$&*+,-./09:;<=>?@AZ[]^_az{|}~"))) t__law_line_1
theorem pure__law_line (ds : List D) (μ : Mu) (R : DK) (hl : ds.length = 1) (h : sp__law_line ds μ R) : t__law_line (endsOf R) (start3 ["_law_box_here", "_law_signs", "_law_words_here", "_law_k", "_law_j", "_law_text", "_law_at"] ds) μ := by
  obtain ⟨b, n, rfl, hb, hn, h⟩ := h
  show t__law_line (endsOf R) [some (.ref b), none, none, none, none, none, none] μ
  unfold t__law_line t__law_line_1 t__law_line_2
  walk_at "l3"
  refine ⟨by decide, fun q hq => ?_⟩
  have hqb : q ≠ b := fun e => by obtain ⟨_, _, _, e2, _⟩ := hb; rw [e, e2] at hq; cases hq
  have hb0 : Box (mset μ q (.lst [])) b n := by
    obtain ⟨c0, c1, c2, e2, k⟩ := hb
    exact ⟨c0, c1, c2, by rw [mset_ne (Ne.symm hqb)]; exact e2, k⟩
  refine ⟨rfl, b, 6, n, rfl, hb0, by omega, by decide, by decide, fun r1 μ1 h1 h2 o1 b1 => ?_⟩
  refine ⟨by omega, by omega, ?_⟩
  refine for_rg (fun k δ μ' => (∃ y3 y4 y5 y6, δ = [some (.ref b), some (.str (Str.ofString "!#$&*+,-./09:;<=>?@AZ[]^_az{|}~")), some (.ref q), y3, y4, y5, y6]) ∧ (∃ zs : List Str, μ' q = some (.lst (zs.map D.str)) ∧ zs.length = k ∧ ∀ y ∈ zs, y.length ≤ 5 ∧ asc y) ∧ (∀ a, a ≠ b → a ≠ q → μ' a = μ a) ∧ Box μ' b (n + 1 + 6 * k)) ⟨⟨_, _, _, _, rfl⟩, ⟨[], by rw [o1 q hqb, mset_same]; rfl, rfl, by simp⟩, fun a h3 h4 => by rw [o1 a h3, mset_ne h4], b1⟩ ?_ ?_
  · rintro δ μ2 ⟨⟨y3, y4, y5, y6, rfl⟩, ⟨zs, eq, lz, hz⟩, o2, b2⟩
    dsimp only
    unfold t__law_line_3
    walk_at "l3"
    have hn6 : zs.length ≤ 6 := by omega
    have e0 : (Str.ofString " ").length = 1 := by decide
    have hj := len_join (a := Str.ofString " ") (B := 5) fun y hy => (hz y hy).1
    have ha := asc_join (a := Str.ofString " ") (tx_lit (by decide +kernel)).2 fun y hy => (hz y hy).2
    rw [e0] at hj
    refine ⟨rfl, _, _, zs, rfl, rfl, by simp only [seqOf, eq], ?_, ?_⟩
    · have := sum_le (B := 5) fun y hy => (hz y hy).1
      rw [e0]
      omega
    generalize Txt.join (Str.ofString " ") zs = z at hj ha
    have hzs : z.length ≤ sizeLine := Nat.le_trans (by omega : z.length ≤ 100) (by decide)
    unfold t__law_line_4
    walk_at "l3"
    have drop : ∀ z' μ', Tx z' → Onl b μ2 μ' → Box μ' b (n + 100) → ∀ x3 x4 x6, t__law_line_5 (endsOf R) [some (.ref b), some (.str (Str.ofString "!#$&*+,-./09:;<=>?@AZ[]^_az{|}~")), some (.ref q), x3, x4, some (.str z'), x6] μ' := fun z' μ' t o bx x3 x4 x6 => by
      unfold t__law_line_5
      walk_at "l3"
      refine fin_same (μ' := fun a => if a = q then none else μ' a) (fun a o e => ?_) (h z' _ t (fun a ha => ?_) ?_)
      · by_cases hq' : a = q
        · simp [hq'] at e
        · simpa [hq'] using e
      · by_cases hq' : a = q
        · simp [hq', hq]
        · simp only [hq', if_false]
          rw [o a ha, o2 a ha hq']
      · obtain ⟨c0, c1, c2, e2, k⟩ := bx
        exact ⟨c0, c1, c2, by simp only [if_neg (Ne.symm hqb)]; exact e2, k⟩
    refine ⟨rfl, b, 2, _, rfl, b2, by omega, by decide, by decide, fun r6 μ6 g3 g4 o6 b6 => ?_⟩
    walk_at "l3"
    by_cases h0 : r6 = 0
    · simp only [h0, decide_true, if_true]
      refine ⟨hzs, rfl, b, _, _, rfl, b6, by omega, by omega, by omega, fun r7 μ7 g5 g6 o7 b7 => ?_⟩
      refine ⟨hzs, (by show 3 ≤ sizeLine; decide), rfl, b, 3, _, rfl, b7, by omega, by decide, by decide, fun r8 μ8 g7 g8 o8 b8 => ?_⟩
      obtain ⟨x, ex, hx⟩ := pick_of (xs := [D.str (Str.ofString " "), .str (Str.ofString "  "), .str (Str.ofString "\n")]) rfl g7 g8
      have hm3 : ∃ y : Str, (y.length ≤ 20 ∧ asc y) ∧ x = .str y := by
        simp only [List.mem_cons, List.not_mem_nil, or_false] at hx
        rcases hx with rfl | rfl | rfl <;> exact ⟨_, tx_lit (by decide +kernel), rfl⟩
      obtain ⟨y, ⟨hy1, hy2⟩, rfl⟩ := hm3
      refine ix_lst ex ?_
      walk_at "l3"
      have l1 : (cutS z none (some r7)).length ≤ z.length := cutS_length z none (some r7)
      have l3 : (cutS z (some r7) none).length ≤ z.length := cutS_length z _ _
      refine ⟨Nat.le_trans (by omega : _ ≤ 100) (by decide), hzs, ?_⟩
      rw [PySem.Str.length_append]
      refine ⟨Nat.le_trans (by omega : _ ≤ 200) (by decide), ?_⟩
      refine drop _ μ8 ⟨?_, asc_app (asc_app (asc_cut ha _ _) hy2) (asc_cut ha _ _)⟩ ((o6.trans o7).trans o8) (b8.mono (by omega)) _ _ _
      rw [PySem.Str.length_append, PySem.Str.length_append]
      omega
    · simp only [h0, decide_false, Bool.false_eq_true, if_false]
      exact drop z μ6 ⟨by omega, ha⟩ o6 (b6.mono (by omega)) _ _ _
  · rintro k δ μ2 hk ⟨⟨y3, y4, y5, y6, rfl⟩, ⟨zs, eq, lz, hz⟩, o2, b2⟩ N hN
    walk_at "l3"
    refine ⟨.inl ⟨rfl, _, eq⟩, rfl, rfl, b, 5, _, rfl, b2, by omega, by decide, by decide, fun r2 μ3 g1 g2 o3 b3 => ?_⟩
    refine ⟨by omega, by omega, ?_⟩
    have hn2 : (1 + r2).toNat ≤ 5 := by omega
    refine lc_rg (Nat.lt_of_lt_of_le (by omega : (1 + r2).toNat < 100) (by decide)) (fun j acc μ' => ∃ ys : List Str, acc = ys.map D.str ∧ (∀ a ∈ ys, a.length ≤ 1 ∧ asc a) ∧ ys.length = j ∧ Onl b μ2 μ' ∧ Box μ' b (n + 1 + 6 * k + 1 + j)) ⟨[], rfl, (by simp), rfl, o3, b3⟩ ?_ ?_ ?_
    · rintro j acc μ' ⟨ys, rfl, _, rfl, _, _⟩
      rw [List.length_map]
    · rintro acc μ4 ⟨ys, rfl, hy, hly, o4, b4⟩
      have e0 : (Str.ofString "").length = 0 := by decide
      have hj := len_join (a := Str.ofString "") (B := 1) fun y hy' => (hy y hy').1
      have ha := asc_join (a := Str.ofString "") (tx_lit (by decide +kernel)).2 fun y hy' => (hy y hy').2
      rw [e0] at hj
      refine ⟨_, _, ys, rfl, rfl, rfl, ?_, ?_⟩
      · have := sum_le (B := 1) fun y hy' => (hy y hy').1
        rw [e0]
        omega
      have eq4 : μ4 q = some (.lst (zs.map D.str)) := by rw [o4 q hqb, eq]
      refine ⟨q, _, _, rfl, rfl, eq4, ?_, hN _ _ ⟨⟨_, _, _, _, rfl⟩, ⟨zs ++ [Txt.join (Str.ofString "") ys], ?_, ?_, ?_⟩, ?_, ?_⟩⟩
      · rw [List.length_map]
        exact Nat.lt_of_lt_of_le (by omega : zs.length < 100) (by decide)
      · rw [mset_same]
        simp
      · simp [lz]
      · intro y hy'
        rcases List.mem_append.mp hy' with hy' | hy'
        · exact hz y hy'
        · rw [List.mem_singleton.mp hy']
          exact ⟨by omega, ha⟩
      · intro a h3 h4
        rw [mset_ne h4, o4 a h3, o2 a h3 h4]
      · have b5 := b4.mono (m := n + 1 + 6 * (k + 1)) (by omega)
        obtain ⟨c0, c1, c2, e2, kk⟩ := b5
        exact ⟨c0, c1, c2, by rw [mset_ne (Ne.symm hqb)]; exact e2, kk⟩
    · rintro j acc μ' hj ⟨ys, rfl, hy, rfl, o4, b4⟩ N2 hN2
      walk_at "l3"
      refine ⟨rfl, b, 31, _, rfl, b4, by omega, by decide, by decide, fun r μ5 g3 g4 o5 b5 => ?_⟩
      obtain ⟨c, hc, hc2⟩ := sign_of (t := Str.ofString "!#$&*+,-./09:;<=>?@AZ[]^_az{|}~") (n := 31) (by decide +kernel) (by decide +kernel) g3 g4
      refine gIx_s (by decide +kernel) hc (hN2 _ _ ⟨ys ++ [⟨#[c]⟩], by simp, ?_, by simp, o4.trans o5, b5⟩)
      intro a ha
      rcases List.mem_append.mp ha with ha | ha
      · exact hy a ha
      · rw [List.mem_singleton.mp ha]
        exact ⟨Nat.le_refl _, one_asc hc2⟩
/-! ### the law's turn -/
def OkX (x : D) : Prop := (∃ n, ∀ μ, tyD μ x = some n) ∧ ∀ z, x = .str z → z.length ≤ 1000 ∧ asc z
theorem okx_str {z : Str} (h : Tx z) : OkX (.str z) := ⟨⟨_, fun _ => rfl⟩, fun z' e => by cases e; exact ⟨Nat.le_trans h.1 (by decide), h.2⟩⟩
def pdD : D → PyData
  | .int i => .int i
  | _ => .none
theorem due_ok {x : D} (fl rf : D) : (∀ μ, Sh μ (dueD x fl rf) (pdD (dueD x fl rf))) ∧ smallP (pdD (dueD x fl rf)) ∧ (dueD x fl rf = .non ∨ ∃ i : Int, dueD x fl rf = .int i ∧ i.natAbs < 10 ^ 30) := by
  have key : dueD x fl rf = .non ∨ ∃ i : Int, dueD x fl rf = .int i ∧ i.natAbs < 10 ^ 30 := by
    cases x with
    | str z =>
      rw [due_s]
      cases h : shapeL z.cps.toList && !leadL z.cps.toList && okB fl rf (valL z.cps.toList) with
      | false => exact .inl rfl
      | true =>
        rw [Bool.and_eq_true, Bool.and_eq_true] at h
        exact .inr ⟨_, rfl, val_bound h.1.1⟩
    | _ => exact .inl rfl
  refine ⟨?_, ?_, key⟩
  · intro μ
    rcases key with e | ⟨i, e, _⟩ <;> rw [e]
    · exact .non
    · exact .int i
  · rcases key with e | ⟨i, e, hi⟩ <;> rw [e]
    · exact .inl rfl
    · exact .inr ⟨i, rfl, Nat.lt_trans hi (by decide)⟩
def sp__law_right : Sp3 := fun ds μ R => ∃ b n, ds = [.ref b] ∧ Box μ b n ∧ n < 100000000 ∧ ∀ μ', Onl b μ μ' → Box μ' b (n + 200) → R (.bl true) μ'
def t__law_right_15 : TS3 := (sRet (vOp gEqS (vCB gRepr (vCons (vCall 1 sp_split_words (vCons (vVar 8) vNil)) vNil)) (vCB gRepr (vCons (vCall 1 sp__law_words (vCons (vVar 8) vNil)) vNil))))
def t__law_right_14 : TS3 := sSeq (sIf (vB (vOp gNotN (vVar 9) (vC .non))) (sDrop (vBM "list" gApp (vVar 9) (vCons (vC (.str "late")) vNil))) sNext) t__law_right_15
def t__law_right_13 : TS3 := sSeq (sIf (vB (vOp gNeS (vCB gRepr (vCons (vVar 9) vNil)) (vCB gRepr (vCons (vCall 1 sp__law_words (vCons (vVar 8) vNil)) vNil)))) (sRet (vC (.bl false))) sNext) t__law_right_14
def t__law_right_12 : TS3 := sSeq (sSet 9 (vCall 1 sp_split_words (vCons (vVar 8) vNil))) t__law_right_13
def t__law_right_11 : TS3 := sSeq (sSet 8 (vIf (vB (vOp gGt (vCall 2 sp__law_take (vCons (vVar 0) (vCons (vC (.int 5)) vNil))) (vC (.int 0)))) (vCall 1 sp__law_line (vCons (vVar 0) vNil)) (vVar 1))) t__law_right_12
def t__law_right_10 : TS3 := sSeq (sIf (vB (vOp gNeS (vCB gRepr (vCons (vVar 6) vNil)) (vCB gRepr (vCons (vVar 7) vNil)))) (sRet (vC (.bl false))) sNext) t__law_right_11
def t__law_right_9 : TS3 := sSeq (sDrop (vBM "list" gApp (vVar 7) (vCons (vCall 3 sp__law_due (vCons (vVar 2) (vCons (vVar 3) (vCons (vVar 4) vNil)))) vNil))) t__law_right_10
def t__law_right_8 : TS3 := sSeq (sSet 7 (vLstT (vCons (vCall 3 sp__law_due (vCons (vVar 2) (vCons (vC .non) (vCons (vC .non) vNil)))) (vCons (vCall 3 sp__law_due (vCons (vVar 2) (vCons (vVar 3) (vCons (vC .non) vNil)))) (vCons (vCall 3 sp__law_due (vCons (vVar 2) (vCons (vC .non) (vCons (vVar 4) vNil)))) vNil))))) t__law_right_9
def t__law_right_7 : TS3 := sSeq (sDrop (vBM "list" gApp (vVar 6) (vCons (vCal 1 2 [.pos 0, .kw 1, .kw 0] [] sp_parse_integer (vCons (vVar 2) vNil) (vCons (vVar 4) (vCons (vVar 3) vNil))) vNil))) t__law_right_8
def t__law_right_6 : TS3 := sSeq (sSet 6 (vLstT (vCons (vCal 1 0 [.pos 0, .dfl 0, .dfl 1] [.non, .non] sp_parse_integer (vCons (vVar 2) vNil) vNil) (vCons (vCal 1 1 [.pos 0, .kw 0, .dfl 0] [.non] sp_parse_integer (vCons (vVar 2) vNil) (vCons (vVar 3) vNil)) (vCons (vCal 1 1 [.pos 0, .dfl 0, .kw 0] [.non] sp_parse_integer (vCons (vVar 2) vNil) (vCons (vVar 4) vNil)) vNil))))) t__law_right_7
def t__law_right_5 : TS3 := sSeq (sIf (vAnd (vB (vOp gNotN (vVar 5) (vC .non))) (vB (vOp gEqS (vCall 2 sp__law_take (vCons (vVar 0) (vCons (vC (.int 2)) vNil))) (vC (.int 0))))) (sSeq (sSet 3 (vOp gAdd (vVar 5) (vOp gMul (vCall 2 sp__law_take (vCons (vVar 0) (vCons (vC (.int 2)) vNil))) (vCB gInt (vCons (vOp gLt (vCB gAbs (vCons (vVar 5) vNil)) (vOp gPow (vC (.int 10)) (vC (.int 29)))) vNil))))) (sSet 4 (vOp gSub (vVar 5) (vOp gMul (vCall 2 sp__law_take (vCons (vVar 0) (vCons (vC (.int 2)) vNil))) (vCB gInt (vCons (vOp gLt (vCB gAbs (vCons (vVar 5) vNil)) (vOp gPow (vC (.int 10)) (vC (.int 29)))) vNil)))))) sNext) t__law_right_6
def t__law_right_4 : TS3 := sSeq (sSet 5 (vCall 3 sp__law_due (vCons (vVar 2) (vCons (vC .non) (vCons (vC .non) vNil))))) t__law_right_5
def t__law_right_3 : TS3 := sSeq (sSet 4 (vOp gIx (vLst (vCons (vOp gSub (vCall 2 sp__law_take (vCons (vVar 0) (vCons (vC (.int 2001)) vNil))) (vC (.int 1000))) (vCons (vOp gPow (vC (.int 10)) (vC (.int 29))) (vCons (vC (.int 0)) vNil)))) (vCall 2 sp__law_take (vCons (vVar 0) (vCons (vC (.int 3)) vNil))))) t__law_right_4
def t__law_right_2 : TS3 := sSeq (sSet 3 (vOp gIx (vLst (vCons (vOp gSub (vCall 2 sp__law_take (vCons (vVar 0) (vCons (vC (.int 2001)) vNil))) (vC (.int 1000))) (vCons (vOp gSub (vC (.int 1)) (vOp gPow (vC (.int 10)) (vC (.int 30)))) (vCons (vC (.int 0)) vNil)))) (vCall 2 sp__law_take (vCons (vVar 0) (vCons (vC (.int 3)) vNil))))) t__law_right_3
def t__law_right_1 : TS3 := sSeq (sSet 2 (vIf (vB (vOp gGt (vCall 2 sp__law_take (vCons (vVar 0) (vCons (vC (.int 5)) vNil))) (vC (.int 0)))) (vCall 1 sp__law_digits (vCons (vVar 0) vNil)) (vVar 1))) t__law_right_2
def t__law_right : TS3 := sSeq (sSet 1 (vOp gIx (vLst (vCons (vC .non) (vCons (vC (.int 7)) (vCons (vC (.bl true)) (vCons (vLst (vCons (vC (.str "1")) vNil)) (vCons (vTup (vCons (vC (.str "a b")) vNil)) (vCons vDict0 (vCons (vC (.str "")) (vCons (vC (.str " ")) (vCons (vC (.str "-")) (vCons (vC (.str "0")) (vCons (vC (.str "-0")) vNil)))))))))))) (vCall 2 sp__law_take (vCons (vVar 0) (vCons (vC (.int 11)) vNil))))) t__law_right_1
theorem right_12 {R : DK} {μ0 μ : Mu} {b : Addr} {n : Nat} {x1 x2 x3 x4 x5 x6 x7 : Option D} {x : D} (hx : OkX x) (kp : Keeps b μ0 μ) (bx : Box μ b n) (h : ∀ μ', Onl b μ0 μ' → Box μ' b n → R (.bl true) μ') :
    t__law_right_12 (endsOf R) [some (.ref b), x1, x2, x3, x4, x5, x6, x7, some x, none] μ := by
  obtain ⟨⟨ty, hty⟩, hz⟩ := hx
  unfold t__law_right_12
  walk_at "l3"
  cases hw : wordsO x with
  | none =>
    refine ⟨rfl, x, ty, rfl, hty _, hz, fun _ => ?_, fun ws e => by rw [hw] at e; cases e⟩
    unfold t__law_right_13
    walk_at "l3"
    refine ⟨_, _, rfl, .non, show_none, rfl, x, ty, rfl, hty _, hz, fun _ => ⟨_, _, rfl, .non, show_none, ?_⟩, fun ws e => by rw [hw] at e; cases e⟩
    walk_at "l3"
    simp only [decide_true, Bool.not_true, Bool.false_eq_true, if_false]
    unfold t__law_right_14
    walk_at "l3"
    simp only [Bool.not_true, Bool.false_eq_true, if_false]
    unfold t__law_right_15
    walk_at "l3"
    refine ⟨rfl, x, ty, rfl, hty _, hz, fun _ => ⟨_, _, rfl, .non, show_none, rfl, x, ty, rfl, hty _, hz, fun _ => ⟨_, _, rfl, .non, show_none, ?_⟩, fun ws e => by rw [hw] at e; cases e⟩, fun ws e => by rw [hw] at e; cases e⟩
    walk_at "l3"
    simp only [decide_true]
    exact fin_box kp bx h
  | some ws =>
    have hok : ShowOk (.list (ws.map PyData.str)) := by
      cases x with
      | str z =>
        have hw' : (bif decide (Str.ofString "" ∈ (cutL [] z.cps.toList).map toS) then none else some ((cutL [] z.cps.toList).map toS)) = some ws := hw
        cases q : decide (Str.ofString "" ∈ (cutL [] z.cps.toList).map toS) with
        | true => rw [q] at hw'; cases hw'
        | false =>
          rw [q] at hw'
          cases hw'
          obtain ⟨a1, a2⟩ := words_ok (hz z rfl).1 (hz z rfl).2
          exact show_strs a1 a2
      | _ => cases hw
    have sh : ∀ (μ : Mu) (q : Addr), μ q = some (.lst (ws.map D.str)) → Sh μ (.ref q) (.list (ws.map PyData.str)) := fun μ q e => .ref e (sh_strs ws)
    refine ⟨rfl, x, ty, rfl, hty _, hz, fun e => (by rw [hw] at e; cases e), fun ws' e q1 hq1 => ?_⟩
    obtain rfl : ws = ws' := by rw [hw] at e; cases e; rfl
    obtain ⟨f1, g1⟩ := kp.fresh bx hq1
    have kp1 := kp.put (o := .lst (ws.map D.str)) f1
    have bx1 := bx.put (o := .lst (ws.map D.str)) g1
    unfold t__law_right_13
    walk_at "l3"
    refine ⟨_, _, rfl, sh _ _ mset_same, hok, rfl, x, ty, rfl, hty _, hz, fun e => (by rw [hw] at e; cases e), fun ws' e q2 hq2 => ?_⟩
    obtain rfl : ws = ws' := by rw [hw] at e; cases e; rfl
    obtain ⟨f2, g2⟩ := kp1.fresh bx1 hq2
    have kp2 := kp1.put (o := .lst (ws.map D.str)) f2
    have bx2 := bx1.put (o := .lst (ws.map D.str)) g2
    refine ⟨_, _, rfl, sh _ _ mset_same, hok, ?_⟩
    walk_at "l3"
    simp only [decide_true, Bool.not_true, Bool.false_eq_true, if_false]
    have h21 : q1 ≠ q2 := fun e => by rw [← e, mset_same] at hq2; cases hq2
    unfold t__law_right_14
    walk_at "l3"
    simp only [Bool.not_false, if_true]
    refine ⟨.inl ⟨rfl, _, by rw [mset_ne h21, mset_same]⟩, q1, _, _, rfl, rfl, by rw [mset_ne h21, mset_same], ?_, ?_⟩
    · have hl : ws.length ≤ 1001 := by
        cases x with
        | str z =>
          have hw' : (bif decide (Str.ofString "" ∈ (cutL [] z.cps.toList).map toS) then none else some ((cutL [] z.cps.toList).map toS)) = some ws := hw
          cases q : decide (Str.ofString "" ∈ (cutL [] z.cps.toList).map toS) with
          | true => rw [q] at hw'; cases hw'
          | false =>
            rw [q] at hw'
            cases hw'
            exact (words_ok (hz z rfl).1 (hz z rfl).2).2
        | _ => cases hw
      rw [List.length_map]
      exact Nat.lt_of_le_of_lt hl (by decide)
    have kp3 := kp2.put (o := .lst (ws.map D.str ++ [D.str (Str.ofString "late")])) f1
    have bx3 := bx2.put (o := .lst (ws.map D.str ++ [D.str (Str.ofString "late")])) g1
    unfold t__law_right_15
    walk_at "l3"
    refine ⟨rfl, x, ty, rfl, hty _, hz, fun e => (by rw [hw] at e; cases e), fun ws' e q3 hq3 => ?_⟩
    obtain rfl : ws = ws' := by rw [hw] at e; cases e; rfl
    obtain ⟨f3, g3⟩ := kp3.fresh bx3 hq3
    have kp4 := kp3.put (o := .lst (ws.map D.str)) f3
    have bx4 := bx3.put (o := .lst (ws.map D.str)) g3
    refine ⟨_, _, rfl, sh _ _ mset_same, hok, rfl, x, ty, rfl, hty _, hz, fun e => (by rw [hw] at e; cases e), fun ws' e q4 hq4 => ?_⟩
    obtain rfl : ws = ws' := by rw [hw] at e; cases e; rfl
    obtain ⟨f4, g4⟩ := kp4.fresh bx4 hq4
    have kp5 := kp4.put (o := .lst (ws.map D.str)) f4
    have bx5 := bx4.put (o := .lst (ws.map D.str)) g4
    refine ⟨_, _, rfl, sh _ _ mset_same, hok, ?_⟩
    walk_at "l3"
    simp only [decide_true]
    exact fin_box kp5 bx5 h
theorem right_11 {R : DK} {μ0 μ : Mu} {b : Addr} {n : Nat} {x2 x3 x4 x5 x6 x7 : Option D} {y : D} (hy : OkX y) (hn : n < 110000000) (kp : Keeps b μ0 μ) (bx : Box μ b n) (h : ∀ μ', Onl b μ0 μ' → Box μ' b (n + 101) → R (.bl true) μ') :
    t__law_right_11 (endsOf R) [some (.ref b), some y, x2, x3, x4, x5, x6, x7, none, none] μ := by
  unfold t__law_right_11
  walk_at "l3"
  refine ⟨rfl, b, 5, n, rfl, bx, by omega, by decide, by decide, fun r1 μ1 g1 g2 o1 b1 => ?_⟩
  walk_at "l3"
  by_cases h0 : 0 < r1
  · simp only [h0, decide_true, if_true]
    refine ⟨rfl, b, _, rfl, b1, by omega, fun z μ2 hz o2 b2 => ?_⟩
    exact right_12 (okx_str hz) ((kp.onl o1).onl o2) (b2.mono (by omega)) h
  · simp only [h0, decide_false, Bool.false_eq_true, if_false]
    exact right_12 hy (kp.onl o1) (b1.mono (by omega)) h
theorem right_6 {R : DK} {μ0 μ : Mu} {b : Addr} {n : Nat} {x5 : Option D} {y x : D} {fl rf : Int} (hy : OkX y) (hx : OkX x) (hn : n < 110000000) (kp : Keeps b μ0 μ) (bx : Box μ b n) (h : ∀ μ', Onl b μ0 μ' → Box μ' b (n + 101) → R (.bl true) μ') :
    t__law_right_6 (endsOf R) [some (.ref b), some y, some x, some (.int fl), some (.int rf), x5, none, none, none, none] μ := by
  obtain ⟨⟨ty, hty⟩, hz⟩ := hx
  have d1 := due_ok (x := x) .non .non
  have d2 := due_ok (x := x) (.int fl) .non
  have d3 := due_ok (x := x) .non (.int rf)
  have d4 := due_ok (x := x) (.int fl) (.int rf)
  have hB : isB .non := .inl rfl
  have hI : ∀ i, isB (.int i) := fun i => .inr ⟨i, rfl⟩
  unfold t__law_right_6
  walk_at "l3"
  refine ⟨rfl, rfl, x, ty, .non, .non, rfl, hty _, hz, hB, hB, ?_⟩
  refine ⟨rfl, rfl, x, ty, .int fl, .non, rfl, hty _, hz, hI _, hB, ?_⟩
  refine ⟨rfl, rfl, x, ty, .non, .int rf, rfl, hty _, hz, hB, hI _, ?_⟩
  refine ⟨(by show 3 ≤ sizeLine; decide), fun q hq => ?_⟩
  obtain ⟨f1, g1⟩ := kp.fresh bx hq
  have kp1 := kp.put (o := .lst [dueD x .non .non, dueD x (.int fl) .non, dueD x .non (.int rf)]) f1
  have bx1 := bx.put (o := .lst [dueD x .non .non, dueD x (.int fl) .non, dueD x .non (.int rf)]) g1
  unfold t__law_right_7
  walk_at "l3"
  refine ⟨.inl ⟨rfl, _, mset_same⟩, rfl, rfl, x, ty, .int fl, .int rf, rfl, hty _, hz, hI _, hI _, q, _, _, rfl, rfl, mset_same, (by show 3 < sizeLine; decide), ?_⟩
  rw [mset_mset]
  have kp2 := kp.put (o := .lst ([dueD x .non .non, dueD x (.int fl) .non, dueD x .non (.int rf)] ++ [dueD x (.int fl) (.int rf)])) f1
  have bx2 := bx.put (o := .lst ([dueD x .non .non, dueD x (.int fl) .non, dueD x .non (.int rf)] ++ [dueD x (.int fl) (.int rf)])) g1
  unfold t__law_right_8
  walk_at "l3"
  refine ⟨rfl, x, ty, .non, .non, rfl, hty _, hz, hB, hB, ?_⟩
  refine ⟨rfl, x, ty, .int fl, .non, rfl, hty _, hz, hI _, hB, ?_⟩
  refine ⟨rfl, x, ty, .non, .int rf, rfl, hty _, hz, hB, hI _, ?_⟩
  refine ⟨(by show 3 ≤ sizeLine; decide), fun p hp => ?_⟩
  obtain ⟨f2, g2⟩ := kp2.fresh bx2 hp
  have hpq : q ≠ p := fun e => by rw [← e, mset_same] at hp; cases hp
  unfold t__law_right_9
  walk_at "l3"
  refine ⟨.inl ⟨rfl, _, mset_same⟩, rfl, x, ty, .int fl, .int rf, rfl, hty _, hz, hI _, hI _, p, _, _, rfl, rfl, mset_same, (by show 3 < sizeLine; decide), ?_⟩
  rw [mset_mset]
  have kp3 := kp2.put (o := .lst ([dueD x .non .non, dueD x (.int fl) .non, dueD x .non (.int rf)] ++ [dueD x (.int fl) (.int rf)])) f2
  have bx3 := bx2.put (o := .lst ([dueD x .non .non, dueD x (.int fl) .non, dueD x .non (.int rf)] ++ [dueD x (.int fl) (.int rf)])) g2
  have sh : ∀ μ : Mu, Shs μ ([dueD x .non .non, dueD x (.int fl) .non, dueD x .non (.int rf)] ++ [dueD x (.int fl) (.int rf)]) [pdD (dueD x .non .non), pdD (dueD x (.int fl) .non), pdD (dueD x .non (.int rf)), pdD (dueD x (.int fl) (.int rf))] :=
    fun μ => .cons (d1.1 μ) (.cons (d2.1 μ) (.cons (d3.1 μ) (.cons (d4.1 μ) .nil)))
  have ok : ShowOk (.list [pdD (dueD x .non .non), pdD (dueD x (.int fl) .non), pdD (dueD x .non (.int rf)), pdD (dueD x (.int fl) (.int rf))]) := by
    refine show_small (fun p hp => ?_) (by show 4 ≤ 100; decide)
    simp only [List.mem_cons, List.not_mem_nil, or_false] at hp
    rcases hp with rfl | rfl | rfl | rfl
    · exact d1.2.1
    · exact d2.2.1
    · exact d3.2.1
    · exact d4.2.1
  unfold t__law_right_10
  walk_at "l3"
  refine ⟨_, _, rfl, .ref (by rw [mset_ne hpq, mset_same]) (sh _), ok, _, _, rfl, .ref mset_same (sh _), ok, ?_⟩
  walk_at "l3"
  simp only [decide_true, Bool.not_true, Bool.false_eq_true, if_false]
  exact right_11 hy hn kp3 bx3 h
theorem b01 (d : Bool) : (if d = true then (1 : Int) else 0).natAbs < 2 ^ 30 := by cases d <;> decide
theorem right_2 {R : DK} {μ0 μ : Mu} {b : Addr} {n : Nat} {y x : D} (hy : OkX y) (hx : OkX x) (hn : n < 105000000) (kp : Keeps b μ0 μ) (bx : Box μ b n) (h : ∀ μ', Onl b μ0 μ' → Box μ' b (n + 120) → R (.bl true) μ') :
    t__law_right_2 (endsOf R) [some (.ref b), some y, some x, none, none, none, none, none, none, none] μ := by
  have c30 : CPow 10 30 := ⟨by decide, by decide, by decide⟩
  have c29 : CPow 10 29 := ⟨by decide, by decide, by decide⟩
  have hB : isB .non := .inl rfl
  unfold t__law_right_2
  walk_at "l3"
  refine ⟨rfl, b, 2001, n, rfl, bx, by omega, by decide, by decide, fun r1 μ1 g1 g1' o1 b1 => ?_⟩
  walk_at "l3"
  refine ⟨c30, (by show 3 ≤ sizeLine; decide), rfl, b, 3, _, rfl, b1, by omega, by decide, by decide, fun r2 μ2 g2 g2' o2 b2 => ?_⟩
  have hi : ∃ i, atI [D.int (r1 - 1000), .int (1 - 10 ^ (30 : Int).toNat), .int 0] r2 = some (.int i) := by
    have : r2 = 0 ∨ r2 = 1 ∨ r2 = 2 := by omega
    rcases this with rfl | rfl | rfl <;> exact ⟨_, rfl⟩
  obtain ⟨fl, ei⟩ := hi
  refine ix_lst ei ?_
  unfold t__law_right_3
  walk_at "l3"
  refine ⟨rfl, b, 2001, _, rfl, b2, by omega, by decide, by decide, fun r3 μ3 g3 g3' o3 b3 => ?_⟩
  walk_at "l3"
  refine ⟨c29, (by show 3 ≤ sizeLine; decide), rfl, b, 3, _, rfl, b3, by omega, by decide, by decide, fun r4 μ4 g4 g4' o4 b4 => ?_⟩
  have hj : ∃ i, atI [D.int (r3 - 1000), .int (10 ^ (29 : Int).toNat), .int 0] r4 = some (.int i) := by
    have : r4 = 0 ∨ r4 = 1 ∨ r4 = 2 := by omega
    rcases this with rfl | rfl | rfl <;> exact ⟨_, rfl⟩
  obtain ⟨rf, ej⟩ := hj
  refine ix_lst ej ?_
  have kp4 := (((kp.onl o1).onl o2).onl o3).onl o4
  unfold t__law_right_4
  walk_at "l3"
  obtain ⟨⟨ty, hty⟩, hz⟩ := hx
  refine ⟨rfl, x, ty, .non, .non, rfl, hty _, hz, hB, hB, ?_⟩
  have hx : OkX x := ⟨⟨ty, hty⟩, hz⟩
  unfold t__law_right_5
  walk_at "l3"
  rcases (due_ok (x := x) .non .non).2.2 with e | ⟨i, e, hi⟩
  · rw [e]
    simp only [Bool.not_true, Bool.false_eq_true, if_false]
    exact right_6 hy hx (by omega) kp4 b4 fun μ' o bb => h μ' o (bb.mono (by omega))
  · rw [e]
    simp only [Bool.not_false, if_true]
    refine ⟨rfl, b, 2, _, rfl, b4, by omega, by decide, by decide, fun r5 μ5 g5 g5' o5 b5 => ?_⟩
    walk_at "l3"
    by_cases h0 : r5 = 0
    · simp only [h0, decide_true, if_true]
      refine ⟨rfl, b, 2, _, rfl, b5, by omega, by decide, by decide, fun r6 μ6 g6 g6' o6 b6 => ?_⟩
      refine ⟨c29, ?_⟩
      refine ⟨?_, rfl, b, 2, _, rfl, b6, by omega, by decide, by decide, fun r7 μ7 g7 g7' o7 b7 => ⟨c29, ?_, ?_⟩⟩
      · refine wide_mul (a := 30) (b := 30) (by omega) ?_ (by decide) (by decide) (by decide)
        exact b01 _
      · refine wide_mul (a := 30) (b := 30) (by omega) ?_ (by decide) (by decide) (by decide)
        exact b01 _
      exact right_6 hy hx (by omega) (((kp4.onl o5).onl o6).onl o7) b7 fun μ' o bb => h μ' o (bb.mono (by omega))
    · simp only [h0, decide_false, Bool.false_eq_true, if_false]
      exact right_6 hy hx (by omega) (kp4.onl o5) b5 fun μ' o bb => h μ' o (bb.mono (by omega))
theorem pure__law_right (ds : List D) (μ : Mu) (R : DK) (hl : ds.length = 1) (h : sp__law_right ds μ R) : t__law_right (endsOf R) (start3 ["_law_box_here", "_law_odd", "_law_text", "_law_floor", "_law_roof", "_law_here", "_law_found", "_law_due_here", "_law_line_here", "_law_words_here"] ds) μ := by
  obtain ⟨b, n, rfl, hb, hn, h⟩ := h
  show t__law_right (endsOf R) [some (.ref b), none, none, none, none, none, none, none, none, none] μ
  unfold t__law_right
  walk_at "l3"
  refine ⟨by decide, by decide, (by show 11 ≤ sizeLine; decide), rfl, b, 11, n, rfl, hb, by omega, by decide, by decide, fun r1 μ1 g1 g1' o1 b1 => ?_⟩
  obtain ⟨y, ey, hy⟩ := pick_of (xs := [D.non, .int 7, .bl true, .lst [.str (Str.ofString "1")], .tup [.str (Str.ofString "a b")], .dct [], .str (Str.ofString ""), .str (Str.ofString " "), .str (Str.ofString "-"), .str (Str.ofString "0"), .str (Str.ofString "-0")]) rfl g1 g1'
  refine ix_lst ey ?_
  have hy : OkX y := by
    simp only [List.mem_cons, List.not_mem_nil, or_false] at hy
    have lit : ∀ {z : Str}, z.length ≤ 20 ∧ asc z → OkX (.str z) := fun h => okx_str ⟨Nat.le_trans h.1 (by decide), h.2⟩
    rcases hy with rfl | rfl | rfl | rfl | rfl | rfl | rfl | rfl | rfl | rfl | rfl
    all_goals first
      | exact lit (tx_lit (by decide +kernel))
      | exact ⟨⟨_, fun _ => rfl⟩, nofun⟩
  unfold t__law_right_1
  walk_at "l3"
  refine ⟨rfl, b, 5, _, rfl, b1, by omega, by decide, by decide, fun r2 μ2 g2 g2' o2 b2 => ?_⟩
  walk_at "l3"
  by_cases h0 : 0 < r2
  · simp only [h0, decide_true, if_true]
    refine ⟨rfl, b, _, rfl, b2, by omega, fun z μ3 hz o3 b3 => ?_⟩
    exact right_2 hy (okx_str hz) (by omega) ((((Keeps.refl b μ).onl o1).onl o2).onl o3) b3 fun μ' o bb => h μ' o (bb.mono (by omega))
  · simp only [h0, decide_false, Bool.false_eq_true, if_false]
    exact right_2 hy hy (by omega) (((Keeps.refl b μ).onl o1).onl o2) b2 fun μ' o bb => h μ' o (bb.mono (by omega))
def sp_law : Sp3 := fun ds μ R => ∃ ns : List Int, ds = [.scr (ns.map D.int)] ∧ ns.length ≤ 63 ∧ ∀ μ', R (.bl true) μ'
def t_law_1 : TS3 := (sRet (vC (.bl true)))
def t_law : TS3 := sSeq (sFor (iRg1 (vCons (vCB gMax2 (vCons (vC (.int 2)) (vCons (vCB gMin2 (vCons (vC (.int 12)) (vCons (vCB gLen (vCons (vVar 0) vNil)) vNil))) vNil))) vNil)) (gN 1) (sSeq (sSet 2 (vCall 1 sp__law_box (vCons (vCall 2 sp__law_cell (vCons (vVar 0) (vCons (vVar 1) vNil))) vNil))) (sFor (iRg1 (vCons (vC (.int 8)) vNil)) (gN 3) (sIf (vNot (vB (vCall 1 sp__law_right (vCons (vVar 2) vNil)))) (sRet (vC (.bl false))) sNext)))) t_law_1
theorem pure_law (ds : List D) (μ : Mu) (R : DK) (hl : ds.length = 1) (h : sp_law ds μ R) : t_law (endsOf R) (start3 ["_law_script", "_law_k", "_law_box_here", "_law_turn"] ds) μ := by
  obtain ⟨ns, rfl, hn, h⟩ := h
  show t_law (endsOf R) [some (.scr (ns.map D.int)), none, none, none] μ
  unfold t_law
  walk_at "l3"
  refine gLen_of rfl ?_
  walk_at "l3"
  generalize hq : (max 2 (min 12 ((ns.map D.int).length : Int))) = q
  have hq2 : 0 ≤ q ∧ q ≤ 12 := by omega
  refine ⟨by omega, by omega, ?_⟩
  refine for_rg (fun k δ μ' => ∃ y1 y2 y3, δ = [some (.scr (ns.map D.int)), y1, y2, y3]) ⟨none, none, none, rfl⟩ ?_ ?_
  · rintro δ μ' ⟨y1, y2, y3, rfl⟩
    exact fin_now (h _)
  · rintro k δ μ' hk ⟨y1, y2, y3, rfl⟩ N hN
    walk_at "l3"
    refine ⟨rfl, ns, k, by simp, by omega, fun z => ⟨rfl, z, rfl, fun b μ1 hb o1 b1 => ⟨by decide, by decide, ?_⟩⟩⟩
    refine for_rg (fun j δ μ' => (∃ y3, δ = [some (.scr (ns.map D.int)), some (.int (0 + (k : Int))), some (.ref b), y3]) ∧ Box μ' b (200 * j)) ⟨⟨y3, rfl⟩, b1⟩ ?_ ?_
    · rintro δ μ2 ⟨⟨y, rfl⟩, _⟩
      exact hN _ _ ⟨_, _, _, rfl⟩
    · rintro j δ μ2 hj ⟨⟨y, rfl⟩, b2⟩ N2 hN2
      walk_at "l3"
      have hj6 : j < 8 := hj
      refine ⟨rfl, b, _, rfl, b2, by omega, fun μ3 o3 b3 => ?_⟩
      exact hN2 _ _ ⟨⟨_, rfl⟩, b3.mono (by omega)⟩
theorem enter {K : PySem.W.Frag} {H : Hp} {a : Addr} {ns : List Int} (hl : ns.length ≤ 63) (hS : SqL K H a (ns.map V.int)) : lift K 1 sp_law [.ref a] H (fun v _ => v = .bl true) fun _ _ _ => False := enter_scr hS ⟨ns, rfl, hl, fun _ => rfl⟩

end K02

namespace K02
open PySem PySem.Spec L2 L3
/-! ### the text -/
def topS (j : Nat) : Stmt := (PySem.Challenge.pw_pileups_k02_numbers_and_words_of_texts).main.body.getD j (Stmt.Pass ⟨0, 0, 0, 0⟩)
/-- what the names of the module hold -/
structure Bl (mg : Str → Option Value) : Prop where
  b_abs : mg "abs" = none
  b_all : mg "all" = none
  b_int : mg "int" = none
  b_isinstance : mg "isinstance" = none
  b_len : mg "len" = none
  b_max : mg "max" = none
  b_min : mg "min" = none
  b_range : mg "range" = none
  b_repr : mg "repr" = none
  b_str : mg "str" = none
  k_MOST_DIGITS : ∃ t, mg "MOST_DIGITS" = some (.int 30 t)
section
variable {P : Program} {w : World} {K : PySem.W.Frag} {mg : Str → Option Value} {base : Heap}
theorem sc_parse_integer : FnScope ["text", "low", "high", "digits", "sign", "number"] ["text", "low", "high"] (defScope (topS 2)) := ⟨rfl, rfl, rfl, by decide +kernel, rfl, by decide +kernel, by decide +kernel⟩
theorem ok_parse_integer {f : Addr} {fd : FuncData} (T : Bl mg)  (F : Def3 K "parse_integer" "parse_integer" (topS 2) [] [("low", (.non : V)), ("high", (.non : V))] f fd) : FnG P w K mg base CX0 1 f fd ["text", "low", "high"] (lift K 3 sp_parse_integer) := by
  have nd := sc_parse_integer.nd
  refine F.ok3 sc_parse_integer fun cdv A outer s H E hr => ⟨t_parse_integer, ?_, pure_parse_integer⟩
  exact (ss_cons (s_if (t_not (t_val (e_callB (c_isi) T.b_isinstance (by decide +kernel) (a_cons (e_var 0) (a_cons (e_bty T.b_str (by decide +kernel)) a_nil))))) (ss_one (s_ret e_non)) ss_nil) (ss_cons (s_set (i := 3) nd (e_if (t_cmp o_eqS (e_slice (e_var 0) p_none (p_some e_int)) e_str) (e_slice (e_var 0) (p_some e_int) p_none) (e_var 0))) (ss_cons (s_if (t_w (w_or (t_not (t_chain o_le o_le e_int (e_callB (c_len) T.b_len PySem.boot_len (a_cons (e_var 3) a_nil)) (e_gint (T.k_MOST_DIGITS).choose_spec))) (w_or1 (t_not (t_val (e_callB (c_all rfl) T.b_all (by decide +kernel) (a_cons (e_lc (own := [("sign", 4)]) (vs := [4]) (tt := vYes) (te := (vOp gInS (vVar 4) (vC (.str "0123456789")))) rfl nd (i_str (e_var 3)) (blkOk_by (N := ["text", "low", "high", "digits", "sign", "number"]) (sc := defScope (topS 2)) (by decide +kernel)) (tg_name 4) (fun j hj => hj) (fun _ _ _ _ _ => pg_name (i := 4) nd rfl (Or.inl rfl)) (fun _ _ _ _ _ => ts_nil) (fun _ _ _ _ _ => (e_cmp o_inS (e_var 4) e_str))) a_nil))))))) (ss_one (s_ret e_non)) ss_nil) (ss_cons (s_if (t_w (w_and (t_cmp o_eqS (e_ix (e_var 3) e_int) e_str) (w_and1 (t_cmp o_neS (e_var 0) e_str)))) (ss_one (s_ret e_non)) ss_nil) (ss_cons (s_set (i := 5) nd (e_callTy c_int T.b_int (by decide +kernel) (a_cons (e_var 0) a_nil))) (ss_cons (s_if (t_w (w_or (t_w (w_and (t_cmp o_notN (e_var 1) e_non) (w_and1 (t_cmp o_lt (e_var 5) (e_var 1))))) (w_or1 (t_w (w_and (t_cmp o_notN (e_var 2) e_non) (w_and1 (t_cmp o_gt (e_var 5) (e_var 2)))))))) (ss_one (s_ret e_non)) ss_nil) (ss_one (s_ret (e_var 5)))))))))
theorem sc_split_words : FnScope ["text", "words"] ["text"] (defScope (topS 3)) := ⟨rfl, rfl, rfl, by decide +kernel, rfl, by decide +kernel, by decide +kernel⟩
theorem ok_split_words {f : Addr} {fd : FuncData} (T : Bl mg)  (F : Def3 K "split_words" "split_words" (topS 3) [] [] f fd) : FnG P w K mg base CX0 1 f fd ["text"] (lift K 1 sp_split_words) := by
  have nd := sc_split_words.nd
  refine F.ok3 sc_split_words fun cdv A outer s H E hr => ⟨t_split_words, ?_, pure_split_words⟩
  exact (ss_cons (s_if (t_not (t_val (e_callB (c_isi) T.b_isinstance (by decide +kernel) (a_cons (e_var 0) (a_cons (e_bty T.b_str (by decide +kernel)) a_nil))))) (ss_one (s_ret e_non)) ss_nil) (ss_cons (s_set (i := 1) nd (e_bm PySem.F.plainAttrs_str PySem.F.slot_str_split PySem.F.type_str_split m_split (e_var 0) (a_cons e_str a_nil))) (ss_one (s_ret (e_if (t_cmp o_inL e_str (e_var 1)) e_non (e_var 1))))))
theorem sc__law_cell : FnScope ["_law_script", "_law_k"] ["_law_script", "_law_k"] (defScope (topS 5)) := ⟨rfl, rfl, rfl, by decide +kernel, rfl, by decide +kernel, by decide +kernel⟩
theorem ok__law_cell {f : Addr} {fd : FuncData} (T : Bl mg)  (F : Def3 K "_law_cell" "_law_cell" (topS 5) [] [] f fd) : FnG P w K mg base CX0 1 f fd ["_law_script", "_law_k"] (lift K 2 sp__law_cell) := by
  have nd := sc__law_cell.nd
  refine F.ok3 sc__law_cell fun cdv A outer s H E hr => ⟨t__law_cell, ?_, pure__law_cell⟩
  exact (ss_cons (s_if (t_cmp o_lt (e_var 1) (e_callB (c_len) T.b_len PySem.boot_len (a_cons (e_var 0) a_nil))) (ss_one (s_ret (e_ix (e_var 0) (e_var 1)))) ss_nil) (ss_one (s_ret (e_op o_add (e_op o_mul e_int (e_var 1)) e_int))))
theorem sc__law_box : FnScope ["_law_cell_here"] ["_law_cell_here"] (defScope (topS 6)) := ⟨rfl, rfl, rfl, by decide +kernel, rfl, by decide +kernel, by decide +kernel⟩
theorem ok__law_box {f : Addr} {fd : FuncData} (T : Bl mg)  (F : Def3 K "_law_box" "_law_box" (topS 6) [] [] f fd) : FnG P w K mg base CX0 1 f fd ["_law_cell_here"] (lift K 1 sp__law_box) := by
  have nd := sc__law_box.nd
  refine F.ok3 sc__law_box fun cdv A outer s H E hr => ⟨t__law_box, ?_, pure__law_box⟩
  exact (ss_one (s_ret (e_lstT (a_cons (e_callB (c_max2 rfl) T.b_max (by decide +kernel) (a_cons e_int (a_cons (e_op o_sub (e_var 0) (e_op o_pow e_int e_int)) a_nil))) (a_cons (e_op o_mod (e_var 0) e_int) (a_cons e_int a_nil))))))
theorem sc__law_take : FnScope ["_law_box_here", "_law_many", "_law_digit", "_law_number"] ["_law_box_here", "_law_many"] (defScope (topS 7)) := ⟨rfl, rfl, rfl, by decide +kernel, rfl, by decide +kernel, by decide +kernel⟩
theorem ok__law_take {f : Addr} {fd : FuncData} (T : Bl mg)  (F : Def3 K "_law_take" "_law_take" (topS 7) [] [] f fd) : FnG P w K mg base CX0 1 f fd ["_law_box_here", "_law_many"] (lift K 2 sp__law_take) := by
  have nd := sc__law_take.nd
  refine F.ok3 sc__law_take fun cdv A outer s H E hr => ⟨t__law_take, ?_, pure__law_take⟩
  exact (ss_cons (s_if (t_cmp o_gt (e_ix (e_var 0) e_int) e_int) (ss_cons (s_set (i := 2) nd (e_op o_mod (e_ix (e_var 0) e_int) (e_var 1))) (ss_cons (s_sub st_list (e_op o_div (e_ix (e_var 0) e_int) (e_var 1)) (e_var 0) e_int) (ss_one (s_ret (e_var 2))))) ss_nil) (ss_cons (s_sub st_list (e_op o_add (e_ix (e_var 0) e_int) e_int) (e_var 0) e_int) (ss_cons (s_set (i := 3) nd (e_op o_mod (e_op o_pow (e_op o_add (e_op o_add (e_ix (e_var 0) e_int) (e_op o_mul e_int (e_ix (e_var 0) e_int))) e_int) e_int) e_int)) (ss_cons (s_set (i := 3) nd (e_op o_mod (e_op o_pow (e_op o_add (e_var 3) (e_op o_mul e_int (e_ix (e_var 0) e_int))) e_int) e_int)) (ss_one (s_ret (e_op o_mod (e_op o_div (e_var 3) e_int) (e_var 1))))))))
theorem sc__law_words : FnScope ["_law_text", "_law_found", "_law_sign"] ["_law_text"] (defScope (topS 11)) := ⟨rfl, rfl, rfl, by decide +kernel, rfl, by decide +kernel, by decide +kernel⟩
theorem ok__law_words {f : Addr} {fd : FuncData} (T : Bl mg)  (F : Def3 K "_law_words" "_law_words" (topS 11) [] [] f fd) : FnG P w K mg base CX0 1 f fd ["_law_text"] (lift K 1 sp__law_words) := by
  have nd := sc__law_words.nd
  refine F.ok3 sc__law_words fun cdv A outer s H E hr => ⟨t__law_words, ?_, pure__law_words⟩
  exact (ss_cons (s_if (t_not (t_val (e_callB (c_isi) T.b_isinstance (by decide +kernel) (a_cons (e_var 0) (a_cons (e_bty T.b_str (by decide +kernel)) a_nil))))) (ss_one (s_ret e_non)) ss_nil) (ss_cons (s_set (i := 1) nd (e_lstT (a_cons e_str a_nil))) (ss_cons (s_for PassesOwn.never rfl (i_str (e_var 0)) (g_name (i := 2) nd) (ss_one (s_if (t_cmp o_eqS (e_var 2) e_str) (ss_one (s_expr (e_bm PySem.F.plainAttrs_list PySem.F.slot_list_append PySem.F.type_list_append m_append (e_var 1) (a_cons e_str a_nil)))) (ss_one (s_sub st_list (e_op o_add (e_ix (e_var 1) (e_un u_neg e_int)) (e_var 2)) (e_var 1) (e_un u_neg e_int)))))) (ss_one (s_ret (e_if (t_cmp o_inL e_str (e_var 1)) e_non (e_var 1)))))))
theorem sc__law_due : FnScope ["_law_text", "_law_floor", "_law_roof", "_law_digits_here", "_law_sign", "_law_number"] ["_law_text", "_law_floor", "_law_roof"] (defScope (topS 9)) := ⟨rfl, rfl, rfl, by decide +kernel, rfl, by decide +kernel, by decide +kernel⟩
theorem ok__law_due {f : Addr} {fd : FuncData} (T : Bl mg)  (F : Def3 K "_law_due" "_law_due" (topS 9) [] [] f fd) : FnG P w K mg base CX0 1 f fd ["_law_text", "_law_floor", "_law_roof"] (lift K 3 sp__law_due) := by
  have nd := sc__law_due.nd
  refine F.ok3 sc__law_due fun cdv A outer s H E hr => ⟨t__law_due, ?_, pure__law_due⟩
  exact (ss_cons (s_if (t_not (t_val (e_callB (c_isi) T.b_isinstance (by decide +kernel) (a_cons (e_var 0) (a_cons (e_bty T.b_str (by decide +kernel)) a_nil))))) (ss_one (s_ret e_non)) ss_nil) (ss_cons (s_set (i := 3) nd (e_if (t_cmp o_eqS (e_slice (e_var 0) p_none (p_some e_int)) e_str) (e_slice (e_var 0) (p_some e_int) p_none) (e_var 0))) (ss_cons (s_if (t_w (w_or (t_not (t_chain o_le o_le e_int (e_callB (c_len) T.b_len PySem.boot_len (a_cons (e_var 3) a_nil)) e_int)) (w_or1 (t_cmp (o_neD hr) (e_lc (own := [("_law_sign", 4)]) (vs := [4]) (tt := (vB (vOp gNotInS (vVar 4) (vC (.str "0123456789"))))) (te := (vVar 4)) rfl nd (i_str (e_var 3)) (blkOk_by (N := ["_law_text", "_law_floor", "_law_roof", "_law_digits_here", "_law_sign", "_law_number"]) (sc := defScope (topS 9)) (by decide +kernel)) (tg_name 4) (fun j hj => hj) (fun _ _ _ _ _ => pg_name (i := 4) nd rfl (Or.inl rfl)) (fun _ _ _ _ _ => ts_one (t_cmp o_notInS (e_var 4) e_str)) (fun _ _ _ _ _ => (e_var 4))) (e_lst a_nil))))) (ss_one (s_ret e_non)) ss_nil) (ss_cons (s_if (t_cmp o_neS (e_callTy c_str T.b_str (by decide +kernel) (a_cons (e_callTy c_int T.b_int (by decide +kernel) (a_cons (e_var 0) a_nil)) a_nil)) (e_var 0)) (ss_one (s_ret e_non)) ss_nil) (ss_cons (s_set (i := 5) nd (e_callTy c_int T.b_int (by decide +kernel) (a_cons (e_var 0) a_nil))) (ss_one (s_ret (e_if (t_w (w_and (t_w (w_or (t_cmp o_isN (e_var 1) e_non) (w_or1 (t_cmp o_ge (e_var 5) (e_var 1))))) (w_and1 (t_w (w_or (t_cmp o_isN (e_var 2) e_non) (w_or1 (t_cmp o_le (e_var 5) (e_var 2)))))))) (e_var 5) e_non))))))))
theorem sc__law_digits : FnScope ["_law_box_here", "_law_many", "_law_text", "_law_k", "_law_at"] ["_law_box_here"] (defScope (topS 8)) := ⟨rfl, rfl, rfl, by decide +kernel, rfl, by decide +kernel, by decide +kernel⟩
theorem ok__law_digits {f : Addr} {fd : FuncData} (T : Bl mg) (c__law_take : Cal3 P w K mg base 1 "_law_take" 2 [] (allPos 2) [] sp__law_take) (F : Def3 K "_law_digits" "_law_digits" (topS 8) [] [] f fd) : FnG P w K mg base CX0 2 f fd ["_law_box_here"] (lift K 1 sp__law_digits) := by
  have nd := sc__law_digits.nd
  refine F.ok3 sc__law_digits fun cdv A outer s H E hr => ⟨t__law_digits, ?_, pure__law_digits⟩
  exact (ss_cons (s_set (i := 1) nd (e_ix (e_lst (a_cons e_int (a_cons e_int (a_cons e_int (a_cons e_int (a_cons e_int (a_cons e_int (a_cons e_int a_nil)))))))) (e_cal c__law_take hr (a_cons (e_var 0) (a_cons e_int a_nil))))) (ss_cons (s_set (i := 2) nd (e_bm PySem.F.plainAttrs_str PySem.F.slot_str_join PySem.F.type_str_join m_join e_str (a_cons (e_lc (own := [("_law_k", 3)]) (vs := [3]) (tt := vYes) (te := (vOp gIx (vC (.str "0123456789")) (vCall 2 sp__law_take (vCons (vVar 0) (vCons (vC (.int 10)) vNil))))) rfl nd (i_range1 T.b_range (a_cons (e_var 1) a_nil)) (blkOk_by (N := ["_law_box_here", "_law_many", "_law_text", "_law_k", "_law_at"]) (sc := defScope (topS 8)) (by decide +kernel)) (tg_name 3) (fun j hj => hj) (fun _ _ _ _ _ => pg_name (i := 3) nd rfl (Or.inl rfl)) (fun _ _ _ _ _ => ts_nil) (fun _ _ _ _ _ => (e_ix e_str (e_cal c__law_take hr (a_cons (e_var 0) (a_cons e_int a_nil)))))) a_nil))) (ss_cons (s_set (i := 2) nd (e_op o_add (e_ix (e_lst (a_cons e_str (a_cons e_str (a_cons e_str (a_cons e_str (a_cons e_str (a_cons e_str a_nil))))))) (e_cal c__law_take hr (a_cons (e_var 0) (a_cons e_int a_nil)))) (e_var 2))) (ss_cons (s_if (t_cmp o_eqS (e_cal c__law_take hr (a_cons (e_var 0) (a_cons e_int a_nil))) e_int) (ss_cons (s_set (i := 4) nd (e_cal c__law_take hr (a_cons (e_var 0) (a_cons (e_op o_add (e_callB (c_len) T.b_len PySem.boot_len (a_cons (e_var 2) a_nil)) e_int) a_nil)))) (ss_one (s_set (i := 2) nd (e_op o_add (e_op o_add (e_slice (e_var 2) p_none (p_some (e_var 4))) (e_ix (e_lst (a_cons e_str (a_cons e_str (a_cons e_str (a_cons e_str (a_cons e_str (a_cons e_str (a_cons e_str a_nil)))))))) (e_cal c__law_take hr (a_cons (e_var 0) (a_cons e_int a_nil))))) (e_slice (e_var 2) (p_some (e_var 4)) p_none))))) ss_nil) (ss_one (s_ret (e_var 2)))))))
theorem sc__law_line : FnScope ["_law_box_here", "_law_signs", "_law_words_here", "_law_k", "_law_j", "_law_text", "_law_at"] ["_law_box_here"] (defScope (topS 10)) := ⟨rfl, rfl, rfl, by decide +kernel, rfl, by decide +kernel, by decide +kernel⟩
theorem ok__law_line {f : Addr} {fd : FuncData} (T : Bl mg) (c__law_take : Cal3 P w K mg base 1 "_law_take" 2 [] (allPos 2) [] sp__law_take) (F : Def3 K "_law_line" "_law_line" (topS 10) [] [] f fd) : FnG P w K mg base CX0 2 f fd ["_law_box_here"] (lift K 1 sp__law_line) := by
  have nd := sc__law_line.nd
  refine F.ok3 sc__law_line fun cdv A outer s H E hr => ⟨t__law_line, ?_, pure__law_line⟩
  exact (ss_cons (s_set (i := 1) nd e_str) (ss_cons (s_set (i := 2) nd (e_lstT a_nil)) (ss_cons (s_for PassesOwn.never rfl (i_range1 T.b_range (a_cons (e_op o_add e_int (e_cal c__law_take hr (a_cons (e_var 0) (a_cons e_int a_nil)))) a_nil)) (g_name (i := 3) nd) (ss_one (s_expr (e_bm PySem.F.plainAttrs_list PySem.F.slot_list_append PySem.F.type_list_append m_append (e_var 2) (a_cons (e_bm PySem.F.plainAttrs_str PySem.F.slot_str_join PySem.F.type_str_join m_join e_str (a_cons (e_lc (own := [("_law_j", 4)]) (vs := [4]) (tt := vYes) (te := (vOp gIx (vVar 1) (vCall 2 sp__law_take (vCons (vVar 0) (vCons (vC (.int 31)) vNil))))) rfl nd (i_range1 T.b_range (a_cons (e_op o_add e_int (e_cal c__law_take hr (a_cons (e_var 0) (a_cons e_int a_nil)))) a_nil)) (blkOk_by (N := ["_law_box_here", "_law_signs", "_law_words_here", "_law_k", "_law_j", "_law_text", "_law_at"]) (sc := defScope (topS 10)) (by decide +kernel)) (tg_name 4) (fun j hj => hj) (fun _ _ _ _ _ => pg_name (i := 4) nd rfl (Or.inl rfl)) (fun _ _ _ _ _ => ts_nil) (fun _ _ _ _ _ => (e_ix (e_var 1) (e_cal c__law_take hr (a_cons (e_var 0) (a_cons e_int a_nil)))))) a_nil)) a_nil))))) (ss_cons (s_set (i := 5) nd (e_bm PySem.F.plainAttrs_str PySem.F.slot_str_join PySem.F.type_str_join m_join e_str (a_cons (e_var 2) a_nil))) (ss_cons (s_if (t_cmp o_eqS (e_cal c__law_take hr (a_cons (e_var 0) (a_cons e_int a_nil))) e_int) (ss_cons (s_set (i := 6) nd (e_cal c__law_take hr (a_cons (e_var 0) (a_cons (e_op o_add (e_callB (c_len) T.b_len PySem.boot_len (a_cons (e_var 5) a_nil)) e_int) a_nil)))) (ss_one (s_set (i := 5) nd (e_op o_add (e_op o_add (e_slice (e_var 5) p_none (p_some (e_var 6))) (e_ix (e_lst (a_cons e_str (a_cons e_str (a_cons e_str a_nil)))) (e_cal c__law_take hr (a_cons (e_var 0) (a_cons e_int a_nil))))) (e_slice (e_var 5) (p_some (e_var 6)) p_none))))) ss_nil) (ss_one (s_ret (e_var 5))))))))
theorem sc__law_right : FnScope ["_law_box_here", "_law_odd", "_law_text", "_law_floor", "_law_roof", "_law_here", "_law_found", "_law_due_here", "_law_line_here", "_law_words_here"] ["_law_box_here"] (defScope (topS 12)) := ⟨rfl, rfl, rfl, by decide +kernel, rfl, by decide +kernel, by decide +kernel⟩
theorem ok__law_right {f : Addr} {fd : FuncData} (T : Bl mg) (c__law_take : Cal3 P w K mg base 1 "_law_take" 2 [] (allPos 2) [] sp__law_take) (c__law_digits : Cal3 P w K mg base 2 "_law_digits" 1 [] (allPos 1) [] sp__law_digits) (c__law_due : Cal3 P w K mg base 1 "_law_due" 3 [] (allPos 3) [] sp__law_due) (c_parse_integer__1 : Cal3 P w K mg base 1 "parse_integer" 1 [] [.pos 0, .dfl 0, .dfl 1] [.non, .non] sp_parse_integer) (c_parse_integer__1_low : Cal3 P w K mg base 1 "parse_integer" 1 ["low"] [.pos 0, .kw 0, .dfl 0] [.non] sp_parse_integer) (c_parse_integer__1_high : Cal3 P w K mg base 1 "parse_integer" 1 ["high"] [.pos 0, .dfl 0, .kw 0] [.non] sp_parse_integer) (c_parse_integer__1_high_low : Cal3 P w K mg base 1 "parse_integer" 1 ["high", "low"] [.pos 0, .kw 1, .kw 0] [] sp_parse_integer) (c__law_line : Cal3 P w K mg base 2 "_law_line" 1 [] (allPos 1) [] sp__law_line) (c_split_words : Cal3 P w K mg base 1 "split_words" 1 [] (allPos 1) [] sp_split_words) (c__law_words : Cal3 P w K mg base 1 "_law_words" 1 [] (allPos 1) [] sp__law_words) (F : Def3 K "_law_right" "_law_right" (topS 12) [] [] f fd) : FnG P w K mg base CX0 3 f fd ["_law_box_here"] (lift K 1 sp__law_right) := by
  have nd := sc__law_right.nd
  refine F.ok3 sc__law_right fun cdv A outer s H E hr => ⟨t__law_right, ?_, pure__law_right⟩
  exact (ss_cons (s_set (i := 1) nd (e_ix (e_lst (a_cons e_non (a_cons e_int (a_cons e_bl (a_cons (e_lst (a_cons e_str a_nil)) (a_cons (e_tup (a_cons e_str a_nil)) (a_cons e_dict0 (a_cons e_str (a_cons e_str (a_cons e_str (a_cons e_str (a_cons e_str a_nil)))))))))))) (e_cal c__law_take hr (a_cons (e_var 0) (a_cons e_int a_nil))))) (ss_cons (s_set (i := 2) nd (e_if (t_cmp o_gt (e_cal c__law_take hr (a_cons (e_var 0) (a_cons e_int a_nil))) e_int) (e_cal c__law_digits hr (a_cons (e_var 0) a_nil)) (e_var 1))) (ss_cons (s_set (i := 3) nd (e_ix (e_lst (a_cons (e_op o_sub (e_cal c__law_take hr (a_cons (e_var 0) (a_cons e_int a_nil))) e_int) (a_cons (e_op o_sub e_int (e_op o_pow e_int e_int)) (a_cons e_int a_nil)))) (e_cal c__law_take hr (a_cons (e_var 0) (a_cons e_int a_nil))))) (ss_cons (s_set (i := 4) nd (e_ix (e_lst (a_cons (e_op o_sub (e_cal c__law_take hr (a_cons (e_var 0) (a_cons e_int a_nil))) e_int) (a_cons (e_op o_pow e_int e_int) (a_cons e_int a_nil)))) (e_cal c__law_take hr (a_cons (e_var 0) (a_cons e_int a_nil))))) (ss_cons (s_set (i := 5) nd (e_cal c__law_due hr (a_cons (e_var 2) (a_cons e_non (a_cons e_non a_nil))))) (ss_cons (s_if (t_w (w_and (t_cmp o_notN (e_var 5) e_non) (w_and1 (t_cmp o_eqS (e_cal c__law_take hr (a_cons (e_var 0) (a_cons e_int a_nil))) e_int)))) (ss_cons (s_set (i := 3) nd (e_op o_add (e_var 5) (e_op o_mul (e_cal c__law_take hr (a_cons (e_var 0) (a_cons e_int a_nil))) (e_callTy c_int T.b_int (by decide +kernel) (a_cons (e_cmp o_lt (e_callB (c_abs) T.b_abs (by decide +kernel) (a_cons (e_var 5) a_nil)) (e_op o_pow e_int e_int)) a_nil))))) (ss_one (s_set (i := 4) nd (e_op o_sub (e_var 5) (e_op o_mul (e_cal c__law_take hr (a_cons (e_var 0) (a_cons e_int a_nil))) (e_callTy c_int T.b_int (by decide +kernel) (a_cons (e_cmp o_lt (e_callB (c_abs) T.b_abs (by decide +kernel) (a_cons (e_var 5) a_nil)) (e_op o_pow e_int e_int)) a_nil))))))) ss_nil) (ss_cons (s_set (i := 6) nd (e_lstT (a_cons (e_calP c_parse_integer__1 hr (a_cons (e_var 2) a_nil)) (a_cons (e_calK c_parse_integer__1_low hr (a_cons (e_var 2) a_nil) (k_cons (e_var 3) k_nil)) (a_cons (e_calK c_parse_integer__1_high hr (a_cons (e_var 2) a_nil) (k_cons (e_var 4) k_nil)) a_nil))))) (ss_cons (s_expr (e_bm PySem.F.plainAttrs_list PySem.F.slot_list_append PySem.F.type_list_append m_append (e_var 6) (a_cons (e_calK c_parse_integer__1_high_low hr (a_cons (e_var 2) a_nil) (k_cons (e_var 4) (k_cons (e_var 3) k_nil))) a_nil))) (ss_cons (s_set (i := 7) nd (e_lstT (a_cons (e_cal c__law_due hr (a_cons (e_var 2) (a_cons e_non (a_cons e_non a_nil)))) (a_cons (e_cal c__law_due hr (a_cons (e_var 2) (a_cons (e_var 3) (a_cons e_non a_nil)))) (a_cons (e_cal c__law_due hr (a_cons (e_var 2) (a_cons e_non (a_cons (e_var 4) a_nil)))) a_nil))))) (ss_cons (s_expr (e_bm PySem.F.plainAttrs_list PySem.F.slot_list_append PySem.F.type_list_append m_append (e_var 7) (a_cons (e_cal c__law_due hr (a_cons (e_var 2) (a_cons (e_var 3) (a_cons (e_var 4) a_nil)))) a_nil))) (ss_cons (s_if (t_cmp o_neS (e_callB (c_repr hr) T.b_repr (by decide +kernel) (a_cons (e_var 6) a_nil)) (e_callB (c_repr hr) T.b_repr (by decide +kernel) (a_cons (e_var 7) a_nil))) (ss_one (s_ret e_bl)) ss_nil) (ss_cons (s_set (i := 8) nd (e_if (t_cmp o_gt (e_cal c__law_take hr (a_cons (e_var 0) (a_cons e_int a_nil))) e_int) (e_cal c__law_line hr (a_cons (e_var 0) a_nil)) (e_var 1))) (ss_cons (s_set (i := 9) nd (e_cal c_split_words hr (a_cons (e_var 8) a_nil))) (ss_cons (s_if (t_cmp o_neS (e_callB (c_repr hr) T.b_repr (by decide +kernel) (a_cons (e_var 9) a_nil)) (e_callB (c_repr hr) T.b_repr (by decide +kernel) (a_cons (e_cal c__law_words hr (a_cons (e_var 8) a_nil)) a_nil))) (ss_one (s_ret e_bl)) ss_nil) (ss_cons (s_if (t_cmp o_notN (e_var 9) e_non) (ss_one (s_expr (e_bm PySem.F.plainAttrs_list PySem.F.slot_list_append PySem.F.type_list_append m_append (e_var 9) (a_cons e_str a_nil)))) ss_nil) (ss_one (s_ret (e_cmp o_eqS (e_callB (c_repr hr) T.b_repr (by decide +kernel) (a_cons (e_cal c_split_words hr (a_cons (e_var 8) a_nil)) a_nil)) (e_callB (c_repr hr) T.b_repr (by decide +kernel) (a_cons (e_cal c__law_words hr (a_cons (e_var 8) a_nil)) a_nil))))))))))))))))))))
theorem sc_law : FnScope ["_law_script", "_law_k", "_law_box_here", "_law_turn"] ["_law_script"] (defScope (topS 13)) := ⟨rfl, rfl, rfl, by decide +kernel, rfl, by decide +kernel, by decide +kernel⟩
theorem ok_law {f : Addr} {fd : FuncData} (T : Bl mg) (c__law_cell : Cal3 P w K mg base 1 "_law_cell" 2 [] (allPos 2) [] sp__law_cell) (c__law_box : Cal3 P w K mg base 1 "_law_box" 1 [] (allPos 1) [] sp__law_box) (c__law_right : Cal3 P w K mg base 3 "_law_right" 1 [] (allPos 1) [] sp__law_right) (F : Def3 K "law" "law" (topS 13) [] [] f fd) : FnG P w K mg base CX0 4 f fd ["_law_script"] (lift K 1 sp_law) := by
  have nd := sc_law.nd
  refine F.ok3 sc_law fun cdv A outer s H E hr => ⟨t_law, ?_, pure_law⟩
  exact (ss_cons (s_for PassesOwn.never rfl (i_range1 T.b_range (a_cons (e_callB (c_max2 rfl) T.b_max (by decide +kernel) (a_cons e_int (a_cons (e_callB (c_min2 rfl) T.b_min (by decide +kernel) (a_cons e_int (a_cons (e_callB (c_len) T.b_len PySem.boot_len (a_cons (e_var 0) a_nil)) a_nil))) a_nil))) a_nil)) (g_name (i := 1) nd) (ss_cons (s_set (i := 2) nd (e_cal c__law_box hr (a_cons (e_cal c__law_cell hr (a_cons (e_var 0) (a_cons (e_var 1) a_nil))) a_nil))) (ss_one (s_for PassesOwn.never rfl (i_range1 T.b_range (a_cons e_int a_nil)) (g_name (i := 3) nd) (ss_one (s_if (t_not (t_val (e_cal c__law_right hr (a_cons (e_var 2) a_nil)))) (ss_one (s_ret e_bl)) ss_nil)))))) (ss_one (s_ret e_bl)))
end
/-! ### what the top has written -/
theorem all_mk {l : PySem.W.OpenLaw} {w : World} {K : PySem.W.Frag} {h : Heap} {mg : Str → Option Value} {fa f0 f1 f2 f3 f4 f5 f6 f7 f8 f9 f10 kD0 : Addr} (X : K.In h) (G : h.Ns mainGlobals mg) (hfa : mg "law" = some (.ref fa))
    {od0 an0 od1 an1 od2 an2 od3 an3 od4 an4 od5 an5 od6 an6 od7 an7 od8 an8 od9 an9 od10 an10 : Option Addr} {sl0 sl1 sl2 sl3 sl4 sl5 sl6 sl7 sl8 sl9 sl10 : Array (Option Value)} {oc0 dc0 pm0 cd0 ct0 oc1 kV1 dc1 pm1 cd1 ct1 oc2 kV2 dc2 pm2 cd2 ct2 oc3 kV3 dc3 pm3 cd3 ct3 oc4 kV4 dc4 pm4 cd4 ct4 oc5 kV5 dc5 pm5 cd5 ct5 oc6 kV6 dc6 pm6 cd6 ct6 oc7 kV7 dc7 pm7 cd7 ct7 oc8 kV8 dc8 pm8 cd8 ct8 oc9 kV9 dc9 pm9 cd9 ct9 oc10 kV10 dc10 pm10 cd10 ct10 : Value} {tk_MOST_DIGITS : Tok}
    (a0 : PySem.W.nsIn K mainGlobals "parse_integer" = some (some (.ref f0))) (l0 : K.lookup f0 = some ⟨oc0, od0, .func (PySem.W.fnOf "parse_integer" "parse_integer" (defArgs (topS 2)) (defBody (topS 2)) (defScope (topS 2)) .none (.ref kD0) dc0 pm0 an0 cd0 ct0), sl0⟩) (c0 : PySem.W.codeIn K cd0 "parse_integer" = true) (k0 : PySem.W.keepIn K (.ref f0) = true)
    (a1 : PySem.W.nsIn K mainGlobals "split_words" = some (some (.ref f1))) (l1 : K.lookup f1 = some ⟨oc1, od1, .func (PySem.W.fnOf "split_words" "split_words" (defArgs (topS 3)) (defBody (topS 3)) (defScope (topS 3)) .none kV1 dc1 pm1 an1 cd1 ct1), sl1⟩) (c1 : PySem.W.codeIn K cd1 "split_words" = true) (k1 : PySem.W.keepIn K (.ref f1) = true)
    (a2 : PySem.W.nsIn K mainGlobals "_law_cell" = some (some (.ref f2))) (l2 : K.lookup f2 = some ⟨oc2, od2, .func (PySem.W.fnOf "_law_cell" "_law_cell" (defArgs (topS 5)) (defBody (topS 5)) (defScope (topS 5)) .none kV2 dc2 pm2 an2 cd2 ct2), sl2⟩) (c2 : PySem.W.codeIn K cd2 "_law_cell" = true) (k2 : PySem.W.keepIn K (.ref f2) = true)
    (a3 : PySem.W.nsIn K mainGlobals "_law_box" = some (some (.ref f3))) (l3 : K.lookup f3 = some ⟨oc3, od3, .func (PySem.W.fnOf "_law_box" "_law_box" (defArgs (topS 6)) (defBody (topS 6)) (defScope (topS 6)) .none kV3 dc3 pm3 an3 cd3 ct3), sl3⟩) (c3 : PySem.W.codeIn K cd3 "_law_box" = true) (k3 : PySem.W.keepIn K (.ref f3) = true)
    (a4 : PySem.W.nsIn K mainGlobals "_law_take" = some (some (.ref f4))) (l4 : K.lookup f4 = some ⟨oc4, od4, .func (PySem.W.fnOf "_law_take" "_law_take" (defArgs (topS 7)) (defBody (topS 7)) (defScope (topS 7)) .none kV4 dc4 pm4 an4 cd4 ct4), sl4⟩) (c4 : PySem.W.codeIn K cd4 "_law_take" = true) (k4 : PySem.W.keepIn K (.ref f4) = true)
    (a5 : PySem.W.nsIn K mainGlobals "_law_words" = some (some (.ref f5))) (l5 : K.lookup f5 = some ⟨oc5, od5, .func (PySem.W.fnOf "_law_words" "_law_words" (defArgs (topS 11)) (defBody (topS 11)) (defScope (topS 11)) .none kV5 dc5 pm5 an5 cd5 ct5), sl5⟩) (c5 : PySem.W.codeIn K cd5 "_law_words" = true) (k5 : PySem.W.keepIn K (.ref f5) = true)
    (a6 : PySem.W.nsIn K mainGlobals "_law_due" = some (some (.ref f6))) (l6 : K.lookup f6 = some ⟨oc6, od6, .func (PySem.W.fnOf "_law_due" "_law_due" (defArgs (topS 9)) (defBody (topS 9)) (defScope (topS 9)) .none kV6 dc6 pm6 an6 cd6 ct6), sl6⟩) (c6 : PySem.W.codeIn K cd6 "_law_due" = true) (k6 : PySem.W.keepIn K (.ref f6) = true)
    (a7 : PySem.W.nsIn K mainGlobals "_law_digits" = some (some (.ref f7))) (l7 : K.lookup f7 = some ⟨oc7, od7, .func (PySem.W.fnOf "_law_digits" "_law_digits" (defArgs (topS 8)) (defBody (topS 8)) (defScope (topS 8)) .none kV7 dc7 pm7 an7 cd7 ct7), sl7⟩) (c7 : PySem.W.codeIn K cd7 "_law_digits" = true) (k7 : PySem.W.keepIn K (.ref f7) = true)
    (a8 : PySem.W.nsIn K mainGlobals "_law_line" = some (some (.ref f8))) (l8 : K.lookup f8 = some ⟨oc8, od8, .func (PySem.W.fnOf "_law_line" "_law_line" (defArgs (topS 10)) (defBody (topS 10)) (defScope (topS 10)) .none kV8 dc8 pm8 an8 cd8 ct8), sl8⟩) (c8 : PySem.W.codeIn K cd8 "_law_line" = true) (k8 : PySem.W.keepIn K (.ref f8) = true)
    (a9 : PySem.W.nsIn K mainGlobals "_law_right" = some (some (.ref f9))) (l9 : K.lookup f9 = some ⟨oc9, od9, .func (PySem.W.fnOf "_law_right" "_law_right" (defArgs (topS 12)) (defBody (topS 12)) (defScope (topS 12)) .none kV9 dc9 pm9 an9 cd9 ct9), sl9⟩) (c9 : PySem.W.codeIn K cd9 "_law_right" = true) (k9 : PySem.W.keepIn K (.ref f9) = true)
    (a10 : PySem.W.nsIn K mainGlobals "law" = some (some (.ref f10))) (l10 : K.lookup f10 = some ⟨oc10, od10, .func (PySem.W.fnOf "law" "law" (defArgs (topS 13)) (defBody (topS 13)) (defScope (topS 13)) .none kV10 dc10 pm10 an10 cd10 ct10), sl10⟩) (c10 : PySem.W.codeIn K cd10 "law" = true) (k10 : PySem.W.keepIn K (.ref f10) = true)
    (q0_low : PySem.W.nsIn K kD0 "low" = some (some .none))
    (q0_high : PySem.W.nsIn K kD0 "high" = some (some .none))
    (z_abs : PySem.W.nsIn K mainGlobals "abs" = some none)
    (z_all : PySem.W.nsIn K mainGlobals "all" = some none)
    (z_int : PySem.W.nsIn K mainGlobals "int" = some none)
    (z_isinstance : PySem.W.nsIn K mainGlobals "isinstance" = some none)
    (z_len : PySem.W.nsIn K mainGlobals "len" = some none)
    (z_max : PySem.W.nsIn K mainGlobals "max" = some none)
    (z_min : PySem.W.nsIn K mainGlobals "min" = some none)
    (z_range : PySem.W.nsIn K mainGlobals "range" = some none)
    (z_repr : PySem.W.nsIn K mainGlobals "repr" = some none)
    (z_str : PySem.W.nsIn K mainGlobals "str" = some none)
    (y_MOST_DIGITS : PySem.W.nsIn K mainGlobals "MOST_DIGITS" = some (some (.int 30 tk_MOST_DIGITS)))
    : ∃ fd : FuncData, (∀ (s : Shared) (v : Value), BindsTo s fd ⟨[v], []⟩ [("_law_script", v)]) ∧ ∀ base : Heap, K.In base → base.Ns mainGlobals mg → BaseX base → FnG l.prog w K mg base CX0 4 fa fd ["_law_script"] (lift K 1 sp_law) := by
  have e := hfa.symm.trans (PySem.W.mg_of X G a10)
  cases e
  have T : Bl mg := ⟨PySem.W.mg_none_of X G z_abs, PySem.W.mg_none_of X G z_all, PySem.W.mg_none_of X G z_int, PySem.W.mg_none_of X G z_isinstance, PySem.W.mg_none_of X G z_len, PySem.W.mg_none_of X G z_max, PySem.W.mg_none_of X G z_min, PySem.W.mg_none_of X G z_range, PySem.W.mg_none_of X G z_repr, PySem.W.mg_none_of X G z_str, ⟨_, PySem.W.mg_of X G y_MOST_DIGITS⟩⟩
  have F0 : Def3 K "parse_integer" "parse_integer" (topS 2) [] [("low", (.non : V)), ("high", (.non : V))] _ _ := def_mk l0 c0 k0 dfl0 (kwd1 fun q hq => by simp only [List.mem_cons, List.mem_nil_iff, or_false] at hq; rcases hq with rfl | rfl <;> first | exact ⟨_, q0_low, rfl⟩ | exact ⟨_, q0_high, rfl⟩)
  have F1 : Def3 K "split_words" "split_words" (topS 3) [] [] _ _ := def_mk l1 c1 k1 dfl0 kwd0
  have F2 : Def3 K "_law_cell" "_law_cell" (topS 5) [] [] _ _ := def_mk l2 c2 k2 dfl0 kwd0
  have F3 : Def3 K "_law_box" "_law_box" (topS 6) [] [] _ _ := def_mk l3 c3 k3 dfl0 kwd0
  have F4 : Def3 K "_law_take" "_law_take" (topS 7) [] [] _ _ := def_mk l4 c4 k4 dfl0 kwd0
  have F5 : Def3 K "_law_words" "_law_words" (topS 11) [] [] _ _ := def_mk l5 c5 k5 dfl0 kwd0
  have F6 : Def3 K "_law_due" "_law_due" (topS 9) [] [] _ _ := def_mk l6 c6 k6 dfl0 kwd0
  have F7 : Def3 K "_law_digits" "_law_digits" (topS 8) [] [] _ _ := def_mk l7 c7 k7 dfl0 kwd0
  have F8 : Def3 K "_law_line" "_law_line" (topS 10) [] [] _ _ := def_mk l8 c8 k8 dfl0 kwd0
  have F9 : Def3 K "_law_right" "_law_right" (topS 12) [] [] _ _ := def_mk l9 c9 k9 dfl0 kwd0
  have F10 : Def3 K "law" "law" (topS 13) [] [] _ _ := def_mk l10 c10 k10 dfl0 kwd0
  refine ⟨PySem.W.fnOf "law" "law" (defArgs (topS 13)) (defBody (topS 13)) (defScope (topS 13)) .none kV10 dc10 pm10 an10 cd10 ct10, fun s v => BindsTo.of_eq rfl, fun base _ _ BX => ?_⟩
  have g_parse_integer : FnG l.prog w K mg base CX0 1 _ _ ["text", "low", "high"] (lift K 3 sp_parse_integer) := ok_parse_integer T  F0
  have c_parse_integer__1 : Cal3 l.prog w K mg base 1 "parse_integer" 1 [] [.pos 0, .dfl 0, .dfl 1] [.non, .non] sp_parse_integer := ⟨⟨_, _, _, PySem.W.mg_of X G a0, k0, F0.bindK (ps := ["text", "low", "high"]) (by simp) [("low", (.non : V)), ("high", (.non : V))] (by decide +kernel) 1 [] [.pos 0, .dfl 0, .dfl 1] rfl fun _ _ _ _ _ _ us ws mv h1 h2 h3 => match us, ws, mv, h1, h2, h3 with | [_], [], [_, _], _, _, _ => ⟨_, _, _, _, _, _, rfl, rfl, ⟨_, _, _, _, _, _, rfl, rfl, rfl⟩⟩, g_parse_integer⟩, rfl⟩
  have c_parse_integer__1_high : Cal3 l.prog w K mg base 1 "parse_integer" 1 ["high"] [.pos 0, .dfl 0, .kw 0] [.non] sp_parse_integer := ⟨⟨_, _, _, PySem.W.mg_of X G a0, k0, F0.bindK (ps := ["text", "low", "high"]) (by simp) [("low", (.non : V))] (by decide +kernel) 1 ["high"] [.pos 0, .dfl 0, .kw 0] rfl fun _ _ _ _ _ _ us ws mv h1 h2 h3 => match us, ws, mv, h1, h2, h3 with | [_], [_], [_], _, _, _ => ⟨_, _, _, _, _, _, rfl, rfl, rfl⟩, g_parse_integer⟩, rfl⟩
  have c_parse_integer__1_high_low : Cal3 l.prog w K mg base 1 "parse_integer" 1 ["high", "low"] [.pos 0, .kw 1, .kw 0] [] sp_parse_integer := ⟨⟨_, _, _, PySem.W.mg_of X G a0, k0, F0.bindK (ps := ["text", "low", "high"]) (by simp) [] (by decide +kernel) 1 ["high", "low"] [.pos 0, .kw 1, .kw 0] rfl fun _ _ _ _ _ _ us ws mv h1 h2 h3 => match us, ws, mv, h1, h2, h3 with | [_], [_, _], [], _, _, _ => rfl, g_parse_integer⟩, rfl⟩
  have c_parse_integer__1_low : Cal3 l.prog w K mg base 1 "parse_integer" 1 ["low"] [.pos 0, .kw 0, .dfl 0] [.non] sp_parse_integer := ⟨⟨_, _, _, PySem.W.mg_of X G a0, k0, F0.bindK (ps := ["text", "low", "high"]) (by simp) [("high", (.non : V))] (by decide +kernel) 1 ["low"] [.pos 0, .kw 0, .dfl 0] rfl fun _ _ _ _ _ _ us ws mv h1 h2 h3 => match us, ws, mv, h1, h2, h3 with | [_], [_], [_], _, _, _ => ⟨_, _, _, _, _, _, rfl, rfl, rfl⟩, g_parse_integer⟩, rfl⟩
  have g_split_words : FnG l.prog w K mg base CX0 1 _ _ ["text"] (lift K 1 sp_split_words) := ok_split_words T  F1
  have c_split_words : Cal3 l.prog w K mg base 1 "split_words" 1 [] (allPos 1) [] sp_split_words := ⟨⟨_, _, _, PySem.W.mg_of X G a1, k1, F1.bindA (ps := ["text"]) 1 rfl fun _ _ _ _ _ _ us hl => match us, hl with | [_], _ => rfl, g_split_words⟩, rfl⟩
  have g__law_cell : FnG l.prog w K mg base CX0 1 _ _ ["_law_script", "_law_k"] (lift K 2 sp__law_cell) := ok__law_cell T  F2
  have c__law_cell : Cal3 l.prog w K mg base 1 "_law_cell" 2 [] (allPos 2) [] sp__law_cell := ⟨⟨_, _, _, PySem.W.mg_of X G a2, k2, F2.bindA (ps := ["_law_script", "_law_k"]) 2 rfl fun _ _ _ _ _ _ us hl => match us, hl with | [_, _], _ => rfl, g__law_cell⟩, rfl⟩
  have g__law_box : FnG l.prog w K mg base CX0 1 _ _ ["_law_cell_here"] (lift K 1 sp__law_box) := ok__law_box T  F3
  have c__law_box : Cal3 l.prog w K mg base 1 "_law_box" 1 [] (allPos 1) [] sp__law_box := ⟨⟨_, _, _, PySem.W.mg_of X G a3, k3, F3.bindA (ps := ["_law_cell_here"]) 1 rfl fun _ _ _ _ _ _ us hl => match us, hl with | [_], _ => rfl, g__law_box⟩, rfl⟩
  have g__law_take : FnG l.prog w K mg base CX0 1 _ _ ["_law_box_here", "_law_many"] (lift K 2 sp__law_take) := ok__law_take T  F4
  have c__law_take : Cal3 l.prog w K mg base 1 "_law_take" 2 [] (allPos 2) [] sp__law_take := ⟨⟨_, _, _, PySem.W.mg_of X G a4, k4, F4.bindA (ps := ["_law_box_here", "_law_many"]) 2 rfl fun _ _ _ _ _ _ us hl => match us, hl with | [_, _], _ => rfl, g__law_take⟩, rfl⟩
  have g__law_words : FnG l.prog w K mg base CX0 1 _ _ ["_law_text"] (lift K 1 sp__law_words) := ok__law_words T  F5
  have c__law_words : Cal3 l.prog w K mg base 1 "_law_words" 1 [] (allPos 1) [] sp__law_words := ⟨⟨_, _, _, PySem.W.mg_of X G a5, k5, F5.bindA (ps := ["_law_text"]) 1 rfl fun _ _ _ _ _ _ us hl => match us, hl with | [_], _ => rfl, g__law_words⟩, rfl⟩
  have g__law_due : FnG l.prog w K mg base CX0 1 _ _ ["_law_text", "_law_floor", "_law_roof"] (lift K 3 sp__law_due) := ok__law_due T  F6
  have c__law_due : Cal3 l.prog w K mg base 1 "_law_due" 3 [] (allPos 3) [] sp__law_due := ⟨⟨_, _, _, PySem.W.mg_of X G a6, k6, F6.bindA (ps := ["_law_text", "_law_floor", "_law_roof"]) 3 rfl fun _ _ _ _ _ _ us hl => match us, hl with | [_, _, _], _ => rfl, g__law_due⟩, rfl⟩
  have g__law_digits : FnG l.prog w K mg base CX0 2 _ _ ["_law_box_here"] (lift K 1 sp__law_digits) := ok__law_digits T c__law_take F7
  have c__law_digits : Cal3 l.prog w K mg base 2 "_law_digits" 1 [] (allPos 1) [] sp__law_digits := ⟨⟨_, _, _, PySem.W.mg_of X G a7, k7, F7.bindA (ps := ["_law_box_here"]) 1 rfl fun _ _ _ _ _ _ us hl => match us, hl with | [_], _ => rfl, g__law_digits⟩, rfl⟩
  have g__law_line : FnG l.prog w K mg base CX0 2 _ _ ["_law_box_here"] (lift K 1 sp__law_line) := ok__law_line T c__law_take F8
  have c__law_line : Cal3 l.prog w K mg base 2 "_law_line" 1 [] (allPos 1) [] sp__law_line := ⟨⟨_, _, _, PySem.W.mg_of X G a8, k8, F8.bindA (ps := ["_law_box_here"]) 1 rfl fun _ _ _ _ _ _ us hl => match us, hl with | [_], _ => rfl, g__law_line⟩, rfl⟩
  have g__law_right : FnG l.prog w K mg base CX0 3 _ _ ["_law_box_here"] (lift K 1 sp__law_right) := ok__law_right T c__law_take c__law_digits c__law_due c_parse_integer__1 c_parse_integer__1_low c_parse_integer__1_high c_parse_integer__1_high_low c__law_line c_split_words c__law_words F9
  have c__law_right : Cal3 l.prog w K mg base 3 "_law_right" 1 [] (allPos 1) [] sp__law_right := ⟨⟨_, _, _, PySem.W.mg_of X G a9, k9, F9.bindA (ps := ["_law_box_here"]) 1 rfl fun _ _ _ _ _ _ us hl => match us, hl with | [_], _ => rfl, g__law_right⟩, rfl⟩
  exact ok_law T c__law_cell c__law_box c__law_right F10
end K02
open PySem PySem.W PyProof.Rows
set_option maxHeartbeats 0 in
theorem PySem.Challenge.cw_pileups_k02_numbers_and_words_of_texts_holds : PySem.Challenge.rw_pileups_k02_numbers_and_words_of_texts.Holds := by
  w_on; o_law; k_head; (case hw => w_witness2)
  k_fill
  refine L3.walkG (l := PySem.Challenge.rw_pileups_k02_numbers_and_words_of_texts) (n := 63) (k := 4) (x := "_law_script") (X0 := fun _ => L2.CX0) (sp := fun w => L3.lift _ 1 K02.sp_law) rfl (by decide) rfl ⟨rfl, by decide, by decide⟩ (fun w h Y => PySem.W.kIn_of Y) ?F (fun w H a ns hl hS => K02.enter hl hS) (fun _ _ _ _ _ h => h)
  case F =>
    intro w mg fa h KX G hmg
    refine' K02.all_mk KX G hmg ?a0 ?l0 ?c0 ?k0 ?a1 ?l1 ?c1 ?k1 ?a2 ?l2 ?c2 ?k2 ?a3 ?l3 ?c3 ?k3 ?a4 ?l4 ?c4 ?k4 ?a5 ?l5 ?c5 ?k5 ?a6 ?l6 ?c6 ?k6 ?a7 ?l7 ?c7 ?k7 ?a8 ?l8 ?c8 ?k8 ?a9 ?l9 ?c9 ?k9 ?a10 ?l10 ?c10 ?k10 ?q0_low ?q0_high ?z_abs ?z_all ?z_int ?z_isinstance ?z_len ?z_max ?z_min ?z_range ?z_repr ?z_str ?y_MOST_DIGITS
    (case a0 => k_is)
    (case l0 => k_is)
    (case c0 => k_is)
    (case k0 => k_is)
    (case a1 => k_is)
    (case l1 => k_is)
    (case c1 => k_is)
    (case k1 => k_is)
    (case a2 => k_is)
    (case l2 => k_is)
    (case c2 => k_is)
    (case k2 => k_is)
    (case a3 => k_is)
    (case l3 => k_is)
    (case c3 => k_is)
    (case k3 => k_is)
    (case a4 => k_is)
    (case l4 => k_is)
    (case c4 => k_is)
    (case k4 => k_is)
    (case a5 => k_is)
    (case l5 => k_is)
    (case c5 => k_is)
    (case k5 => k_is)
    (case a6 => k_is)
    (case l6 => k_is)
    (case c6 => k_is)
    (case k6 => k_is)
    (case a7 => k_is)
    (case l7 => k_is)
    (case c7 => k_is)
    (case k7 => k_is)
    (case a8 => k_is)
    (case l8 => k_is)
    (case c8 => k_is)
    (case k8 => k_is)
    (case a9 => k_is)
    (case l9 => k_is)
    (case c9 => k_is)
    (case k9 => k_is)
    (case a10 => k_is)
    (case l10 => k_is)
    (case c10 => k_is)
    (case k10 => k_is)
    (case q0_low => k_is)
    (case q0_high => k_is)
    (case z_abs => k_is)
    (case z_all => k_is)
    (case z_int => k_is)
    (case z_isinstance => k_is)
    (case z_len => k_is)
    (case z_max => k_is)
    (case z_min => k_is)
    (case z_range => k_is)
    (case z_repr => k_is)
    (case z_str => k_is)
    (case y_MOST_DIGITS => k_is)

