import PyProof.Rows.All
import Wide.All
import OpenK.AllK
import Wide.FinOn
import PySem.Challenge.RW_pileups_k03_errors_and_their_fields
import HandS.Base
import HandS.Call
import HandS.Defaults
import HandS.Words
import HandS.ExcInit
import HandS.Head0
import HandS.Head1
import HandS.Head2
import HandS.HeadHook1
import HandS.HeadHook2
import HandS.ForMost
import HandS.Flow
import HandS.Wide
import HandS.IsInst
import HandS.Steps
import HandS.Codes
import HandS.Style
import HandS.Zip
import HandS.DictComp
import HandS.Conv
import HandS.ListItems
import HandS.FStr
import HandS.MakeKw
import HandS.SortInts
import HandS.Strs
import HandS.SetFor
import HandS.OwnEq
import HandS.Exc
import HandS.TryMany
import HandS.ExcField
import HandS.TryOnly
import HandS.Lambda
import KE.KDictCopyH
import HandS.TupAny
import HandS.MapJoin
import HandS.Star
import KE.KEqNest
import PyProof.EqKinds
import PyProof.NeKinds
import HandS.Finally
import KE.GoesMore
import KE.GoesEnum
import KE.KDictZip
import PyProof.ExcClass
import PyProof.RulesRaise
import PyProof.FactsTree
import PyProof.ExcBaseAll.LookupError
import PyProof.ExcBaseAll.ValueError
import KE.KExcInit
import HandS.WordsExc
import HandS.ExcIs
import KE.KExcIs
import HandS.WordsDict
import HandS.More
import HandS.RaiseMore
import HandS.HeadEnd
set_option Elab.async false
set_option linter.all false
set_option maxRecDepth 100000
set_option maxHeartbeats 4000000
namespace PySem
end PySem
namespace L2
end L2
namespace PySem.W
end PySem.W
namespace L3
open PySem PySem.Spec PyProof.Rows L2
def valB (c : Option PySem.W.CFound) (v : Value) : Bool := match c with
  | some (.val u) => decide (u = v)
  | _ => false
theorem valB_ok {c : Option PySem.W.CFound} {v : Value} (h : valB c v = true) : c = some (.val v) := by
  unfold valB at h
  split at h
  · rw [of_decide_eq_true h]
  · cases h
def XlOk (K : PySem.W.Frag) (C : Addr) (bm : List Value) (newId : String) : Prop := ∃ nm q N bs sn sub ab col dd k0 k1 k2 k3 k5, K.lookup C = some (excClassObj nm q C N bs bm true sn sub ab col dd k0 k1 k2 k3 k5 newId)
def xlB (K : PySem.W.Frag) (C : Addr) (bm : List Value) (newId : String) : Bool := match K.lookup C with
  | some ⟨.type "type", _, .cls cd, sl⟩ => (match cd.mro, sl.toList with
    | .ref D :: more, [_, _, _, _, some (.builtin m), _] => decide (D = C) && (decide (m = newId) && (!cd.hasDel && (cd.hasDict && decide (more = bm))))
    | _, _ => false)
  | _ => false
theorem xlB_ok {K : PySem.W.Frag} {C : Addr} {bm : List Value} {newId : String} (q : xlB K C bm newId = true) : XlOk K C bm newId := by
  unfold xlB at q
  split at q
  · rename_i dd cd sl ho
    split at q
    · rename_i D more k0 k1 k2 k3 m k5 hm hs
      simp only [Bool.and_eq_true, decide_eq_true_eq, Bool.not_eq_true'] at q
      obtain ⟨rfl, rfl, hdel, hdict, rfl⟩ := q
      obtain ⟨nm, bs, mro, ns, qn, hd, sn, sub, ab, col, del⟩ := cd
      dsimp only at hm hdel hdict
      subst hm hdel hdict
      have e : sl = #[k0, k1, k2, k3, some (.builtin m), k5] := by obtain ⟨l⟩ := sl; simp only at hs; rw [hs]
      subst e
      exact ⟨nm, qn, ns, bs, sn, sub, ab, col, dd, k0, k1, k2, k3, k5, ho⟩
    · cases q
  · cases q
abbrev Fb := PySem.W.Frag → Bool
def obsB (fa : List Fb) (fn : List He.DefD) (K : PySem.W.Frag) : He.AlD := ((fa.all fun f => f K) && fn.all fun d => d.ok K, fn.map fun d => He.fnW K d.at_)
def SaysB (fa : List Fb) (fn : List He.DefD) (K : PySem.W.Frag) : Prop := obsB fa fn K = He.valD fn
def obsBG (n : Nat) (fa : List Fb) (fn : List He.DefD) (g : Addr → Option Obj) : He.AlD := obsB fa fn (He.frG g (List.range n))
def hookB (n : Nat) (fa : List Fb) (fn : List He.DefD) : PySem.W.Hook where
  α := He.AlD
  obs := fun s => obsBG n fa fn s.heap.get?
  val := fun _ => He.valD fn
  says := fun _ h => ∃ K : PySem.W.Frag, K.In h ∧ SaysB fa fn K
  of := fun _ _ e => ⟨_, He.frG_in, e⟩
  keeps := fun _ _ _ ⟨K, hK, c⟩ k => ⟨K, PySem.W.Frag.In.keeps hK k, c⟩
theorem obsBG_eq {n : Nat} {fa : List Fb} {fn : List He.DefD} {g : Addr → Option Obj} {s : Shared} (h : ∀ a, g a = s.heap.get? a) : obsBG n fa fn g = (hookB n fa fn).obs s := by
  have e : g = s.heap.get? := funext h
  rw [e]
  rfl
section
variable {fa : List Fb} {fn : List He.DefD} {K : PySem.W.Frag}
theorem SaysB.both (c : SaysB fa fn K) : (fa.all fun f => f K) = true ∧ (fn.all fun d => d.ok K) = true := Bool.and_eq_true_iff.mp (congrArg (fun z : He.AlD => z.1) c)
theorem SaysB.fact (c : SaysB fa fn K) (i : Nat) {f : Fb} (h : fa[i]? = some f := by rfl) : f K = true := List.all_eq_true.mp c.both.1 f (List.mem_of_getElem? h)
theorem SaysB.def_ (c : SaysB fa fn K) (i : Nat) {d : He.DefD} (h : fn[i]? = some d := by rfl) : ∃ fd, FunD K d.name d.qual d.params d.body d.scope (d.dvs K) (d.kws K) (He.fAd K d.at_) fd := by
  have e : fn.map (fun d => He.fnW K d.at_) = fn.map He.DefD.val := congrArg (fun z : He.AlD => z.2) c
  have e2 : (fn.map fun d => He.fnW K d.at_)[i]? = (fn.map He.DefD.val)[i]? := by rw [e]
  rw [List.getElem?_map, List.getElem?_map, h] at e2
  exact He.DefD.funD (Option.some.inj e2) (List.all_eq_true.mp c.both.2 d (List.mem_of_getElem? h))
end
theorem run_join {σ γ δ : Type} {o : Option σ} {l a b : σ → Bool} {sn : σ → γ} {c : σ → δ} {gd : γ} {cv : δ} (h1 : o.map (fun s => (l s, sn s, a s)) = some (true, gd, true)) (h2 : o.map b = some true) (h3 : o.map c = some cv) : o.map (fun s => (l s, sn s, (a s && b s, c s))) = some (true, gd, (true, cv)) := by
  cases o with
  | none => cases h2
  | some s =>
    simp only [Option.map_some, Option.some.injEq, Prod.mk.injEq] at h1 h2 h3 ⊢
    obtain ⟨e1, e2, e3⟩ := h1
    exact ⟨e1, e2, by rw [e3, h2]; rfl, h3⟩
def dAt (p : Str × Option Str) (x qual : Str) (st : Stmt) (dfl : List He.Dv) (kwd : List (Str × He.Dv)) : He.DefD := ⟨p, x, qual, defArgs st, defBody st, defScope st, dfl, kwd⟩
def etpB (K : PySem.W.Frag) (a : Addr) : Bool := match K.lookup a with
  | some ⟨.type c, _, .seq its _, _⟩ => decide (c = "tuple") && decide (its.toList = [])
  | _ => false
end L3
namespace L3
open PySem L2
structure Kn where
  K : PySem.W.Frag
  P : Program
  w : World
instance : Coe Kn PySem.W.Frag := ⟨Kn.K⟩
abbrev _root_.L2.Cx.kn (X : Cx) : Kn := ⟨X.K, X.prog, X.w⟩
abbrev LK := List Leaf
def lkH (K : Kn) : HeapKind K.P K.w LK := tupleKind (leafKind K.P K.w)
def dcnO (K : Kn) (a : Addr) (xs : List (LK × Addr × V)) : HO := .ext fun h => xs.length ≤ sizeLine ∧ (a == sysModules) = false ∧ (xs.map (·.1)).Nodup ∧ ∃ (ys : List (LK × Addr × Value)) (o : Obj) (es : Array DictEntry) (ep : Nat),
  Paired (fun (p : LK × Addr × V) (q : LK × Addr × Value) => p.1 = q.1 ∧ p.2.1 = q.2.1 ∧ RelV p.2.2 q.2.2) xs ys ∧ h.get? a = some o ∧ o.ExactDict ∧ o.data = .dict es ep ∧ es.toList = ys.map (entryOfKey (lkH K))
def clsA (K : Kn) (n : Str) (C : Addr) : Prop := PySem.W.nsIn K.K mainGlobals n = some (some (.ref C))
theorem clsA.inj {K : Kn} {n : Str} {C C' : Addr} (h : clsA K n C) (h' : clsA K n C') : C = C' := by
  unfold clsA at h h'
  rw [h] at h'
  cases h'
  rfl
def leafV : Leaf → V
  | .none => .non
  | .num i => .int i
  | .text x => .str x
inductive D where
  | non | bl (b : Bool) | int (i : Int) | str (x : Str) | ty (n : String) | ref (a : Addr)
  | tup (xs : List D) | lst (xs : List D) | dct (kvs : List (Key × D)) | obj (C : Str) (fs : List (Str × D))
  | cls (n : Str)
  | dcn (kvs : List (LK × D))
  | scr (xs : List D)
  | etp (p : Str × Option Str) (i : Nat)
  | exc (n : Str) (fs : List (Str × D))
inductive MO where
  | lst (xs : List D) | dct (kvs : List (Key × D)) | dcn (kvs : List (LK × D)) | ins (C : Str) (fs : List (Str × D))
  | dlk (od : Obj) (ks : List (Key × V)) (kvs : List (Key × D))
  | tbl (q : Str)
abbrev Mu := Addr → Option MO
def mset (μ : Mu) (a : Addr) (o : MO) : Mu := fun b => if b = a then some o else μ b
theorem mset_same {μ : Mu} {a : Addr} {o : MO} : mset μ a o a = some o := by unfold mset; rw [if_pos rfl]
theorem mset_ne {μ : Mu} {a b : Addr} {o : MO} (h : b ≠ a) : mset μ a o b = μ b := by unfold mset; rw [if_neg h]
def keyD : Key → D
  | .inl i => .int i
  | .inr x => .str x
def KL (K : Kn) (a : Addr) (xs : List V) : Prop :=
  ∃ (o : Obj) (its : Array Value) (n : Nat), K.K.lookup a = some o ∧ o.cls = .type "list" ∧ o.dict = none ∧ o.data = .seq its n ∧ its.size ≤ sizeLine ∧ Vals xs its.toList
def FL (K : Kn) (F : Addr → Prop) (H : Hp) (a : Addr) (vs : List V) : Prop := (F a ∧ Rd H a (.lst vs)) ∨ KL K a vs
def KTe (K : PySem.W.Frag) (a : Addr) : Prop := ∃ (o : Obj) (its : Array Value) (n : Nat), K.lookup a = some o ∧ o.cls = .type "tuple" ∧ o.data = .seq its n ∧ its.size ≤ sizeLine ∧ Vals [] its.toList
theorem etpB_ok {K : PySem.W.Frag} {a : Addr} (h : etpB K a = true) : KTe K a := by
  unfold etpB at h
  split at h
  · rename_i c od its n sl lk
    rw [Bool.and_eq_true] at h
    have e1 := of_decide_eq_true h.1
    have e2 := of_decide_eq_true h.2
    subst e1
    refine ⟨_, its, n, lk, rfl, rfl, ?_, by rw [e2]; exact .nil⟩
    have : its.size = 0 := by rw [← Array.length_toList, e2]; rfl
    rw [this]; exact Nat.zero_le _
  · cases h
mutual
inductive Rp (K : Kn) (F : Addr → Prop) (H : Hp) : D → V → Prop
  | non : Rp K F H .non .non
  | bl (b : Bool) : Rp K F H (.bl b) (.bl b)
  | int (i : Int) : Rp K F H (.int i) (.int i)
  | str (x : Str) : Rp K F H (.str x) (.str x)
  | ty (n : String) : Rp K F H (.ty n) (.ty n)
  | ref (a : Addr) : Rp K F H (.ref a) (.ref a)
  | cls {n : Str} {C : Addr} : clsA K n C → Rp K F H (.cls n) (.ref C)
  | tup {xs : List D} {vs : List V} {a : Addr} : F a → H a = some (.tup vs) → Rps K F H xs vs → Rp K F H (.tup xs) (.ref a)
  | scr {xs : List D} {vs : List V} {a : Addr} : FL K F H a vs → Rps K F H xs vs → Rp K F H (.scr xs) (.ref a)
  | etp (p : Str × Option Str) (i : Nat) : KTe K.K (He.dflAt p i K.K) → Rp K F H (.etp p i) (.ref (He.dflAt p i K.K))
  | lst {xs : List D} {vs : List V} {a : Addr} : F a → H a = some (.lst vs) → Rps K F H xs vs → Rp K F H (.lst xs) (.ref a)
  | dct {kvs : List (Key × D)} {ks : List (Key × V)} {a : Addr} : F a → Rd H a (.dK ks) → Rpk K F H kvs ks → Rp K F H (.dct kvs) (.ref a)
  | obj {n : Str} {C : Addr} {fs : List (Str × D)} {gs : List (Str × V)} {a dx : Addr} : clsA K n C → F a → H a = some (.ins C dx gs) → Rpf K F H fs gs → Rp K F H (.obj n fs) (.ref a)
  | dcn {kvs : List (LK × D)} {ks : List (LK × Addr × V)} {a : Addr} : F a → H a = some (dcnO K a ks) → Rpn K F H kvs ks → Rp K F H (.dcn kvs) (.ref a)
  | exc {n : Str} {C : Addr} {fs : List (Str × D)} {gs : List (Str × V)} {a dx : Addr} : clsA K n C → F a → F dx → H a = some (exo a C (some dx)) → H dx = some (exd dx gs) → Rpf K F H fs gs → Rp K F H (.exc n fs) (.ref a)
  | exc0 {n : Str} {C a : Addr} : clsA K n C → F a → H a = some (exo a C none) → Rp K F H (.exc n []) (.ref a)
inductive Rps (K : Kn) (F : Addr → Prop) (H : Hp) : List D → List V → Prop
  | nil : Rps K F H [] []
  | cons {d : D} {v : V} {ds : List D} {vs : List V} : Rp K F H d v → Rps K F H ds vs → Rps K F H (d :: ds) (v :: vs)
inductive Rpk (K : Kn) (F : Addr → Prop) (H : Hp) : List (Key × D) → List (Key × V) → Prop
  | nil : Rpk K F H [] []
  | cons {k : Key} {d : D} {v : V} {ds : List (Key × D)} {vs : List (Key × V)} : Rp K F H d v → Rpk K F H ds vs → Rpk K F H ((k, d) :: ds) ((k, v) :: vs)
inductive Rpn (K : Kn) (F : Addr → Prop) (H : Hp) : List (LK × D) → List (LK × Addr × V) → Prop
  | nil : Rpn K F H [] []
  | cons {k : LK} {b : Addr} {d : D} {v : V} {ds : List (LK × D)} {vs : List (LK × Addr × V)} : F b → H b = some (.tup (k.map leafV)) → Rp K F H d v → Rpn K F H ds vs → Rpn K F H ((k, d) :: ds) ((k, b, v) :: vs)
inductive Rpf (K : Kn) (F : Addr → Prop) (H : Hp) : List (Str × D) → List (Str × V) → Prop
  | nil : Rpf K F H [] []
  | cons {f : Str} {d : D} {v : V} {ds : List (Str × D)} {vs : List (Str × V)} : Rp K F H d v → Rpf K F H ds vs → Rpf K F H ((f, d) :: ds) ((f, v) :: vs)
end
def isD : HO → Bool
  | .dK _ => true
  | _ => false
structure Grow (F : Addr → Prop) (H : Hp) (F' : Addr → Prop) (H' : Hp) : Prop where
  mono : ∀ a, F a → F' a
  rd : ∀ a u, F a → Rd H a u → Rd H' a u
  fix : ∀ a u, F a → isD u = false → H a = some u → H' a = some u
section
variable {K : Kn} {F F' F'' : Addr → Prop} {H H' H'' : Hp} {d : D} {v : V}
theorem Grow.refl : Grow F H F H := ⟨fun _ h => h, fun _ _ _ h => h, fun _ _ _ _ h => h⟩
theorem Grow.trans (a : Grow F H F' H') (b : Grow F' H' F'' H'') : Grow F H F'' H'' :=
  ⟨fun x h => b.mono x (a.mono x h), fun x u f h => b.rd x u (a.mono x f) (a.rd x u f h), fun x u f i h => b.fix x u (a.mono x f) i (a.fix x u f i h)⟩
theorem FL.grow {a : Addr} {vs : List V} (g : Grow F H F' H') (h : FL K F H a vs) : FL K F' H' a vs := h.imp (fun ⟨f, r⟩ => ⟨g.mono a f, g.rd a _ f r⟩) id
theorem FL.sq {a : Addr} {vs : List V} (h : FL K F H a vs) : SqL K H a vs := h.imp (fun ⟨_, r⟩ => r) id
mutual
theorem Rp.grow {d : D} {v : V} (g : Grow F H F' H') : Rp K F H d v → Rp K F' H' d v
  | .non => .non
  | .bl b => .bl b
  | .int i => .int i
  | .str x => .str x
  | .ty n => .ty n
  | .ref a => .ref a
  | .cls c => .cls c
  | .tup f h r => .tup (g.mono _ f) (g.fix _ _ f rfl h) (Rps.grow g r)
  | .scr h r => .scr (h.grow g) (Rps.grow g r)
  | .etp p i h => .etp p i h
  | .lst f h r => .lst (g.mono _ f) (g.fix _ _ f rfl h) (Rps.grow g r)
  | .dct f h r => .dct (g.mono _ f) (g.rd _ _ f h) (Rpk.grow g r)
  | .obj c f h r => .obj c (g.mono _ f) (g.fix _ _ f rfl h) (Rpf.grow g r)
  | .dcn f h r => .dcn (g.mono _ f) (g.fix _ _ f rfl h) (Rpn.grow g r)
  | .exc c f f2 h h2 r => .exc c (g.mono _ f) (g.mono _ f2) (g.fix _ _ f rfl h) (g.fix _ _ f2 rfl h2) (Rpf.grow g r)
  | .exc0 c f h => .exc0 c (g.mono _ f) (g.fix _ _ f rfl h)
theorem Rps.grow {ds : List D} {vs : List V} (g : Grow F H F' H') : Rps K F H ds vs → Rps K F' H' ds vs
  | .nil => .nil
  | .cons h r => .cons (Rp.grow g h) (Rps.grow g r)
theorem Rpk.grow {ds : List (Key × D)} {vs : List (Key × V)} (g : Grow F H F' H') : Rpk K F H ds vs → Rpk K F' H' ds vs
  | .nil => .nil
  | .cons h r => .cons (Rp.grow g h) (Rpk.grow g r)
theorem Rpn.grow {ds : List (LK × D)} {vs : List (LK × Addr × V)} (g : Grow F H F' H') : Rpn K F H ds vs → Rpn K F' H' ds vs
  | .nil => .nil
  | .cons f e h r => .cons (g.mono _ f) (g.fix _ _ f rfl e) (Rp.grow g h) (Rpn.grow g r)
theorem Rpf.grow {ds : List (Str × D)} {vs : List (Str × V)} (g : Grow F H F' H') : Rpf K F H ds vs → Rpf K F' H' ds vs
  | .nil => .nil
  | .cons h r => .cons (Rp.grow g h) (Rpf.grow g r)
end
theorem Rps.length {ds : List D} {vs : List V} : Rps K F H ds vs → ds.length = vs.length
  | .nil => rfl
  | .cons _ r => by rw [List.length_cons, List.length_cons, Rps.length r]
theorem Rps.get {ds : List D} {vs : List V} : ∀ {i : Nat} {d : D}, Rps K F H ds vs → ds[i]? = some d → ∃ v, vs[i]? = some v ∧ Rp K F H d v
  | _, _, .nil, e => by simp at e
  | 0, _, .cons h _, e => by simp at e; subst e; exact ⟨_, rfl, h⟩
  | i + 1, _, .cons _ r, e => by
    obtain ⟨v, e1, h⟩ := Rps.get (i := i) r (by simpa using e)
    exact ⟨v, by simpa using e1, h⟩
theorem Rps.back {ds : List D} {vs : List V} : ∀ {i : Nat} {v : V}, Rps K F H ds vs → vs[i]? = some v → ∃ d, ds[i]? = some d ∧ Rp K F H d v
  | _, _, .nil, e => by simp at e
  | 0, _, .cons h _, e => by simp at e; subst e; exact ⟨_, rfl, h⟩
  | i + 1, _, .cons _ r, e => by
    obtain ⟨v, e1, h⟩ := Rps.back (i := i) r (by simpa using e)
    exact ⟨v, by simpa using e1, h⟩
theorem Rps.append : ∀ {ds es : List D} {vs us : List V}, Rps K F H ds vs → Rps K F H es us → Rps K F H (ds ++ es) (vs ++ us)
  | _, _, _, _, .nil, s => s
  | _, _, _, _, .cons h r, s => .cons h (Rps.append r s)
theorem Rps.set {d : D} {v : V} (h : Rp K F H d v) : ∀ {ds : List D} {vs : List V} (i : Nat), Rps K F H ds vs → Rps K F H (ds.set i d) (vs.set i v)
  | _, _, _, .nil => .nil
  | _, _, 0, .cons _ t => .cons h t
  | _, _, i + 1, .cons q t => .cons q (Rps.set h i t)
theorem Rps.take : ∀ {ds : List D} {vs : List V} (n : Nat), Rps K F H ds vs → Rps K F H (ds.take n) (vs.take n)
  | _, _, 0, _ => .nil
  | _, _, _ + 1, .nil => .nil
  | _, _, n + 1, .cons r t => .cons r (Rps.take n t)
theorem Rps.drop : ∀ {ds : List D} {vs : List V} (n : Nat), Rps K F H ds vs → Rps K F H (ds.drop n) (vs.drop n)
  | _, _, 0, r => r
  | _, _, _ + 1, .nil => .nil
  | _, _, n + 1, .cons _ t => Rps.drop n t
theorem Rps.reverse : ∀ {ds : List D} {vs : List V}, Rps K F H ds vs → Rps K F H ds.reverse vs.reverse
  | _, _, .nil => .nil
  | _, _, .cons h t => by
    rw [List.reverse_cons, List.reverse_cons]
    exact (Rps.reverse t).append (.cons h .nil)
def TabF (F : Addr → Prop) (H : Hp) (ps : Array Value) (q : Str) : Prop := TriplesOk ps.toList ∧ ∀ (pos : Pos) (cv : Value), codeAmong pos ps.toList = some cv → ∃ c, cv = .ref c ∧ F c ∧ H c = some (LamX.CodeO c q)
theorem TabF.grow {ps : Array Value} {q : Str} (h : TabF F H ps q) (g : Grow F H F' H') : TabF F' H' ps q := ⟨h.1, fun pos cv e => let ⟨c, e1, f, e2⟩ := h.2 pos cv e; ⟨c, e1, g.mono c f, g.fix c _ f rfl e2⟩⟩
def MoOk (K : Kn) (F : Addr → Prop) (H : Hp) (a : Addr) : MO → Prop
  | .lst xs => ∃ vs, H a = some (.lst vs) ∧ Rps K F H xs vs
  | .dct kvs => ∃ ks, H a = some (.dK ks) ∧ Rpk K F H kvs ks
  | .dcn kvs => ∃ ks, H a = some (dcnO K a ks) ∧ Rpn K F H kvs ks
  | .dlk od ks kvs => H a = some (.frz od (.dK ks)) ∧ Rpk K F H kvs ks
  | .ins n fs => ∃ C dx gs, clsA K n C ∧ H a = some (.ins C dx gs) ∧ Rpf K F H fs gs
  | .tbl q => ∃ ps, H a = some (.tbl ps) ∧ TabF F H ps q
structure Sim0 (K : Kn) (F : Addr → Prop) (H : Hp) (μ : Mu) : Prop where
  dom : ∀ a, F a → ∃ u, H a = some u
  obj : ∀ a o, μ a = some o → ¬ F a ∧ MoOk K F H a o
abbrev St3 := List (Option D)
structure Sl (K : Kn) (F : Addr → Prop) (H : Hp) (σ : St) (δ : St3) : Prop where
  len : σ.length = δ.length
  at_ : ∀ (i : Nat) (d : D), δ[i]? = some (some d) → ∃ v, σ[i]? = some (some v) ∧ Rp K F H d v
theorem Sl.grow {σ : St} {δ : St3} (g : Grow F H F' H') (s : Sl K F H σ δ) : Sl K F' H' σ δ :=
  ⟨s.len, fun i d e => let ⟨v, e1, r⟩ := s.at_ i d e; ⟨v, e1, r.grow g⟩⟩
theorem Sl.set {σ : St} {δ : St3} {d : D} {v : V} (s : Sl K F H σ δ) (i : Nat) (r : Rp K F H d v) : Sl K F H (σ.set i (some v)) (δ.set i (some d)) := by
  refine ⟨by simpa using s.len, fun j e h => ?_⟩
  by_cases hj : i = j
  · subst hj
    by_cases hl : i < δ.length
    · rw [List.getElem?_set_self hl] at h
      cases h
      exact ⟨v, List.getElem?_set_self (by rw [s.len]; exact hl), r⟩
    · rw [List.getElem?_eq_none_iff.mpr (by simpa using hl)] at h
      cases h
  · rw [List.getElem?_set_ne hj] at h
    obtain ⟨u, e1, r1⟩ := s.at_ j e h
    exact ⟨u, by rw [List.getElem?_set_ne hj]; exact e1, r1⟩
theorem Sim0.new {μ : Mu} {p : Addr} {o : HO} (s : Sim0 K F H μ) (hp : H p = none) : Grow F H F (upd H p o) ∧ Sim0 K F (upd H p o) μ := by
  have ne : ∀ a, F a → a ≠ p := fun a f e => by
    obtain ⟨u, h⟩ := s.dom a f
    rw [e, hp] at h
    cases h
  have g : Grow F H F (upd H p o) := by
    refine ⟨fun _ h => h, fun a u f h => ?_, fun a u f _ h => by rw [upd_ne (ne a f)]; exact h⟩
    rcases h with h | ⟨ob, h⟩
    · exact .inl (by rw [upd_ne (ne a f)]; exact h)
    · exact .inr ⟨ob, by rw [upd_ne (ne a f)]; exact h⟩
  refine ⟨g, fun a f => ?_, fun a o' h => ?_⟩
  · rw [upd_ne (ne a f)]; exact s.dom a f
  · obtain ⟨nf, m⟩ := s.obj a o' h
    refine ⟨nf, ?_⟩
    have neA : ∀ u, H a = some u → a ≠ p := fun u hu e => by rw [e, hp] at hu; cases hu
    cases o' with
    | lst xs => obtain ⟨vs, e, r⟩ := m; exact ⟨vs, by rw [upd_ne (neA _ e)]; exact e, r.grow g⟩
    | dct kvs => obtain ⟨vs, e, r⟩ := m; exact ⟨vs, by rw [upd_ne (neA _ e)]; exact e, r.grow g⟩
    | dcn kvs => obtain ⟨vs, e, r⟩ := m; exact ⟨vs, by rw [upd_ne (neA _ e)]; exact e, r.grow g⟩
    | dlk od ks kvs => obtain ⟨e, r⟩ := m; exact ⟨by rw [upd_ne (neA _ e)]; exact e, r.grow g⟩
    | ins n fs => obtain ⟨C, dx, vs, c, e, r⟩ := m; exact ⟨C, dx, vs, c, by rw [upd_ne (neA _ e)]; exact e, r.grow g⟩
    | tbl qq => obtain ⟨vs, e, r⟩ := m; exact ⟨vs, by rw [upd_ne (neA _ e)]; exact e, r.grow g⟩
theorem Sim0.frz {μ : Mu} {p : Addr} {o : HO} (s : Sim0 K F H μ) (hp : H p = none) : Grow F H (fun a => F a ∨ a = p) (upd H p o) ∧ Sim0 K (fun a => F a ∨ a = p) (upd H p o) μ := by
  obtain ⟨g, s1⟩ := s.new (o := o) hp
  have g1 : Grow F (upd H p o) (fun a => F a ∨ a = p) (upd H p o) := ⟨fun _ h => .inl h, fun _ _ _ h => h, fun _ _ _ _ h => h⟩
  refine ⟨g.trans g1, fun a f => ?_, fun a o' h => ?_⟩
  · rcases f with f | rfl
    · exact s1.dom a f
    · exact ⟨o, upd_same⟩
  · obtain ⟨nf, m⟩ := s1.obj a o' h
    refine ⟨fun f => ?_, ?_⟩
    · rcases f with f | rfl
      · exact nf f
      · obtain ⟨_, m0⟩ := s.obj a o' h
        cases o' with
        | lst xs => obtain ⟨vs, e, r⟩ := m0; rw [hp] at e; cases e
        | dct kvs => obtain ⟨vs, e, r⟩ := m0; rw [hp] at e; cases e
        | dcn kvs => obtain ⟨vs, e, r⟩ := m0; rw [hp] at e; cases e
        | dlk od ks kvs => obtain ⟨e, r⟩ := m0; rw [hp] at e; cases e
        | ins n fs => obtain ⟨C, dx, vs, c, e, r⟩ := m0; rw [hp] at e; cases e
        | tbl qq => obtain ⟨vs, e, r⟩ := m0; rw [hp] at e; cases e
    · cases o' with
      | lst xs => obtain ⟨vs, e, r⟩ := m; exact ⟨vs, e, r.grow g1⟩
      | dct kvs => obtain ⟨vs, e, r⟩ := m; exact ⟨vs, e, r.grow g1⟩
      | dcn kvs => obtain ⟨vs, e, r⟩ := m; exact ⟨vs, e, r.grow g1⟩
      | dlk od ks kvs => obtain ⟨e, r⟩ := m; exact ⟨e, r.grow g1⟩
      | ins n fs => obtain ⟨C, dx, vs, c, e, r⟩ := m; exact ⟨C, dx, vs, c, e, r.grow g1⟩
      | tbl qq => obtain ⟨vs, e, r⟩ := m; exact ⟨vs, e, r.grow g1⟩
theorem Sim0.free {μ : Mu} {p : Addr} (s : Sim0 K F H μ) (hp : H p = none) : μ p = none := by
  cases h : μ p with
  | none => rfl
  | some o =>
    obtain ⟨_, m⟩ := s.obj p o h
    cases o with
    | lst xs => obtain ⟨vs, e, r⟩ := m; rw [hp] at e; cases e
    | dct kvs => obtain ⟨vs, e, r⟩ := m; rw [hp] at e; cases e
    | dcn kvs => obtain ⟨vs, e, r⟩ := m; rw [hp] at e; cases e
    | dlk od ks kvs => obtain ⟨e, r⟩ := m; rw [hp] at e; cases e
    | ins n fs => obtain ⟨C, dx, vs, c, e, r⟩ := m; rw [hp] at e; cases e
    | tbl qq => obtain ⟨vs, e, r⟩ := m; rw [hp] at e; cases e
theorem Sim0.trk {μ : Mu} {p : Addr} {o : HO} {m : MO} (s : Sim0 K F H μ) (hp : H p = none) (ok : ∀ {F' : Addr → Prop} {H' : Hp}, Grow F H F' H' → H' p = some o → MoOk K F' H' p m) :
    Grow F H F (upd H p o) ∧ Sim0 K F (upd H p o) (mset μ p m) := by
  obtain ⟨g, s1⟩ := s.new (o := o) hp
  refine ⟨g, s1.dom, fun a o' h => ?_⟩
  by_cases e : a = p
  · subst e
    rw [mset_same] at h
    cases h
    refine ⟨fun f => ?_, ok g upd_same⟩
    obtain ⟨u, hu⟩ := s.dom a f
    rw [hp] at hu
    cases hu
  · rw [mset_ne e] at h
    exact s1.obj a o' h
theorem Sim0.put {μ : Mu} {p : Addr} {o : HO} {m m0 : MO} (s : Sim0 K F H μ) (h0 : μ p = some m0) (ok : ∀ {F' : Addr → Prop} {H' : Hp}, Grow F H F' H' → H' p = some o → MoOk K F' H' p m) :
    Grow F H F (upd H p o) ∧ Sim0 K F (upd H p o) (mset μ p m) := by
  have ne : ∀ a, F a → a ≠ p := fun a f e => (s.obj p m0 h0).1 (e ▸ f)
  have g : Grow F H F (upd H p o) := by
    refine ⟨fun _ h => h, fun a u f h => ?_, fun a u f _ h => by rw [upd_ne (ne a f)]; exact h⟩
    rcases h with h | ⟨ob, h⟩
    · exact .inl (by rw [upd_ne (ne a f)]; exact h)
    · exact .inr ⟨ob, by rw [upd_ne (ne a f)]; exact h⟩
  refine ⟨g, fun a f => by rw [upd_ne (ne a f)]; exact s.dom a f, fun a o' h => ?_⟩
  by_cases e : a = p
  · subst e
    rw [mset_same] at h
    cases h
    exact ⟨(s.obj a m0 h0).1, ok g upd_same⟩
  · rw [mset_ne e] at h
    obtain ⟨nf, m⟩ := s.obj a o' h
    refine ⟨nf, ?_⟩
    cases o' with
    | lst xs => obtain ⟨vs, q, r⟩ := m; exact ⟨vs, by rw [upd_ne e]; exact q, r.grow g⟩
    | dct kvs => obtain ⟨vs, q, r⟩ := m; exact ⟨vs, by rw [upd_ne e]; exact q, r.grow g⟩
    | dcn kvs => obtain ⟨vs, q, r⟩ := m; exact ⟨vs, by rw [upd_ne e]; exact q, r.grow g⟩
    | dlk od ks kvs => obtain ⟨q, r⟩ := m; exact ⟨by rw [upd_ne e]; exact q, r.grow g⟩
    | ins n fs => obtain ⟨C, dx, vs, c, q, r⟩ := m; exact ⟨C, dx, vs, c, by rw [upd_ne e]; exact q, r.grow g⟩
    | tbl qq => obtain ⟨vs, q, r⟩ := m; exact ⟨vs, by rw [upd_ne e]; exact q, r.grow g⟩
def Fm (F : Addr → Prop) (μ : Mu) (H : Hp) (F' : Addr → Prop) (μ' : Mu) (H' : Hp) : Prop := ∀ a u, H a = some u → μ a = none → ¬ F a → μ' a = none ∧ H' a = some u ∧ ¬ F' a
theorem Fm.refl {μ : Mu} : Fm F μ H F μ H := fun _ _ h n z => ⟨n, h, z⟩
theorem Fm.trans {μ μ1 μ2 : Mu} {H1 H2 : Hp} {F1 F2 : Addr → Prop} (a : Fm F μ H F1 μ1 H1) (b : Fm F1 μ1 H1 F2 μ2 H2) : Fm F μ H F2 μ2 H2 := fun x u h n z =>
  let ⟨n1, h1, f1⟩ := a x u h n z
  b x u h1 n1 f1
theorem Fm.new {μ : Mu} {p : Addr} {o : HO} (hp : H p = none) : Fm F μ H F μ (upd H p o) := fun a u h n z => ⟨n, by rw [upd_ne (ne_of_none h hp)]; exact h, z⟩
theorem Fm.frz {μ : Mu} {p : Addr} {o : HO} (hp : H p = none) : Fm F μ H (fun a => F a ∨ a = p) μ (upd H p o) := fun a u h n z => ⟨n, by rw [upd_ne (ne_of_none h hp)]; exact h, fun q => q.elim z fun e => absurd e (ne_of_none h hp)⟩
theorem Fm.trk {μ : Mu} {p : Addr} {o : HO} {m : MO} (hp : H p = none) : Fm F μ H F (mset μ p m) (upd H p o) := fun a u h n z => ⟨by rw [mset_ne (ne_of_none h hp)]; exact n, by rw [upd_ne (ne_of_none h hp)]; exact h, z⟩
theorem Fm.put {μ : Mu} {p : Addr} {o : HO} {m m0 : MO} (h0 : μ p = some m0) : Fm F μ H F (mset μ p m) (upd H p o) := fun a u h n z => by
  have ne : a ≠ p := fun e => by rw [e, h0] at n; cases n
  exact ⟨by rw [mset_ne ne]; exact n, by rw [upd_ne ne]; exact h, z⟩
structure Zn (K : Kn) where
  his : (Addr → Prop) → Hp → Mu → Prop
  mono : ∀ {F H μ F' H' μ'}, Grow F H F' H' → Fm F μ H F' μ' H' → Sim0 K F' H' μ' → his F H μ → his F' H' μ'
def Zn.top (K : Kn) : Zn K := ⟨fun _ _ _ => True, fun _ _ _ _ => trivial⟩
structure Sim {K : Kn} (Z : Zn K) (F : Addr → Prop) (H : Hp) (μ : Mu) : Prop where
  raw : Sim0 K F H μ
  his : Z.his F H μ
variable {Z : Zn K}
theorem Sim.dom {μ : Mu} (s : Sim Z F H μ) : ∀ a, F a → ∃ u, H a = some u := s.raw.dom
theorem Sim.obj {μ : Mu} (s : Sim Z F H μ) : ∀ a o, μ a = some o → ¬ F a ∧ MoOk K F H a o := s.raw.obj
theorem Sim.free {μ : Mu} {p : Addr} (s : Sim Z F H μ) (hp : H p = none) : μ p = none := s.raw.free hp
structure Step {K : Kn} (Z : Zn K) (F : Addr → Prop) (H : Hp) (μ : Mu) (F' : Addr → Prop) (H' : Hp) (μ' : Mu) : Prop where
  grow : Grow F H F' H'
  fm : Fm F μ H F' μ' H'
  sim : Sim Z F' H' μ'
theorem Sim.step {μ μ' : Mu} (s : Sim Z F H μ) (g : Grow F H F' H') (m : Fm F μ H F' μ' H') (z : Sim0 K F' H' μ') : Step Z F H μ F' H' μ' := ⟨g, m, z, Z.mono g m z s.his⟩
theorem Sim.up {μ : Mu} (s : Sim Z F H μ) : Sim (Zn.top K) F H μ := ⟨s.raw, trivial⟩
theorem Step.on {μ μ' : Mu} {Y : Zn K} (g : Step Y F H μ F' H' μ') (s : Sim Z F H μ) : Step Z F H μ F' H' μ' := s.step g.grow g.fm g.sim.raw
theorem Step.refl {μ : Mu} (s : Sim Z F H μ) : Step Z F H μ F H μ := ⟨.refl, .refl, s⟩
theorem Step.trans {μ μ' μ'' : Mu} (a : Step Z F H μ F' H' μ') (b : Step Z F' H' μ' F'' H'' μ'') : Step Z F H μ F'' H'' μ'' := ⟨a.grow.trans b.grow, a.fm.trans b.fm, b.sim⟩
theorem Sim0.priv {μ : Mu} {p : Addr} {o : HO} (s : Sim0 K F H μ) (nF : ¬ F p) (nμ : μ p = none) : Grow F H F (upd H p o) ∧ Sim0 K F (upd H p o) μ := by
  have ne : ∀ a, F a → a ≠ p := fun a f e => nF (e ▸ f)
  have g : Grow F H F (upd H p o) := by
    refine ⟨fun _ h => h, fun a u f h => ?_, fun a u f _ h => by rw [upd_ne (ne a f)]; exact h⟩
    rcases h with h | ⟨ob, h⟩
    · exact .inl (by rw [upd_ne (ne a f)]; exact h)
    · exact .inr ⟨ob, by rw [upd_ne (ne a f)]; exact h⟩
  refine ⟨g, fun a f => by rw [upd_ne (ne a f)]; exact s.dom a f, fun a o' h => ?_⟩
  have e : a ≠ p := fun e => by rw [e, nμ] at h; cases h
  obtain ⟨nf, m⟩ := s.obj a o' h
  refine ⟨nf, ?_⟩
  cases o' with
  | lst xs => obtain ⟨vs, q, r⟩ := m; exact ⟨vs, by rw [upd_ne e]; exact q, r.grow g⟩
  | dct kvs => obtain ⟨vs, q, r⟩ := m; exact ⟨vs, by rw [upd_ne e]; exact q, r.grow g⟩
  | dcn kvs => obtain ⟨vs, q, r⟩ := m; exact ⟨vs, by rw [upd_ne e]; exact q, r.grow g⟩
  | dlk od ks kvs => obtain ⟨q, r⟩ := m; exact ⟨by rw [upd_ne e]; exact q, r.grow g⟩
  | ins n fs => obtain ⟨C, dx, vs, c, q, r⟩ := m; exact ⟨C, dx, vs, c, by rw [upd_ne e]; exact q, r.grow g⟩
  | tbl qq => obtain ⟨vs, q, r⟩ := m; exact ⟨vs, by rw [upd_ne e]; exact q, r.grow g⟩
theorem Step.priv {μ μ' : Mu} {p : Addr} {o : HO} (s0 : Sim Z F H μ) (s : Step Z F H μ F' H' μ') (hp : H p = none) (nF : ¬ F' p) (nμ : μ' p = none) : Step Z F H μ F' (upd H' p o) μ' := by
  obtain ⟨g, z⟩ := s.sim.raw.priv (o := o) nF nμ
  refine s0.step (s.grow.trans g) (fun a u h n z' => ?_) z
  obtain ⟨n1, h1, f1⟩ := s.fm a u h n z'
  exact ⟨n1, by rw [upd_ne (ne_of_none h hp)]; exact h1, f1⟩
theorem Step.shut {μ μ' : Mu} {p : Addr} {o : HO} (s0 : Sim Z F H μ) (s : Step Z F H μ F' H' μ') (hp : H p = none) (nμ : μ' p = none) (e : H' p = some o) : Step Z F H μ (fun a => F' a ∨ a = p) H' μ' := by
  have g1 : Grow F' H' (fun a => F' a ∨ a = p) H' := ⟨fun _ h => .inl h, fun _ _ _ h => h, fun _ _ _ _ h => h⟩
  refine s0.step (s.grow.trans g1) (fun a u h n z' => ?_) ⟨fun a f => ?_, fun a o' h => ?_⟩
  · obtain ⟨n1, h1, f1⟩ := s.fm a u h n z'
    exact ⟨n1, h1, fun z => z.elim f1 fun e => absurd e (ne_of_none h hp)⟩
  · rcases f with f | rfl
    · exact s.sim.dom a f
    · exact ⟨o, e⟩
  · obtain ⟨nf, m⟩ := s.sim.obj a o' h
    refine ⟨fun f => f.elim nf (fun e => by rw [e, nμ] at h; cases h), ?_⟩
    cases o' with
    | lst xs => obtain ⟨vs, e, r⟩ := m; exact ⟨vs, e, r.grow g1⟩
    | dct kvs => obtain ⟨vs, e, r⟩ := m; exact ⟨vs, e, r.grow g1⟩
    | dcn kvs => obtain ⟨vs, e, r⟩ := m; exact ⟨vs, e, r.grow g1⟩
    | dlk od ks kvs => obtain ⟨e, r⟩ := m; exact ⟨e, r.grow g1⟩
    | ins n fs => obtain ⟨C, dx, vs, c, e, r⟩ := m; exact ⟨C, dx, vs, c, e, r.grow g1⟩
    | tbl qq => obtain ⟨vs, e, r⟩ := m; exact ⟨vs, e, r.grow g1⟩
theorem Rp.st {μ μ' : Mu} (r : Rp K F H d v) (s : Step Z F H μ F' H' μ') : Rp K F' H' d v := r.grow s.grow
theorem Rps.st {μ μ' : Mu} {ds : List D} {vs : List V} (r : Rps K F H ds vs) (s : Step Z F H μ F' H' μ') : Rps K F' H' ds vs := r.grow s.grow
theorem Rpk.st {μ μ' : Mu} {ds : List (Key × D)} {vs : List (Key × V)} (r : Rpk K F H ds vs) (s : Step Z F H μ F' H' μ') : Rpk K F' H' ds vs := r.grow s.grow
theorem Rpn.st {μ μ' : Mu} {ds : List (LK × D)} {vs : List (LK × Addr × V)} (r : Rpn K F H ds vs) (s : Step Z F H μ F' H' μ') : Rpn K F' H' ds vs := r.grow s.grow
theorem Rpf.st {μ μ' : Mu} {ds : List (Str × D)} {vs : List (Str × V)} (r : Rpf K F H ds vs) (s : Step Z F H μ F' H' μ') : Rpf K F' H' ds vs := r.grow s.grow
theorem Sl.st {μ μ' : Mu} {σ : St} {δ : St3} (r : Sl K F H σ δ) (s : Step Z F H μ F' H' μ') : Sl K F' H' σ δ := r.grow s.grow
theorem Sim.frzS {μ : Mu} {p : Addr} {o : HO} (s : Sim Z F H μ) (hp : H p = none) : Step Z F H μ (fun a => F a ∨ a = p) (upd H p o) μ := let ⟨g, z⟩ := s.raw.frz hp; s.step g (Fm.frz hp) z
theorem Sim.newS {μ : Mu} {p : Addr} {o : HO} (s : Sim Z F H μ) (hp : H p = none) : Step Z F H μ F (upd H p o) μ := let ⟨g, z⟩ := s.raw.new hp; s.step g (Fm.new hp) z
theorem Sim.trkS {μ : Mu} {p : Addr} {o : HO} {m : MO} (s : Sim Z F H μ) (hp : H p = none) (ok : ∀ {F' : Addr → Prop} {H' : Hp}, Grow F H F' H' → H' p = some o → MoOk K F' H' p m) :
    Step Z F H μ F (upd H p o) (mset μ p m) := let ⟨g, z⟩ := s.raw.trk hp ok; s.step g (Fm.trk hp) z
theorem Sim.putS {μ : Mu} {p : Addr} {o : HO} {m m0 : MO} (s : Sim Z F H μ) (h0 : μ p = some m0) (ok : ∀ {F' : Addr → Prop} {H' : Hp}, Grow F H F' H' → H' p = some o → MoOk K F' H' p m) :
    Step Z F H μ F (upd H p o) (mset μ p m) := let ⟨g, z⟩ := s.raw.put h0 ok; s.step g (Fm.put h0) z
end
end L3
namespace L3
open PySem L2
abbrev DK := D → Mu → Prop
abbrev TE3 := St3 → Mu → DK → Prop
abbrev TT3 := St3 → Mu → (Bool → Mu → Prop) → Prop
abbrev TA3 := St3 → Mu → (List D → Mu → Prop) → Prop
structure Ends3 where
  nx : St3 → Mu → Prop
  rt : DK
  bk : St3 → Mu → Prop := fun _ _ => False
  ct : St3 → Mu → Prop := fun _ _ => False
abbrev TS3 := Ends3 → St3 → Mu → Prop
def low {K : Kn} (Z : Zn K) (t : TE3) : TE := fun σ H Q => ∃ (F : Addr → Prop) (δ : St3) (μ : Mu) (R : DK), Sim Z F H μ ∧ Sl K F H σ δ ∧ t δ μ R ∧
  ∀ F' v H' d μ', Step Z F H μ F' H' μ' → Rp K F' H' d v → R d μ' → Q v H'
def lowT {K : Kn} (Z : Zn K) (t : TT3) : TT := fun σ H Q => ∃ (F : Addr → Prop) (δ : St3) (μ : Mu) (R : Bool → Mu → Prop), Sim Z F H μ ∧ Sl K F H σ δ ∧ t δ μ R ∧
  ∀ F' b H' μ', Step Z F H μ F' H' μ' → R b μ' → Q b H'
def lowA {K : Kn} (Z : Zn K) (t : TA3) : TA := fun σ H Q => ∃ (F : Addr → Prop) (δ : St3) (μ : Mu) (R : List D → Mu → Prop), Sim Z F H μ ∧ Sl K F H σ δ ∧ t δ μ R ∧
  ∀ F' vs H' ds μ', Step Z F H μ F' H' μ' → Rps K F' H' ds vs → R ds μ' → Q vs H'
structure EndsOk {K : Kn} (Z : Zn K) (F : Addr → Prop) (H : Hp) (μ : Mu) (D3 : Ends3) (D : Ends) : Prop where
  nx : ∀ F' σ' H' δ' μ', Step Z F H μ F' H' μ' → Sl K F' H' σ' δ' → D3.nx δ' μ' → D.nx σ' H'
  bk : ∀ F' σ' H' δ' μ', Step Z F H μ F' H' μ' → Sl K F' H' σ' δ' → D3.bk δ' μ' → D.bk σ' H'
  ct : ∀ F' σ' H' δ' μ', Step Z F H μ F' H' μ' → Sl K F' H' σ' δ' → D3.ct δ' μ' → D.ct σ' H'
  rt : ∀ F' v H' d μ', Step Z F H μ F' H' μ' → Rp K F' H' d v → D3.rt d μ' → D.rt v H'
theorem EndsOk.st {K : Kn} {Z : Zn K} {F F' : Addr → Prop} {H H' : Hp} {μ μ' : Mu} {D3 : Ends3} {D : Ends} (e : EndsOk Z F H μ D3 D) (g : Step Z F H μ F' H' μ') : EndsOk Z F' H' μ' D3 D :=
  ⟨fun a b c d m g' => e.nx a b c d m (g.trans g'), fun a b c d m g' => e.bk a b c d m (g.trans g'), fun a b c d m g' => e.ct a b c d m (g.trans g'), fun a b c d m g' => e.rt a b c d m (g.trans g')⟩
def lowS {K : Kn} (Z : Zn K) (t : TS3) : TS := fun D σ H => ∃ (F : Addr → Prop) (δ : St3) (μ : Mu) (D3 : Ends3), Sim Z F H μ ∧ Sl K F H σ δ ∧ t D3 δ μ ∧ EndsOk Z F H μ D3 D
def E3 (X : Cx) (Z : Zn X.kn) (e : Expr) (t : TE3) : Prop := PE X e (low Z t)
def T3 (X : Cx) (Z : Zn X.kn) (e : Expr) (t : TT3) : Prop := PT X e (lowT Z t)
def W3 (X : Cx) (Z : Zn X.kn) (e : Expr) (t : TT3) : Prop := PW X e (lowT Z t)
def A3 (X : Cx) (Z : Zn X.kn) (es : List Expr) (t : TA3) : Prop := PA X es (lowA Z t)
def S3 (X : Cx) (Z : Zn X.kn) (st : Stmt) (t : TS3) : Prop := PS X st (lowS Z t)
def Ss3 (X : Cx) (Z : Zn X.kn) (st : List Stmt) (t : TS3) : Prop := PSs X st (lowS Z t)
theorem _root_.L2.PE.imp {X : Cx} {e : Expr} {t t' : TE} (h : PE X e t) (i : ∀ σ H Q, t' σ H Q → t σ H Q) : PE X e t' := ⟨fun pins s σ H Q I q => h.run pins s σ H Q I (i _ _ _ q)⟩
theorem _root_.L2.PT.imp {X : Cx} {e : Expr} {t t' : TT} (h : PT X e t) (i : ∀ σ H Q, t' σ H Q → t σ H Q) : PT X e t' := ⟨fun pins s σ H Q I q => h.run pins s σ H Q I (i _ _ _ q)⟩
theorem _root_.L2.PW.imp {X : Cx} {e : Expr} {t t' : TT} (h : PW X e t) (i : ∀ σ H Q, t' σ H Q → t σ H Q) : PW X e t' := ⟨fun wh pins s σ H Q I q => h.run wh pins s σ H Q I (i _ _ _ q)⟩
theorem _root_.L2.PA.imp {X : Cx} {es : List Expr} {t t' : TA} (h : PA X es t) (i : ∀ σ H Q, t' σ H Q → t σ H Q) : PA X es t' := ⟨fun pos pins s σ H Q I q => h.run pos pins s σ H Q I (i _ _ _ q)⟩
theorem _root_.L2.PS.imp {X : Cx} {e : Stmt} {t t' : TS} (h : PS X e t) (i : ∀ D σ H, t' D σ H → t D σ H) : PS X e t' := ⟨fun pins s σ H D I q => h.run pins s σ H D I (i _ _ _ q)⟩
theorem _root_.L2.PSs.imp {X : Cx} {e : List Stmt} {t t' : TS} (h : PSs X e t) (i : ∀ D σ H, t' D σ H → t D σ H) : PSs X e t' := ⟨fun pins s σ H D I q => h.run pins s σ H D I (i _ _ _ q)⟩
section
variable {X : Cx} {Z : Zn X.kn} {e a b c : Expr} {es rest : List Expr} {ta tb tc : TE3} {pos : Pos}
def vVar (i : Nat) : TE3 := fun δ μ R => match δ[i]? with
  | some (some d) => R d μ
  | _ => False
theorem lowVar {K : Kn} {Z : Zn K} {i : Nat} {σ : St} {H : Hp} {Q : VK} (h : low Z (vVar i) σ H Q) : tVar i σ H Q := by
  obtain ⟨F, δ, μ, R, s, sl, h, k⟩ := h
  unfold vVar at h
  split at h
  · rename_i d e
    obtain ⟨v, e1, r⟩ := sl.at_ i d e
    exact ⟨v, e1, k F v H d μ (Step.refl s) r h⟩
  · exact h.elim
theorem e_var {x : Str} (i : Nat) (hN : X.N[i]? = some x := by rfl) (hv : Vis X.env.scope x := by first | exact Or.inl rfl | exact Or.inr (Or.inl rfl) | exact Or.inr (Or.inr rfl)) (hd : (x == ("__debug__" : Str)) = false := by decide) (hcd : (x == ("__classdict__" : Str)) = false := by decide) :
    E3 X Z (.Name x pos) (vVar i) := (pe_var hN hv hd hcd).imp fun _ _ _ h => lowVar h
def vC (d : D) : TE3 := fun _ μ R => R d μ
theorem lowC {K : Kn} {Z : Zn K} {d : D} {v : V} {σ : St} {H : Hp} {Q : VK} (r : ∀ F H, Rp K F H d v) (h : low Z (vC d) σ H Q) : tC v σ H Q := by
  obtain ⟨F, δ, μ, R, s, sl, h, k⟩ := h
  exact k F v H d μ (Step.refl s) (r F H) h
theorem e_int {i j} : E3 X Z (.Constant (.int i) j pos) (vC (.int i)) := pe_int.imp fun _ _ _ h => lowC (fun _ _ => .int i) h
theorem e_bl {b j} : E3 X Z (.Constant (.bool b) j pos) (vC (.bl b)) := pe_bl.imp fun _ _ _ h => lowC (fun _ _ => .bl b) h
theorem e_non {j} : E3 X Z (.Constant .none j pos) (vC .non) := pe_non.imp fun _ _ _ h => lowC (fun _ _ => .non) h
theorem e_str {x j} : E3 X Z (.Constant (.str x) j pos) (vC (.str x)) := pe_str.imp fun _ _ _ h => lowC (fun _ _ => .str x) h
theorem e_bty {x : Str} {n : String} (hm : X.mg x = none) (hv : bootBuiltins x = some (.type n)) (hg : Gl X x := by rfl) (hn : x ≠ "__name__" := by decide) (hd : (x == ("__debug__" : Str)) = false := by decide) : E3 X Z (.Name x pos) (vC (.ty n)) :=
  (pe_bltn (v := .ty n) hg hm hv rfl hn hd).imp fun _ _ _ h => lowC (v := .ty n) (fun _ _ => .ty n) h
def vNil : TA3 := fun _ μ R => R [] μ
def vCons (ta : TE3) (tr : TA3) : TA3 := fun δ μ R => ta δ μ fun d μ1 => tr δ μ1 fun ds μ2 => R (d :: ds) μ2
theorem a_nil : A3 X Z [] vNil := pa_nil.imp fun _ H Q h => by
  obtain ⟨F, δ, μ, R, s, sl, h, k⟩ := h
  exact k F [] H [] μ (Step.refl s) .nil h
theorem low_cons {K : Kn} {Z : Zn K} {tr : TA3} {σ : St} {H : Hp} {Q : List V → Hp → Prop} (h : lowA Z (vCons ta tr) σ H Q) : tCons (low Z ta) (lowA Z tr) σ H Q := by
  obtain ⟨F, δ, μ, R, s, sl, h, k⟩ := h
  exact ⟨F, δ, μ, _, s, sl, h, fun F' v H' d μ' g r q => ⟨F', δ, μ', _, g.sim, sl.st g, q, fun F'' vs H'' ds μ'' g' rs q' => k F'' (v :: vs) H'' (d :: ds) μ'' (g.trans g') (.cons (r.st g') rs) q'⟩⟩
theorem a_cons {tr : TA3} (ha : E3 X Z e ta) (hr : A3 X Z es tr) (hs : starEach (e :: es) X.env = (false, eval e X.env) :: starEach es X.env := by rfl) : A3 X Z (e :: es) (vCons ta tr) :=
  (pa_cons ha hr hs).imp fun _ _ _ h => low_cons h
abbrev G2 := D → D → Mu → DK → Prop
def OpL (X : Cx) (Z : Zn X.kn) (f : Value → Value → Sem Value) (G : G2) : Prop := ∃ r : R2, OpR X f r ∧ ∀ F H μ x y vx vy R Q, Sim Z F H μ → Rp X.kn F H x vx → Rp X.kn F H y vy → G x y μ R →
  (∀ F' v H' z μ', Step Z F H μ F' H' μ' → Rp X.kn F' H' z v → R z μ' → Q v H') → r vx vy H Q
def vOp (G : G2) (ta tb : TE3) : TE3 := fun δ μ R => ta δ μ fun x μ1 => tb δ μ1 fun y μ2 => G x y μ2 R
theorem low_op {K : Kn} {Z : Zn K} {r : R2} {G : G2} {σ : St} {H : Hp} {Q : VK} (hr : ∀ F H μ x y vx vy R Q, Sim Z F H μ → Rp K F H x vx → Rp K F H y vy → G x y μ R →
    (∀ F' v H' z μ', Step Z F H μ F' H' μ' → Rp K F' H' z v → R z μ' → Q v H') → r vx vy H Q) (h : low Z (vOp G ta tb) σ H Q) : tOp r (low Z ta) (low Z tb) σ H Q := by
  obtain ⟨F, δ, μ, R, s, sl, h, k⟩ := h
  exact ⟨F, δ, μ, _, s, sl, h, fun F1 v H1 d μ1 g r1 q1 => ⟨F1, δ, μ1, _, g.sim, sl.st g, q1, fun F2 u H2 d2 μ2 g2 r2 q2 =>
    hr F2 H2 μ2 d d2 v u R Q g2.sim (r1.st g2) r2 q2 fun F3 w H3 z μ3 g3 r3 q3 => k F3 w H3 z μ3 ((g.trans g2).trans g3) r3 q3⟩⟩
theorem e_op {op : Operator} {G : G2} (ho : OpL X Z (binaryOp op) G) (ha : E3 X Z a ta) (hb : E3 X Z b tb) : E3 X Z (.BinOp a op b pos) (vOp G ta tb) := by
  obtain ⟨r, hr, hl⟩ := ho
  exact (pe_op hr ha hb).imp fun _ _ _ h => low_op hl h
def vB (t : TE3) : TT3 := fun δ μ R => t δ μ fun d μ1 => match d with
  | .bl b => R b μ1
  | _ => False
theorem low_B {K : Kn} {Z : Zn K} {σ : St} {H : Hp} {Q : Bool → Hp → Prop} (h : lowT Z (vB ta) σ H Q) : low Z ta σ H fun x H1 => ∃ c, x = .bl c ∧ Q c H1 := by
  obtain ⟨F, δ, μ, R, s, sl, h, k⟩ := h
  refine ⟨F, δ, μ, _, s, sl, h, fun F1 v H1 d μ1 g r1 q1 => ?_⟩
  cases d with
  | bl b => cases r1; exact ⟨b, rfl, k F1 b H1 μ1 g q1⟩
  | _ => exact (show False from q1).elim
theorem t_val (h : E3 X Z e ta) (he : ∀ whole, isTrue e X.env whole = (do let v ← whole; standAt e.pos; holding [v] (truthy v)) := by intro _; rfl) : T3 X Z e (vB ta) := (pt_val h he).imp fun _ _ _ h => low_B h
theorem t_cmp {op : CmpOp} {G : G2} (ho : OpL X Z (compareOp op) G) (ha : E3 X Z a ta) (hb : E3 X Z b tb) (hm : behindInMarks op b = false := by first | exact nomark _ | rfl) : T3 X Z (.Compare a [op] [b] pos) (vB (vOp G ta tb)) := by
  obtain ⟨r, hr, hl⟩ := ho
  refine (pt_cmpR hr ha hb hm).imp fun σ H Q h => ?_
  obtain ⟨F, δ, μ, R, s, sl, h, k⟩ := h
  refine low_op (Q := fun x H' => ∃ k, x = .bl k ∧ Q k H') hl ⟨F, δ, μ, _, s, sl, h, fun F1 v H1 d μ1 g r1 q1 => ?_⟩
  cases d with
  | bl b => cases r1; exact ⟨b, rfl, k F1 b H1 μ1 g q1⟩
  | _ => exact (show False from q1).elim
def vChain (G G' : G2) (ta tb tc : TE3) : TE3 := fun δ μ R => ta δ μ fun x μ1 => tb δ μ1 fun y μ2 => G x y μ2 fun z μ3 => match z with
  | .bl k => if k = true then tc δ μ3 fun w μ4 => G' y w μ4 R else R (.bl false) μ3
  | _ => False
variable {tA tB' : TT3}
def vAnd (t u : TT3) : TT3 := fun δ μ R => t δ μ fun c μ1 => if c = true then u δ μ1 R else R false μ1
def vOr (t u : TT3) : TT3 := fun δ μ R => t δ μ fun c μ1 => if c = true then R true μ1 else u δ μ1 R
def vNot (t : TT3) : TT3 := fun δ μ R => t δ μ fun c μ1 => R (!c) μ1
theorem w_and1 (ha : T3 X Z a tA) : W3 X Z (.BoolOp .And [a] pos) tA := pw_and1 ha
theorem w_or1 (ha : T3 X Z a tA) : W3 X Z (.BoolOp .Or [a] pos) tA := pw_or1 ha
theorem w_and (ha : T3 X Z a tA) (hb : W3 X Z (.BoolOp .And (b :: rest) pos) tB') : W3 X Z (.BoolOp .And (a :: b :: rest) pos) (vAnd tA tB') := (pw_and ha hb).imp fun σ H Q h => by
  obtain ⟨F, δ, μ, R, s, sl, h, k⟩ := h
  refine ⟨F, δ, μ, _, s, sl, h, fun F1 c H1 μ1 g q1 => ?_⟩
  cases c with
  | true => exact ⟨F1, δ, μ1, _, g.sim, sl.st g, q1, fun F2 c H2 μ2 g2 q2 => k F2 c H2 μ2 (g.trans g2) q2⟩
  | false => exact k F1 false H1 μ1 g q1
theorem w_or (ha : T3 X Z a tA) (hb : W3 X Z (.BoolOp .Or (b :: rest) pos) tB') : W3 X Z (.BoolOp .Or (a :: b :: rest) pos) (vOr tA tB') := (pw_or ha hb).imp fun σ H Q h => by
  obtain ⟨F, δ, μ, R, s, sl, h, k⟩ := h
  refine ⟨F, δ, μ, _, s, sl, h, fun F1 c H1 μ1 g q1 => ?_⟩
  cases c with
  | true => exact k F1 true H1 μ1 g q1
  | false => exact ⟨F1, δ, μ1, _, g.sim, sl.st g, q1, fun F2 c H2 μ2 g2 q2 => k F2 c H2 μ2 (g.trans g2) q2⟩
theorem t_w (h : W3 X Z e tA) : T3 X Z e tA := PW.pt h
def vAndV (ta tb : TE3) : TE3 := fun δ μ R => ta δ μ fun x μ1 => match x with
  | .bl c => if c = true then tb δ μ1 R else R (.bl false) μ1
  | _ => False
def vOrV (ta tb : TE3) : TE3 := fun δ μ R => ta δ μ fun x μ1 => match x with
  | .bl c => if c = true then R (.bl true) μ1 else tb δ μ1 R
  | _ => False
def vNotV (ta : TE3) : TE3 := fun δ μ R => ta δ μ fun x μ1 => match x with
  | .bl c => R (.bl (!c)) μ1
  | _ => False
def vIf (t : TT3) (ta tb : TE3) : TE3 := fun δ μ R => t δ μ fun c μ1 => if c = true then ta δ μ1 R else tb δ μ1 R
def UnL (X : Cx) (Z : Zn X.kn) (f : Value → Sem Value) (G : D → Mu → DK → Prop) : Prop := ∃ r, UnR X f r ∧ ∀ F H μ x vx R Q, Sim Z F H μ → Rp X.kn F H x vx → G x μ R →
  (∀ F' v H' z μ', Step Z F H μ F' H' μ' → Rp X.kn F' H' z v → R z μ' → Q v H') → r vx H Q
def vUn (G : D → Mu → DK → Prop) (ta : TE3) : TE3 := fun δ μ R => ta δ μ fun x μ1 => G x μ1 R
theorem e_un {op : UnaryOp} {G : D → Mu → DK → Prop} (ho : UnL X Z (unaryOp op) G) (ha : E3 X Z a ta) : E3 X Z (.UnaryOp op a pos) (vUn G ta) := by
  obtain ⟨r, hr, hl⟩ := ho
  refine (pe_un hr ha).imp fun σ H Q h => ?_
  obtain ⟨F, δ, μ, R, s, sl, h, k⟩ := h
  exact ⟨F, δ, μ, _, s, sl, h, fun F1 v H1 d μ1 g r1 q1 => hl F1 H1 μ1 d v R Q g.sim r1 q1 fun F2 w H2 z μ2 g2 r2 q2 => k F2 w H2 z μ2 (g.trans g2) r2 q2⟩
abbrev GA := List D → Mu → DK → Prop
def CallL (X : Cx) (Z : Zn X.kn) (f : Value) (G : GA) : Prop := ∃ r, CallR X f r ∧ ∀ F H μ ds vs R Q, Sim Z F H μ → Rps X.kn F H ds vs → G ds μ R →
  (∀ F' v H' z μ', Step Z F H μ F' H' μ' → Rp X.kn F' H' z v → R z μ' → Q v H') → r vs H Q
def vCB (G : GA) (ta : TA3) : TE3 := fun δ μ R => ta δ μ fun ds μ1 => G ds μ1 R
variable {tr : TA3} {x : Str} {p : Pos} {id T : String}
theorem low_cb {K : Kn} {Z : Zn K} {r : List V → Hp → VK → Prop} {G : GA} {σ : St} {H : Hp} {Q : VK} (hl : ∀ F H μ ds vs R Q, Sim Z F H μ → Rps K F H ds vs → G ds μ R →
    (∀ F' v H' z μ', Step Z F H μ F' H' μ' → Rp K F' H' z v → R z μ' → Q v H') → r vs H Q) (h : low Z (vCB G tr) σ H Q) : tCB r (lowA Z tr) σ H Q := by
  obtain ⟨F, δ, μ, R, s, sl, h, k⟩ := h
  exact ⟨F, δ, μ, _, s, sl, h, fun F1 v H1 d μ1 g r1 q1 => hl F1 H1 μ1 d v R Q g.sim r1 q1 fun F2 w H2 z μ2 g2 r2 q2 => k F2 w H2 z μ2 (g.trans g2) r2 q2⟩
theorem e_callB {G : GA} (hc : CallL X Z (.builtin id) G) (hm : X.mg x = none) (hv : bootBuiltins x = some (.builtin id)) (ha : A3 X Z (e :: es) tr) (hg : Gl X x := by rfl) (hn : x ≠ "__name__" := by decide) (hdb : (x == ("__debug__" : Str)) = false := by decide)
    (he : starEach (e :: es) X.env = (false, eval e X.env) :: starEach es X.env := by rfl) (hpl : (backTo pos (starEach es X.env)).any (·.1) = false := by rfl) : E3 X Z (.Call (.Name x p) (e :: es) [] pos) (vCB G tr) := by
  obtain ⟨r, hr, hl⟩ := hc
  exact (pe_callB hr hg hm hv ha hn hdb he hpl).imp fun σ H Q h => low_cb hl h
def vLst (ta : TA3) : TE3 := fun δ μ R => ta δ μ fun ds μ1 => ds.length ≤ sizeLine ∧ R (.lst ds) μ1
def vTup (ta : TA3) : TE3 := fun δ μ R => ta δ μ fun ds μ1 => ds.length ≤ sizeLine ∧ R (.tup ds) μ1
def vLstT (ta : TA3) : TE3 := fun δ μ R => ta δ μ fun ds μ1 => ds.length ≤ sizeLine ∧ ∀ q, μ1 q = none → R (.ref q) (mset μ1 q (.lst ds))
theorem e_lst (h : A3 X Z es tr) : E3 X Z (.List es pos) (vLst tr) := (pe_lst h).imp fun σ H Q h => by
  obtain ⟨F, δ, μ, R, s, sl, h, k⟩ := h
  refine ⟨F, δ, μ, _, s, sl, h, fun F1 vs H1 ds μ1 g r1 ⟨z, q1⟩ => ⟨by rw [← r1.length]; exact z, fun p hp => ?_⟩⟩
  have g2 := g.sim.frzS (o := .lst vs) hp
  exact k _ (.ref p) _ (.lst ds) μ1 (g.trans g2) (.lst (.inr rfl) upd_same (r1.st g2)) q1
theorem e_tup {x1} (h : A3 X Z es tr) : E3 X Z (.Tuple es x1 pos) (vTup tr) := (pe_tup h).imp fun σ H Q h => by
  obtain ⟨F, δ, μ, R, s, sl, h, k⟩ := h
  refine ⟨F, δ, μ, _, s, sl, h, fun F1 vs H1 ds μ1 g r1 ⟨z, q1⟩ => ⟨by rw [← r1.length]; exact z, fun p hp => ?_⟩⟩
  have g2 := g.sim.frzS (o := .tup vs) hp
  exact k _ (.ref p) _ (.tup ds) μ1 (g.trans g2) (.tup (.inr rfl) upd_same (r1.st g2)) q1
theorem e_lstT (h : A3 X Z es tr) : E3 X Z (.List es pos) (vLstT tr) := (pe_lst h).imp fun σ H Q h => by
  obtain ⟨F, δ, μ, R, s, sl, h, k⟩ := h
  refine ⟨F, δ, μ, _, s, sl, h, fun F1 vs H1 ds μ1 g r1 ⟨z, q1⟩ => ⟨by rw [← r1.length]; exact z, fun p hp => ?_⟩⟩
  have g2 := g.sim.trkS (o := .lst vs) (m := .lst ds) hp fun g' e => ⟨vs, e, r1.grow g'⟩
  exact k _ (.ref p) _ (.ref p) _ (g.trans g2) (.ref p) (q1 p (g.sim.free hp))
end
end L3
namespace L3
open PySem PySem.Spec L2
mutual
inductive Fr (μ μ' : Mu) : D → D → Prop
  | same (d : D) : Fr μ μ' d d
  | lst {a : Addr} {xs ys : List D} : μ a = some (.lst xs) → μ' a = none → Frs μ μ' xs ys → Fr μ μ' (.ref a) (.lst ys)
  | dct {a : Addr} {xs ys : List (Key × D)} : μ a = some (.dct xs) → μ' a = none → Frk μ μ' xs ys → Fr μ μ' (.ref a) (.dct ys)
  | obj {a : Addr} {C : Str} {xs ys : List (Str × D)} : μ a = some (.ins C xs) → μ' a = none → Frf μ μ' xs ys → Fr μ μ' (.ref a) (.obj C ys)
  | inL {xs ys : List D} : Frs μ μ' xs ys → Fr μ μ' (.lst xs) (.lst ys)
  | inT {xs ys : List D} : Frs μ μ' xs ys → Fr μ μ' (.tup xs) (.tup ys)
  | inD {xs ys : List (Key × D)} : Frk μ μ' xs ys → Fr μ μ' (.dct xs) (.dct ys)
  | inO {C : Str} {xs ys : List (Str × D)} : Frf μ μ' xs ys → Fr μ μ' (.obj C xs) (.obj C ys)
  | dcn {a : Addr} {xs ys : List (LK × D)} : μ a = some (.dcn xs) → μ' a = none → Frn μ μ' xs ys → Fr μ μ' (.ref a) (.dcn ys)
  | inN {xs ys : List (LK × D)} : Frn μ μ' xs ys → Fr μ μ' (.dcn xs) (.dcn ys)
inductive Frs (μ μ' : Mu) : List D → List D → Prop
  | nil : Frs μ μ' [] []
  | cons {d e : D} {ds es : List D} : Fr μ μ' d e → Frs μ μ' ds es → Frs μ μ' (d :: ds) (e :: es)
inductive Frk (μ μ' : Mu) : List (Key × D) → List (Key × D) → Prop
  | nil : Frk μ μ' [] []
  | cons {k : Key} {d e : D} {ds es : List (Key × D)} : Fr μ μ' d e → Frk μ μ' ds es → Frk μ μ' ((k, d) :: ds) ((k, e) :: es)
inductive Frn (μ μ' : Mu) : List (LK × D) → List (LK × D) → Prop
  | nil : Frn μ μ' [] []
  | cons {k : LK} {d e : D} {ds es : List (LK × D)} : Fr μ μ' d e → Frn μ μ' ds es → Frn μ μ' ((k, d) :: ds) ((k, e) :: es)
inductive Frf (μ μ' : Mu) : List (Str × D) → List (Str × D) → Prop
  | nil : Frf μ μ' [] []
  | cons {k : Str} {d e : D} {ds es : List (Str × D)} : Fr μ μ' d e → Frf μ μ' ds es → Frf μ μ' ((k, d) :: ds) ((k, e) :: es)
end
theorem Frs.same {μ μ' : Mu} : ∀ xs : List D, Frs μ μ' xs xs
  | [] => .nil
  | x :: r => .cons (.same x) (Frs.same r)
theorem Frk.same {μ μ' : Mu} : ∀ xs : List (Key × D), Frk μ μ' xs xs
  | [] => .nil
  | (k, x) :: r => .cons (.same x) (Frk.same r)
theorem Frn.same {μ μ' : Mu} : ∀ xs : List (LK × D), Frn μ μ' xs xs
  | [] => .nil
  | (k, x) :: r => .cons (.same x) (Frn.same r)
theorem Frf.same {μ μ' : Mu} : ∀ xs : List (Str × D), Frf μ μ' xs xs
  | [] => .nil
  | (k, x) :: r => .cons (.same x) (Frf.same r)
def Le (μ' μ : Mu) : Prop := ∀ a o, μ' a = some o → μ a = some o
theorem Le.refl (μ : Mu) : Le μ μ := fun _ _ h => h
theorem Le.trans {a b c : Mu} (h : Le a b) (k : Le b c) : Le a c := fun x o e => k x o (h x o e)
theorem Le.mset {μ' μ : Mu} {a : Addr} {o : MO} (h : Le μ' μ) (hn : μ' a = none) : Le μ' (mset μ a o) := fun b u e => by
  by_cases hb : b = a
  · subst hb; rw [hn] at e; cases e
  · rw [mset_ne hb]; exact h b u e
section
variable {K : Kn} {F : Addr → Prop} {H : Hp} {μ μ' : Mu}
def gone (F : Addr → Prop) (μ μ' : Mu) : Addr → Prop := fun a => F a ∨ ((∃ o, μ a = some o) ∧ μ' a = none)
theorem gone_grow : Grow F H (gone F μ μ') H := ⟨fun _ h => .inl h, fun _ _ _ h => h, fun _ _ _ _ h => h⟩
theorem Sim0.dropped (s : Sim0 K F H μ) (l : Le μ' μ) : Sim0 K (gone F μ μ') H μ' := by
  have mo : ∀ {a o}, MoOk K F H a o → MoOk K (gone F μ μ') H a o := fun {a o} m => by
    cases o with
    | lst xs => obtain ⟨vs, e, r⟩ := m; exact ⟨vs, e, r.grow gone_grow⟩
    | dct kvs => obtain ⟨vs, e, r⟩ := m; exact ⟨vs, e, r.grow gone_grow⟩
    | dcn kvs => obtain ⟨vs, e, r⟩ := m; exact ⟨vs, e, r.grow gone_grow⟩
    | dlk od ks kvs => obtain ⟨e, r⟩ := m; exact ⟨e, r.grow gone_grow⟩
    | ins n fs => obtain ⟨C, dx, vs, c, e, r⟩ := m; exact ⟨C, dx, vs, c, e, r.grow gone_grow⟩
    | tbl qq => obtain ⟨vs, e, r⟩ := m; exact ⟨vs, e, r.grow gone_grow⟩
  refine ⟨fun a f => ?_, fun a o e => ?_⟩
  · rcases f with f | ⟨⟨o, e⟩, _⟩
    · exact s.dom a f
    · have m := (s.obj a o e).2
      cases o with
      | lst xs => obtain ⟨vs, e, r⟩ := m; exact ⟨_, e⟩
      | dct kvs => obtain ⟨vs, e, r⟩ := m; exact ⟨_, e⟩
      | dcn kvs => obtain ⟨vs, e, r⟩ := m; exact ⟨_, e⟩
      | dlk od ks kvs => obtain ⟨e, r⟩ := m; exact ⟨_, e⟩
      | ins n fs => obtain ⟨C, dx, vs, c, e, r⟩ := m; exact ⟨_, e⟩
      | tbl qq => obtain ⟨vs, e, r⟩ := m; exact ⟨_, e⟩
  · obtain ⟨nf, m⟩ := s.obj a o (l a o e)
    refine ⟨fun f => ?_, mo m⟩
    rcases f with f | ⟨_, n⟩
    · exact nf f
    · rw [e] at n; cases n
variable {Z : Zn K}
theorem Fm.drop (l : Le μ' μ) : Fm F μ H (gone F μ μ') μ' H := by
  have ee : ∀ a, μ a = none → μ' a = none := fun a n => by
    cases e : μ' a with
    | none => rfl
    | some o => rw [l a o e] at n; cases n
  refine fun a u h n z' => ⟨ee a n, h, fun z => ?_⟩
  rcases z with z | ⟨⟨o, z⟩, _⟩
  · exact z' z
  · rw [n] at z; cases z
theorem Sim.dropS (s : Sim Z F H μ) (l : Le μ' μ) : Step Z F H μ (gone F μ μ') H μ' := s.step gone_grow (Fm.drop l) (s.raw.dropped l)
mutual
theorem Rp.gone (s : Sim0 K F H μ) {d d' : D} : ∀ {v : V}, Fr μ μ' d d' → Rp K F H d v → Rp K (gone F μ μ') H d' v
  | _, .same _, r => r.grow gone_grow
  | _, .lst h n q, r => by
    cases r
    obtain ⟨vs, e, rs⟩ := (s.obj _ _ h).2
    exact .lst (.inr ⟨⟨_, h⟩, n⟩) e (Rps.gone s q rs)
  | _, .dct h n q, r => by
    cases r
    obtain ⟨vs, e, rs⟩ := (s.obj _ _ h).2
    exact .dct (.inr ⟨⟨_, h⟩, n⟩) (.inl e) (Rpk.gone s q rs)
  | _, .obj h n q, r => by
    cases r
    obtain ⟨C, dx, vs, c, e, rs⟩ := (s.obj _ _ h).2
    exact .obj c (.inr ⟨⟨_, h⟩, n⟩) e (Rpf.gone s q rs)
  | _, .inL q, r => by
    cases r with
    | lst f e rs => exact .lst (.inl f) e (Rps.gone s q rs)
  | _, .inT q, r => by
    cases r with
    | tup f e rs => exact .tup (.inl f) e (Rps.gone s q rs)
  | _, .inD q, r => by
    cases r with
    | dct f e rs => exact .dct (.inl f) e (Rpk.gone s q rs)
  | _, .inO q, r => by
    cases r with
    | obj c f e rs => exact .obj c (.inl f) e (Rpf.gone s q rs)
  | _, .dcn h n q, r => by
    cases r
    obtain ⟨vs, e, rs⟩ := (s.obj _ _ h).2
    exact .dcn (.inr ⟨⟨_, h⟩, n⟩) e (Rpn.gone s q rs)
  | _, .inN q, r => by
    cases r with
    | dcn f e rs => exact .dcn (.inl f) e (Rpn.gone s q rs)
theorem Rps.gone (s : Sim0 K F H μ) {ds es : List D} : ∀ {vs : List V}, Frs μ μ' ds es → Rps K F H ds vs → Rps K (gone F μ μ') H es vs
  | _, .nil, r => by cases r; exact .nil
  | _, .cons q t, r => by
    cases r with
    | cons h rs => exact .cons (Rp.gone s q h) (Rps.gone s t rs)
theorem Rpk.gone (s : Sim0 K F H μ) {ds es : List (Key × D)} : ∀ {vs : List (Key × V)}, Frk μ μ' ds es → Rpk K F H ds vs → Rpk K (gone F μ μ') H es vs
  | _, .nil, r => by cases r; exact .nil
  | _, .cons q t, r => by
    cases r with
    | cons h rs => exact .cons (Rp.gone s q h) (Rpk.gone s t rs)
theorem Rpn.gone (s : Sim0 K F H μ) {ds es : List (LK × D)} : ∀ {vs : List (LK × Addr × V)}, Frn μ μ' ds es → Rpn K F H ds vs → Rpn K (gone F μ μ') H es vs
  | _, .nil, r => by cases r; exact .nil
  | _, .cons q t, r => by
    cases r with
    | cons f e h rs => exact .cons (.inl f) e (Rp.gone s q h) (Rpn.gone s t rs)
theorem Rpf.gone (s : Sim0 K F H μ) {ds es : List (Str × D)} : ∀ {vs : List (Str × V)}, Frf μ μ' ds es → Rpf K F H ds vs → Rpf K (gone F μ μ') H es vs
  | _, .nil, r => by cases r; exact .nil
  | _, .cons q t, r => by
    cases r with
    | cons h rs => exact .cons (Rp.gone s q h) (Rpf.gone s t rs)
end
end
def fin (R : DK) (d : D) (μ : Mu) : Prop := ∃ d' μ', Le μ' μ ∧ Fr μ μ' d d' ∧ R d' μ'
theorem fin_same {R : DK} {d : D} {μ μ' : Mu} (l : Le μ' μ) (h : R d μ') : fin R d μ := ⟨d, μ', l, .same d, h⟩
theorem fin_now {R : DK} {d : D} {μ : Mu} (h : R d μ) : fin R d μ := fin_same (Le.refl μ) h
abbrev Sp3 := List D → Mu → DK → Prop
def lift (K : Kn) (n : Nat) (sp : Sp3) : Sp := fun vs H Q _ => ∃ (F : Addr → Prop) (ds : List D) (μ : Mu) (R : DK), ds.length = n ∧ Sim (Zn.top K) F H μ ∧ Rps K F H ds vs ∧ sp ds μ R ∧
  ∀ F' v H' d μ', Step (Zn.top K) F H μ F' H' μ' → Rp K F' H' d v → R d μ' → Q v H'
def start3 (N : List Str) (ds : List D) : St3 := ds.map some ++ List.replicate (N.length - ds.length) none
theorem Sl.start {K : Kn} {F : Addr → Prop} {H : Hp} {N : List Str} {ds : List D} {vs : List V} (r : Rps K F H ds vs) : Sl K F H (L2.start N vs) (start3 N ds) := by
  have hl := r.length
  refine ⟨by simp [L2.start, start3, hl], fun i d e => ?_⟩
  unfold start3 at e
  by_cases h : i < ds.length
  · rw [List.getElem?_append_left (by simpa using h), List.getElem?_map] at e
    cases q : ds[i]? with
    | none => rw [q] at e; cases e
    | some x =>
      rw [q] at e
      cases e
      obtain ⟨v, e1, r1⟩ := r.get q
      refine ⟨v, ?_, r1⟩
      unfold L2.start
      rw [List.getElem?_append_left (by simp [← hl, h]), List.getElem?_map, e1]
      rfl
  · rw [List.getElem?_append_right (by simpa using Nat.le_of_not_lt h), List.getElem?_replicate] at e
    split at e <;> cases e
def endsOf (R : DK) : Ends3 := { nx := fun _ μ => fin R .non μ, rt := fun d μ => fin R d μ }
section
variable {P : Program} {w : World} {K : Kn} {mg : Str → Option Value} {base : Heap}
theorem lift_len {n : Nat} {sp : Sp3} {vs : List V} {H : Hp} {Q : VK} {E : XK} (h : lift K n sp vs H Q E) : vs.length = n := by
  obtain ⟨F, ds, μ, R, l, _, r, _⟩ := h
  rw [← r.length]
  exact l
theorem fin_ends {Z : Zn K} {F : Addr → Prop} {H : Hp} {μ : Mu} {R : DK} {Q : VK} (k : ∀ F' v H' d μ', Step Z F H μ F' H' μ' → Rp K F' H' d v → R d μ' → Q v H') : EndsOk Z F H μ (endsOf R) { nx := fun _ H' => Q .non H', rt := Q } := by
  refine ⟨fun F' σ' H' δ' μ' g _ h => ?_, fun _ _ _ _ _ _ _ h => h.elim, fun _ _ _ _ _ _ _ h => h.elim, fun F' v H' d μ' g r h => ?_⟩
  · obtain ⟨d', μ'', l, f, q⟩ := h
    exact k _ .non H' d' μ'' (g.trans (g.sim.dropS l)) (Rp.gone g.sim.raw f .non) q
  · obtain ⟨d', μ'', l, f, q⟩ := h
    exact k _ v H' d' μ'' (g.trans (g.sim.dropS l)) (Rp.gone g.sim.raw f r) q
end
def vCall (n : Nat) (sp : Sp3) (tr : TA3) : TE3 := fun δ μ R => tr δ μ fun ds μ1 => ds.length = n ∧ sp ds μ1 R
section
variable {X : Cx} {Z : Zn X.kn} {e : Expr} {es : List Expr} {tr : TA3} {te : TE3} {x : Str} {p pos : Pos} {st : Stmt} {rest : List Stmt} {t u : TS3}
def sNext : TS3 := fun D δ μ => D.nx δ μ
def sSeq (t u : TS3) : TS3 := fun D δ μ => t { D with nx := u D } δ μ
theorem ss_nil : Ss3 X Z [] sNext := pss_nil.imp fun D σ H h => by
  obtain ⟨F, δ, μ, D3, s, sl, h, k⟩ := h
  exact k.nx F σ H δ μ (Step.refl s) sl h
theorem ss_cons (h1 : S3 X Z st t) (h2 : Ss3 X Z rest u) : Ss3 X Z (st :: rest) (sSeq t u) := (pss_cons h1 h2).imp fun D σ H h => by
  obtain ⟨F, δ, μ, D3, s, sl, h, k⟩ := h
  exact ⟨F, δ, μ, _, s, sl, h, ⟨fun F' σ' H' δ' μ' g sl' q => ⟨F', δ', μ', D3, g.sim, sl', q, k.st g⟩, k.bk, k.ct, k.rt⟩⟩
theorem ss_one (h1 : S3 X Z st t) : Ss3 X Z [st] t := pss_one h1
def sCont : TS3 := fun D δ μ => D.ct δ μ
def sDrop (te : TE3) : TS3 := fun D δ μ => te δ μ fun _ μ1 => D.nx δ μ1
theorem s_expr (he : E3 X Z e te) (hs : swapsWith e none pos.line X.env = pure false := by rfl) : S3 X Z (.Expr e pos) (sDrop te) := (ps_expr he hs).imp fun D σ H h => by
  obtain ⟨F, δ, μ, D3, s, sl, h, k⟩ := h
  exact ⟨F, δ, μ, _, s, sl, h, fun F1 v H1 d μ1 g r1 q1 => k.nx F1 σ H1 δ μ1 g (sl.st g) q1⟩
def sRet (te : TE3) : TS3 := fun D δ μ => te δ μ D.rt
theorem s_ret (he : E3 X Z e te) : S3 X Z (.Return (some e) pos) (sRet te) := (ps_ret he).imp fun D σ H h => by
  obtain ⟨F, δ, μ, D3, s, sl, h, k⟩ := h
  exact ⟨F, δ, μ, _, s, sl, h, fun F1 v H1 d μ1 g r1 q1 => k.rt F1 v H1 d μ1 g r1 q1⟩
def sRetN : TS3 := fun D _ μ => D.rt .non μ
def sIf (c : TT3) (t u : TS3) : TS3 := fun D δ μ => c δ μ fun b μ1 => if b = true then t D δ μ1 else u D δ μ1
theorem s_if {c : Expr} {a b : List Stmt} {tc : TT3} (hc : T3 X Z c tc) (ha : Ss3 X Z a t) (hb : Ss3 X Z b u) : S3 X Z (.If c a b pos) (sIf tc t u) := (ps_if hc ha hb).imp fun D σ H h => by
  obtain ⟨F, δ, μ, D3, s, sl, h, k⟩ := h
  refine ⟨F, δ, μ, _, s, sl, h, fun F1 c H1 μ1 g q1 => ?_⟩
  cases c with
  | true => exact ⟨F1, δ, μ1, D3, g.sim, sl.st g, q1, k.st g⟩
  | false => exact ⟨F1, δ, μ1, D3, g.sim, sl.st g, q1, k.st g⟩
abbrev TG3 := D → St3 → Option St3
structure TgL (K : Kn) (g2 : TG) (g3 : TG3) (vs : List Nat) : Prop where
  run : ∀ (F : Addr → Prop) (H : Hp) (σ : L2.St) (δ δ' : St3) (d : D) (v : V) (Q : L2.St → Hp → Prop), Sl K F H σ δ → Rp K F H d v → g3 d δ = some δ' →
    (∀ σ', (∀ ws : List Nat, (∀ i ∈ vs, i ∈ ws) → wipe σ' ws = wipe σ ws) → Sl K F H σ' δ' → Q σ' H) → g2 v σ H Q
def G3 (X : Cx) (tg : Expr) (g3 : TG3) (vs : List Nat) : Prop := ∃ g2, PG X tg g2 ∧ TgL X.kn g2 g3 vs
def gN (i : Nat) : TG3 := fun d δ => some (δ.set i (some d))
theorem wipe_set_mem (σ : L2.St) (x : Option V) : ∀ (ws : List Nat) (i : Nat), i ∈ ws → wipe (σ.set i x) ws = wipe σ ws
  | [], _, h => by cases h
  | w :: ws, i, h => by
    show (wipe (σ.set i x) ws).set w none = (wipe σ ws).set w none
    by_cases hi : i ∈ ws
    · rw [wipe_set_mem σ x ws i hi]
    · have hw : i = w := by
        rcases List.mem_cons.mp h with e | e
        · exact e
        · exact absurd e hi
      subst hw
      have : ∀ (vs : List Nat) (τ : L2.St), i ∉ vs → wipe (τ.set i x) vs = (wipe τ vs).set i x := by
        intro vs
        induction vs with
        | nil => intro τ _; rfl
        | cons v vs ih =>
          intro τ hn
          show (wipe (τ.set i x) vs).set v none = ((wipe τ vs).set v none).set i x
          rw [ih τ (fun z => hn (List.mem_cons_of_mem _ z))]
          rw [List.set_comm _ _ (show i ≠ v from fun e => hn (e ▸ List.mem_cons_self))]
      rw [this ws σ hi, List.set_set]
theorem g_name {i : Nat} {x : Str} (hN : X.N.Nodup) (hi : X.N[i]? = some x := by rfl) (hx : Loc X.env.scope x := by first | exact Or.inl rfl | exact Or.inr rfl) (hf : X.fn x = true ∨ X.env.scope.names.lookup x = some .local := by first | exact .inl rfl | exact .inr rfl) : G3 X (.Name x pos) (gN i) [i] :=
  ⟨gName i, pg_name hN hi hx hf, ⟨fun F H σ δ δ' d v Q sl r e k => by
    cases e
    exact k _ (fun ws h => wipe_set_mem σ (some v) ws i (h i List.mem_cons_self)) (sl.set i r)⟩⟩
def gGo : List TG3 → List D → St3 → Option St3
  | [], [], δ => some δ
  | g :: gs, d :: ds, δ => (g d δ).bind fun δ' => gGo gs ds δ'
  | _, _, _ => none
def gT (gs : List TG3) : TG3 := fun d δ => match d with
  | .tup ds => gGo gs ds δ
  | .lst ds => gGo gs ds δ
  | _ => none
structure TgsL (K : Kn) (g2 : TGs) (gs : List TG3) (vs : List Nat) : Prop where
  run : ∀ (F : Addr → Prop) (H : Hp) (σ : L2.St) (δ δ' : St3) (ds : List D) (us : List V) (Q : L2.St → Hp → Prop), Sl K F H σ δ → Rps K F H ds us → gGo gs ds δ = some δ' →
    (∀ σ', (∀ ws : List Nat, (∀ i ∈ vs, i ∈ ws) → wipe σ' ws = wipe σ ws) → Sl K F H σ' δ' → Q σ' H) → g2 us σ H Q
def Gs3 (X : Cx) (ts : List Expr) (gs : List TG3) (vs : List Nat) : Prop := ∃ g2, PGs X ts g2 ∧ TgsL X.kn g2 gs vs
theorem gs_nil : Gs3 X [] [] [] := ⟨gNil, pgs_nil, ⟨fun F H σ δ δ' ds us Q sl r e k => by
  cases r with
  | nil => cases e; exact ⟨rfl, k σ (fun _ _ => rfl) sl⟩
  | cons h t => cases e⟩⟩
theorem gs_cons {tg : Expr} {ts : List Expr} {g : TG3} {gs : List TG3} {vs ws : List Nat} (h1 : G3 X tg g vs) (h2 : Gs3 X ts gs ws) (hs : (assignEach (tg :: ts) X.env).map (·.2) = assign tg X.env :: (assignEach ts X.env).map (·.2) := by rfl) : Gs3 X (tg :: ts) (g :: gs) (vs ++ ws) := by
  obtain ⟨a, ha, la⟩ := h1
  obtain ⟨b, hb, lb⟩ := h2
  refine ⟨gCons a b, pgs_cons ha hb hs, ⟨fun F H σ δ δ' ds us Q sl r e k => ?_⟩⟩
  cases r with
  | nil => cases e
  | @cons d v ds vs2 h t =>
    have e' : (g d δ).bind (fun δ'' => gGo gs ds δ'') = some δ' := e
    cases q : g d δ with
    | none => rw [q] at e'; cases e'
    | some δ1 =>
      rw [q] at e'
      refine ⟨v, vs2, rfl, ?_⟩
      refine la.run F H σ δ δ1 d v _ sl h q fun σ1 w1 sl1 => ?_
      exact lb.run F H σ1 δ1 δ' ds vs2 _ sl1 t e' fun σ2 w2 sl2 => k σ2 (fun us hu => (w2 us fun i hi => hu i (List.mem_append_right _ hi)).trans (w1 us fun i hi => hu i (List.mem_append_left _ hi))) sl2
theorem gGo_len : ∀ {gs : List TG3} {ds : List D} {δ δ' : St3}, gGo gs ds δ = some δ' → ds.length = gs.length
  | [], [], _, _, _ => rfl
  | [], _ :: _, _, _, e => by cases e
  | _ :: _, [], _, _, e => by cases e
  | g :: gs, d :: ds, δ, δ', e => by
    have e' : (g d δ).bind (fun δ'' => gGo gs ds δ'') = some δ' := e
    cases q : g d δ with
    | none => rw [q] at e'; cases e'
    | some δ1 => rw [q] at e'; rw [List.length_cons, List.length_cons, gGo_len e']
theorem _root_.L2.PG.or {X : Cx} {tg : Expr} {t u : TG} (h : PG X tg t) (h' : PG X tg u) : PG X tg (fun v σ H Q => t v σ H Q ∨ u v σ H Q) := ⟨fun pins s σ H v w Q I r q => q.elim (h.run pins s σ H v w Q I r) (h'.run pins s σ H v w Q I r)⟩
theorem tl_tup {K : Kn} {a : TGs} {gs : List TG3} {vs : List Nat} {m : Nat} (la : TgsL K a gs vs) (hm : gs.length = m) : TgL K (fun v σ H Q => gTup K.K m a v σ H Q ∨ gLst K.K m a v σ H Q) (gT gs) vs := ⟨fun F H σ δ δ' d v Q sl r e k => by
  cases r with
  | @tup ds us a f h rs => exact .inl ⟨_, us, rfl, SqT.of h, by rw [← rs.length, gGo_len e, hm], la.run F H σ δ δ' ds us Q sl rs e k⟩
  | @lst ds us a f h rs => exact .inr ⟨_, us, rfl, SqL.of h, by rw [← rs.length, gGo_len e, hm], la.run F H σ δ δ' ds us Q sl rs e k⟩
  | _ => cases e⟩
theorem g_tup {ts : List Expr} {n : Nat} {gs : List TG3} {vs : List Nat} {m : Nat} (hc : X.calm = true) (h : Gs3 X ts gs vs) (hm : gs.length = m := by rfl) (hn : (assignEach ts X.env).length = m := by rfl) (hst : (assignEach ts X.env).findIdx? (·.1) = none := by rfl) : G3 X (.Tuple ts n pos) (gT gs) vs := by
  obtain ⟨a, ha, la⟩ := h
  exact ⟨_, (pg_tup hc ha hn hst).or (pg_lst hc ha hn hst), tl_tup la hm⟩
def sAsg (te : TE3) (g : TG3) : TS3 := fun D δ μ => te δ μ fun d μ1 => match g d δ with
  | some δ' => D.nx δ' μ1
  | none => False
def sSet (i : Nat) (te : TE3) : TS3 := fun D δ μ => te δ μ fun d μ1 => D.nx (δ.set i (some d)) μ1
theorem s_set {i : Nat} {pos' : Pos} (hN : X.N.Nodup) (he : E3 X Z e te) (hi : X.N[i]? = some x := by rfl) (hx : Loc X.env.scope x := by first | exact Or.inl rfl | exact Or.inr rfl) (hs : swapsWith e (some (.Name x pos')) pos.line X.env = pure false := by rfl) (hf : X.fn x = true ∨ X.env.scope.names.lookup x = some .local := by first | exact .inl rfl | exact .inr rfl) :
    S3 X Z (.Assign [.Name x pos'] e pos) (sSet i te) := (ps_set hN hi hx he hs hf).imp fun D σ H h => by
  obtain ⟨F, δ, μ, D3, s, sl, h, k⟩ := h
  exact ⟨F, δ, μ, _, s, sl, h, fun F1 v H1 d μ1 g r1 q1 => k.nx F1 _ H1 _ μ1 g ((sl.st g).set i r1) q1⟩
def sAug (i : Nat) (te : TE3) (G : G2) : TS3 := fun D δ μ => match δ[i]? with
  | some (some x) => te δ μ fun y μ1 => G x y μ1 fun z μ2 => D.nx (δ.set i (some z)) μ2
  | _ => False
structure ItOk {K : Kn} (Z : Zn K) (F : Addr → Prop) (H : Hp) (μ : Mu) (ds : List D) (Pm : Mu → Prop) (J : It) : Prop where
  go : ∀ F1 H1 μ1 i, Step Z F H μ F1 H1 μ1 → Pm μ1 → i < ds.length → J.go i H1
  stop : ∀ F1 H1 μ1, Step Z F H μ F1 H1 μ1 → Pm μ1 → J.stop ds.length H1
  yld : ∀ F1 H1 μ1 i x H2, Step Z F H μ F1 H1 μ1 → Pm μ1 → J.yld i H1 x H2 → i < ds.length → ∃ F2 d, Step Z F1 H1 μ1 F2 H2 μ1 ∧ ds[i]? = some d ∧ Rp K F2 H2 d x
abbrev TI3 := St3 → Mu → (List D → (Mu → Prop) → Mu → Prop) → Prop
def lowI {K : Kn} (Z : Zn K) (wi : TI3) : TI := fun σ H R => ∃ (F : Addr → Prop) (δ : St3) (μ : Mu) (R3 : List D → (Mu → Prop) → Mu → Prop), Sim Z F H μ ∧ Sl K F H σ δ ∧ wi δ μ R3 ∧
  ∀ F' H' ds Pm μ' J, Step Z F H μ F' H' μ' → ItOk Z F' H' μ' ds Pm J → R3 ds Pm μ' → R J H'
def I3 (X : Cx) (Z : Zn X.kn) (tg iter : Expr) (wi : TI3) : Prop := PI X tg iter (lowI Z wi)
theorem _root_.L2.PI.imp {X : Cx} {tg e : Expr} {t t' : TI} (h : PI X tg e t) (i : ∀ σ H R, t' σ H R → t σ H R) : PI X tg e t' := ⟨fun pins s σ H R I q => h.run pins s σ H R I (i _ _ _ q)⟩
def forW (Pm : Mu → Prop) (g : TG3) (tb : TS3) (Z : Ends3) : List D → St3 → Mu → Prop
  | [], δ, μ => Pm μ ∧ Z.nx δ μ
  | d :: ds, δ, μ => Pm μ ∧ match g d δ with
    | some δ' => tb { Z with nx := forW Pm g tb Z ds, ct := forW Pm g tb Z ds, bk := Z.nx } δ' μ
    | none => False
def sFor (wi : TI3) (g : TG3) (tb : TS3) : TS3 := fun D δ μ => wi δ μ fun ds Pm μ1 => forW Pm g tb D ds δ μ1
theorem s_for {tg iter : Expr} {body : List Stmt} {wi : TI3} {g : TG3} {vs : List Nat} {tb : TS3} (hp : PassesOwn (model X.prog X.w) X.A X.env X.xe) (hc : X.calm = true) (hi : I3 X Z tg iter wi) (hg : G3 X tg g vs) (hb : Ss3 X Z body tb)
    (hs : ∀ x, foldedSetIterable iter X.env x = pure x := by intro _; rfl) : S3 X Z (.For tg iter body [] pos) (sFor wi g tb) := by
  obtain ⟨g2, hg2, lg⟩ := hg
  refine (ps_for hp hc hi hg2 hb hs).imp fun D σ H h => ?_
  obtain ⟨F, δ, μ, D3, s, sl, h, k⟩ := h
  refine ⟨F, δ, μ, _, s, sl, h, fun F0 H0 ds Pm μ0 J g0 it q0 => ?_⟩
  refine ⟨fun i m σ1 H1 => ∃ F1 δ1 μ1, Step Z F0 H0 μ0 F1 H1 μ1 ∧ Sl X.kn F1 H1 σ1 δ1 ∧ m + i = ds.length ∧ forW Pm g tb D3 (ds.drop i) δ1 μ1, ⟨ds.length, F0, δ, μ0, Step.refl g0.sim, sl.st g0, rfl, q0⟩, ?_⟩
  rintro i m σ1 H1 ⟨F1, δ1, μ1, g1, sl1, em, h1⟩
  by_cases hi : i < ds.length
  · rw [List.drop_eq_getElem_cons hi] at h1
    obtain ⟨hP, h1⟩ := h1
    refine .inr ⟨it.go F1 H1 μ1 i g1 hP hi, fun σ' H' => ∃ F1 δ1 μ1, Step Z F0 H0 μ0 F1 H' μ1 ∧ Sl X.kn F1 H' σ' δ1 ∧ forW Pm g tb D3 (ds.drop (i + 1)) δ1 μ1, fun σ' H' ⟨F2, δ2, μ2, a, c, d⟩ => ⟨m - 1, by omega, F2, δ2, μ2, a, c, by omega, d⟩, fun x H2 hy => ?_⟩
    obtain ⟨F2, d, g2, ed, r2⟩ := it.yld F1 H1 μ1 i x H2 g1 hP hy hi
    rw [List.getElem?_eq_getElem hi] at ed
    cases ed
    split at h1
    · rename_i δ' eg
      refine lg.run F2 H2 σ1 δ1 δ' _ x _ (sl1.st g2) r2 eg fun σ' _ sl' => ?_
      refine ⟨F2, δ', μ1, _, g2.sim, sl', h1, ⟨fun F3 σ3 H3 δ3 μ3 g3 sl3 q3 => ⟨F3, δ3, μ3, (g1.trans g2).trans g3, sl3, q3⟩, fun F3 σ3 H3 δ3 μ3 g3 sl3 q3 => k.nx F3 σ3 H3 δ3 μ3 (((g0.trans g1).trans g2).trans g3) sl3 q3, fun F3 σ3 H3 δ3 μ3 g3 sl3 q3 => ⟨F3, δ3, μ3, (g1.trans g2).trans g3, sl3, q3⟩, (k.st ((g0.trans g1).trans g2)).rt⟩⟩
    · exact h1.elim
  · have e : i = ds.length := by omega
    subst e
    rw [List.drop_length] at h1
    exact .inl ⟨it.stop F1 H1 μ1 g1 h1.1, k.nx F1 σ1 H1 δ1 μ1 (g0.trans g1) sl1 h1.2⟩
def wipe3 (δ : St3) : List Nat → St3
  | [] => δ
  | v :: vs => (wipe3 δ vs).set v none
theorem Sl.wipe {K : Kn} {F : Addr → Prop} {H : Hp} {σ : L2.St} {δ : St3} (s : Sl K F H σ δ) : ∀ vs : List Nat, Sl K F H (wipe σ vs) (wipe3 δ vs)
  | [] => s
  | v :: vs => by
    have ih := Sl.wipe s vs
    refine ⟨by show ((L2.wipe σ vs).set v none).length = ((wipe3 δ vs).set v none).length; simpa using ih.len, fun i d e => ?_⟩
    have e' : ((wipe3 δ vs).set v none)[i]? = some (some d) := e
    show ∃ u, ((L2.wipe σ vs).set v none)[i]? = some (some u) ∧ _
    by_cases hv : v = i
    · subst hv
      by_cases hl : v < (wipe3 δ vs).length
      · rw [List.getElem?_set_self hl] at e'; cases e'
      · rw [List.getElem?_eq_none_iff.mpr (by simpa using hl)] at e'; cases e'
    · rw [List.getElem?_set_ne hv] at e'
      rw [List.getElem?_set_ne hv]
      exact ih.at_ i d e'
theorem wipe_set_none (σ : L2.St) : ∀ (ws : List Nat) (i : Nat), L2.wipe (σ.set i none) ws = (L2.wipe σ ws).set i none
  | [], _ => rfl
  | w :: ws, i => by
    show (L2.wipe (σ.set i none) ws).set w none = ((L2.wipe σ ws).set w none).set i none
    rw [wipe_set_none σ ws i]
    by_cases h : i = w
    · subst h; rfl
    · rw [List.set_comm _ _ h]
theorem wipe_wipe (σ : L2.St) : ∀ ws : List Nat, L2.wipe (L2.wipe σ ws) ws = L2.wipe σ ws
  | [] => rfl
  | w :: ws => by
    show (L2.wipe ((L2.wipe σ ws).set w none) ws).set w none = (L2.wipe σ ws).set w none
    rw [wipe_set_none, wipe_wipe σ ws, List.set_set]
def lcW (Pm : Mu → Prop) (g : TG3) (tt : TT3) (te : TE3) (δ : St3) (R : List D → Mu → Prop) : List D → List D → Mu → Prop
  | [], acc, μ => Pm μ ∧ R acc μ
  | d :: ds, acc, μ => Pm μ ∧ acc.length < sizeLine ∧ match g d δ with
    | some δ' => tt δ' μ fun b μ1 => if b = true then te δ' μ1 fun y μ2 => lcW Pm g tt te δ R ds (acc ++ [y]) μ2 else lcW Pm g tt te δ R ds acc μ1
    | none => False
def vLc (wi : TI3) (g : TG3) (tt : TT3) (te : TE3) (vs : List Nat) : TE3 := fun δ μ R => wi δ μ fun ds Pm μ1 => lcW Pm g tt te (wipe3 δ vs) (fun out μ2 => R (.lst out) μ2) ds [] μ1
def Ts3 (X : Cx) (Z : Zn X.kn) (es : List Expr) (t : TT3) : Prop := PTs X es (lowT Z t)
theorem _root_.L2.PTs.imp {X : Cx} {e : List Expr} {t t' : TT} (h : PTs X e t) (i : ∀ σ H Q, t' σ H Q → t σ H Q) : PTs X e t' := ⟨fun pins s σ H Q I q => h.run pins s σ H Q I (i _ _ _ q)⟩
theorem ts_one {c : Expr} {t : TT3} (h : T3 X Z c t) : Ts3 X Z [c] t := pts_one h
theorem low_lc {K : Kn} {Z : Zn K} {wi : TI3} {g : TG3} {g2 : TG} {tt : TT3} {te : TE3} {vs ws : List Nat} {σ : L2.St} {H : Hp} {Q : VK} (lg : TgL K g2 g vs) (hv : ∀ i ∈ vs, i ∈ ws) (h : low Z (vLc wi g tt te ws) σ H Q) : tLc (lowI Z wi) g2 (lowT Z tt) (low Z te) ws σ H Q := by
  obtain ⟨F, δ, μ, R, s, sl, h, k⟩ := h
  refine ⟨F, δ, μ, _, s, sl, h, fun F0 H0 ds Pm μ0 J g0 it q0 Dl hD => ?_⟩
  have gD := g0.sim.newS (o := .lst []) hD
  refine ⟨fun i m H1 => ∃ F1 μ1 acc out, Step Z F0 H0 μ0 F1 H1 μ1 ∧ ¬ F1 Dl ∧ μ1 Dl = none ∧ H1 Dl = some (.lst acc) ∧ Rps K F1 H1 out acc ∧ m + i = ds.length ∧ lcW Pm g tt te (wipe3 δ ws) (fun out μ2 => R (.lst out) μ2) (ds.drop i) out μ1,
    ⟨ds.length, F0, μ0, [], [], gD, ?_, g0.sim.free hD, upd_same, .nil, rfl, q0⟩, ?_⟩
  · intro f
    obtain ⟨u, hu⟩ := g0.sim.dom Dl f
    rw [hD] at hu
    cases hu
  rintro i m H1 ⟨F1, μ1, acc, out, g1, nF, nμ, eD, rs, em, h1⟩
  by_cases hi : i < ds.length
  · rw [List.drop_eq_getElem_cons hi] at h1
    obtain ⟨hP, hlen, h1⟩ := h1
    refine .inr ⟨it.go F1 H1 μ1 i g1 hP hi, fun H' => ∃ F1 μ1 acc out, Step Z F0 H0 μ0 F1 H' μ1 ∧ ¬ F1 Dl ∧ μ1 Dl = none ∧ H' Dl = some (.lst acc) ∧ Rps K F1 H' out acc ∧ lcW Pm g tt te (wipe3 δ ws) (fun out μ2 => R (.lst out) μ2) (ds.drop (i + 1)) out μ1,
      fun H' ⟨F2, μ2, acc2, out2, a, b, c, d, e, f⟩ => ⟨m - 1, by omega, F2, μ2, acc2, out2, a, b, c, d, e, by omega, f⟩, fun x H2 hy => ?_⟩
    obtain ⟨F2, d, g2', ed, r2⟩ := it.yld F1 H1 μ1 i x H2 g1 hP hy hi
    rw [List.getElem?_eq_getElem hi] at ed
    obtain rfl := Option.some.inj ed
    have sw : Sl K F2 H2 (L2.wipe σ ws) (wipe3 δ ws) := (sl.st ((g0.trans g1).trans g2')).wipe ws
    split at h1
    · rename_i δ' eg
      refine lg.run F2 H2 (L2.wipe σ ws) (wipe3 δ ws) δ' _ x _ sw r2 eg fun σ' hw sl' => ?_
      have hww : L2.wipe (L2.wipe σ ws) ws = L2.wipe σ ws := wipe_wipe σ ws
      refine ⟨(hw ws hv).trans hww, ?_⟩
      obtain ⟨n2, e2, f2⟩ := g2'.fm Dl _ eD nμ nF
      refine ⟨F2, δ', μ1, _, g2'.sim, sl', h1, fun F3 b H3 μ3 g3 q3 => ?_⟩
      obtain ⟨n3, e3, f3⟩ := g3.fm Dl _ e2 n2 f2
      cases b with
      | true =>
        refine ⟨F3, δ', μ3, _, g3.sim, sl'.st g3, q3, fun F4 y H4 dy μ4 g4 r4 q4 => ?_⟩
        obtain ⟨n4, e4, f4⟩ := g4.fm Dl _ e3 n3 f3
        have nF4 : ¬ F4 Dl := f4
        have gs := ((g1.trans g2').trans g3).trans g4
        have gp := (gs.sim.raw.priv (o := .lst (acc ++ [y])) nF4 n4).1
        refine ⟨acc, e4, by rw [← rs.length]; exact hlen, F4, μ4, acc ++ [y], out ++ [dy], gs.priv g0.sim hD nF4 n4, nF4, n4, upd_same, ((rs.st ((g2'.trans g3).trans g4)).append (.cons r4 .nil)).grow gp, q4⟩
      | false => exact ⟨F3, μ3, acc, out, (g1.trans g2').trans g3, f3, n3, e3, rs.st (g2'.trans g3), q3⟩
    · exact h1.elim
  · have e : i = ds.length := by omega
    subst e
    rw [List.drop_length] at h1
    refine .inl ⟨it.stop F1 H1 μ1 g1 h1.1, ?_⟩
    have gs := g1.shut (o := .lst acc) g0.sim hD nμ eD
    have gg : Grow F1 H1 (fun a => F1 a ∨ a = Dl) H1 := ⟨fun _ h => .inl h, fun _ _ _ h => h, fun _ _ _ _ h => h⟩
    exact k _ (.ref Dl) H1 (.lst out) μ1 (g0.trans gs) (.lst (.inr rfl) eD (rs.grow gg)) h1.2
theorem e_lc {elt tg iter : Expr} {ifs : List Expr} {scope : Scope} {own : List (Str × Nat)} {wi : TI3} {g : TG3} {tt : TT3} {te : TE3} {vs : List Nat} (hc : X.calm = true) (hN : X.N.Nodup) (hi : I3 X Z tg iter wi) (ok : BlkOk X.N X.env.scope scope own) {g2 : TG}
    (lg : TgL X.kn g2 g vs) (hv : ∀ i ∈ vs, i ∈ own.map (·.2))
    (hg : ∀ (s : Shared) (H : Hp) (C : Addr) (cl : List (Str × Addr)) (fp : List Addr), PG (X.blk s H scope (compEnvC scope cl C X.env) fp) tg g2)
    (ht : ∀ (s : Shared) (H : Hp) (C : Addr) (cl : List (Str × Addr)) (fp : List Addr), Ts3 (X.blk s H scope (compEnvC scope cl C X.env) fp) Z ifs tt)
    (he : ∀ (s : Shared) (H : Hp) (C : Addr) (cl : List (Str × Addr)) (fp : List Addr), E3 (X.blk s H scope (compEnvC scope cl C X.env) fp) Z elt te)
    (hs : ∀ x, foldedSetIterable iter X.env x = pure x := by intro _; rfl) :
    E3 X Z (.ListComp elt [⟨tg, iter, ifs, 0⟩] scope pos) (vLc wi g tt te (own.map (·.2))) :=
  (pe_lc (wi := lowI Z wi) (g := g2) (tt := lowT Z tt) (te := low Z te) hc hN hi ok hg ht he hs).imp fun σ H Q h => low_lc lg hv h
end
end L3
namespace L3
open PySem PySem.Spec L2
section
variable {X : Cx} {Z : Zn X.kn}
def g2I (C : Int → Int → Prop) (g : Int → Int → D) : G2 := fun x y μ R => match x, y with
  | .int i, .int j => C i j ∧ R (g i j) μ
  | _, _ => False
def g2I0 (g : Int → Int → D) : G2 := fun x y μ R => match x, y with
  | .int i, .int j => R (g i j) μ
  | _, _ => False
theorem opl_I {f : Value → Value → Sem Value} {C : Int → Int → Prop} {g : Int → Int → V} {g3 : Int → Int → D} (h : OpR X f (rI C g)) (hg : ∀ i j F H, Rp X.kn F H (g3 i j) (g i j)) : OpL X Z f (g2I C g3) := by
  refine ⟨_, h, fun F H μ x y vx vy R Q s rx ry q k => ?_⟩
  cases rx <;> first | exact (show False from q).elim | skip
  rename_i i
  cases ry <;> first | exact (show False from q).elim | skip
  rename_i j
  exact ⟨i, j, rfl, rfl, q.1, k F _ H _ μ (Step.refl s) (hg i j F H) q.2⟩
theorem opl_I0 {f : Value → Value → Sem Value} {g : Int → Int → V} {g3 : Int → Int → D} (h : OpR X f (rI0 g)) (hg : ∀ i j F H, Rp X.kn F H (g3 i j) (g i j)) : OpL X Z f (g2I0 g3) := by
  refine ⟨_, h, fun F H μ x y vx vy R Q s rx ry q k => ?_⟩
  cases rx <;> first | exact (show False from q).elim | skip
  rename_i i
  cases ry <;> first | exact (show False from q).elim | skip
  rename_i j
  exact ⟨i, j, rfl, rfl, k F _ H _ μ (Step.refl s) (hg i j F H) q⟩
def OpL.or {f : Value → Value → Sem Value} {G G' : G2} (h : OpL X Z f G) (h' : OpL X Z f G') : OpL X Z f (fun x y μ R => G x y μ R ∨ G' x y μ R) := by
  obtain ⟨r, hr, l⟩ := h
  obtain ⟨r', hr', l'⟩ := h'
  refine ⟨fun x y H Q => r x y H Q ∨ r' x y H Q, ?_, fun F H μ x y vx vy R Q s rx ry q k => ?_⟩
  · intro pins s σ H x y v u Q I rx ry q
    rcases q with q | q
    · exact hr pins s σ H x y v u Q I rx ry q
    · exact hr' pins s σ H x y v u Q I rx ry q
  · rcases q with q | q
    · exact .inl (l F H μ x y vx vy R Q s rx ry q k)
    · exact .inr (l' F H μ x y vx vy R Q s rx ry q k)
theorem OpL.imp {f : Value → Value → Sem Value} {G G' : G2} (h : OpL X Z f G) (i : ∀ x y μ R, G' x y μ R → G x y μ R) : OpL X Z f G' := by
  obtain ⟨r, hr, l⟩ := h
  exact ⟨r, hr, fun F H μ x y vx vy R Q s rx ry q k => l F H μ x y vx vy R Q s rx ry (i x y μ R q) k⟩
abbrev gSub : G2 := g2I0 fun i j => .int (i - j)
abbrev gMul : G2 := g2I CMulW fun i j => .int (i * j)
abbrev gMod : G2 := g2I (fun _ j => 0 < j) fun i j => .int (i % j)
abbrev gDiv : G2 := g2I CDivW fun i j => .int (i / j)
abbrev gPow : G2 := g2I CPow fun i j => .int (i ^ j.toNat)
theorem o_sub : OpL X Z (binaryOp .Sub) gSub := opl_I0 op_sub fun _ _ _ _ => .int _
theorem o_mul : OpL X Z (binaryOp .Mult) gMul := opl_I op_mulW fun _ _ _ _ => .int _
theorem o_mod : OpL X Z (binaryOp .Mod) gMod := opl_I op_mod fun _ _ _ _ => .int _
theorem o_div : OpL X Z (binaryOp .FloorDiv) gDiv := opl_I op_fdivW fun _ _ _ _ => .int _
theorem o_pow : OpL X Z (binaryOp .Pow) gPow := opl_I op_pow fun _ _ _ _ => .int _
abbrev gLt : G2 := g2I0 fun i j => .bl (decide (i < j))
abbrev gLe : G2 := g2I0 fun i j => .bl (decide (i ≤ j))
abbrev gGt : G2 := g2I0 fun i j => .bl (decide (j < i))
abbrev gGe : G2 := g2I0 fun i j => .bl (decide (j ≤ i))
theorem o_lt : OpL X Z (compareOp .Lt) gLt := opl_I0 op_lt fun _ _ _ _ => .bl _
theorem o_gt : OpL X Z (compareOp .Gt) gGt := opl_I0 op_gt fun _ _ _ _ => .bl _
def gNeg : D → Mu → DK → Prop := fun x μ R => match x with
  | .int i => R (.int (-i)) μ
  | _ => False
theorem u_neg : UnL X Z (unaryOp .USub) gNeg := ⟨_, un_neg, fun F H μ x vx R Q s rx q k => by
  cases rx <;> first | exact (show False from q).elim | skip
  rename_i i
  exact ⟨i, rfl, k F _ H _ μ (Step.refl s) (.int _) q⟩⟩
def lstOf (μ : Mu) : D → Option (List D)
  | .lst xs => some xs
  | .ref a => match μ a with
    | some (.lst xs) => some xs
    | _ => none
  | _ => none
def rdL (μ : Mu) : D → Option (List D)
  | .lst xs => some xs
  | .scr xs => some xs
  | .ref a => match μ a with
    | some (.lst xs) => some xs
    | _ => none
  | _ => none
def seqOf (μ : Mu) : D → Option (List D)
  | .etp _ _ => some []
  | .lst xs => some xs
  | .scr xs => some xs
  | .tup xs => some xs
  | .ref a => match μ a with
    | some (.lst xs) => some xs
    | _ => none
  | _ => none
theorem lst_of {K : Kn} {Z : Zn K} {F : Addr → Prop} {H : Hp} {μ : Mu} {x : D} {v : V} {xs : List D} (s : Sim Z F H μ) (r : Rp K F H x v) (h : lstOf μ x = some xs) : ∃ p vs, v = .ref p ∧ H p = some (.lst vs) ∧ Rps K F H xs vs := by
  cases r with
  | lst f e rs => cases h; exact ⟨_, _, rfl, e, rs⟩
  | ref a =>
    have h' : (match μ a with
      | some (.lst xs) => some xs
      | _ => none) = some xs := h
    split at h'
    · rename_i ys e2
      cases h'
      obtain ⟨_, vs, e3, rs⟩ := s.obj _ _ e2
      exact ⟨_, vs, rfl, e3, rs⟩
    · cases h'
  | _ => cases h
theorem seq_of {K : Kn} {Z : Zn K} {F : Addr → Prop} {H : Hp} {μ : Mu} {x : D} {v : V} {xs : List D} (s : Sim Z F H μ) (r : Rp K F H x v) (h : seqOf μ x = some xs) : ∃ p vs, v = .ref p ∧ (SqL K H p vs ∨ SqT K H p vs) ∧ Rps K F H xs vs := by
  cases r with
  | lst f e rs => cases h; exact ⟨_, _, rfl, .inl (SqL.of e), rs⟩
  | scr f rs => cases h; exact ⟨_, _, rfl, .inl f.sq, rs⟩
  | tup f e rs => cases h; exact ⟨_, _, rfl, .inr (SqT.of e), rs⟩
  | etp p i t => cases h; exact ⟨_, _, rfl, .inr (.inr t), .nil⟩
  | ref a =>
    obtain ⟨p, vs, e1, e2, rs⟩ := lst_of (x := .ref a) s (.ref a) (xs := xs) (by
      unfold seqOf at h
      unfold lstOf
      exact h)
    exact ⟨p, vs, e1, .inl (SqL.of e2), rs⟩
  | _ => cases h
def gAdd : G2 := fun x y μ R => match x, y with
  | .int i, .int j => R (.int (i + j)) μ
  | .str a, .str b => a.length + b.length ≤ sizeLine ∧ R (.str (a ++ b)) μ
  | .tup xs, .tup ys => xs.length + ys.length ≤ sizeLine ∧ R (.tup (xs ++ ys)) μ
  | x, y => ∃ xs ys, lstOf μ x = some xs ∧ lstOf μ y = some ys ∧ xs.length + ys.length ≤ sizeLine ∧ R (.lst (xs ++ ys)) μ
theorem o_addI : OpL X Z (binaryOp .Add) (g2I0 fun i j => .int (i + j)) := opl_I0 op_add fun _ _ _ _ => .int _
def gAddS : G2 := fun x y μ R => match x, y with
  | .str a, .str b => a.length + b.length ≤ sizeLine ∧ R (.str (a ++ b)) μ
  | _, _ => False
theorem o_addS : OpL X Z (binaryOp .Add) gAddS := ⟨_, op_add_str, fun F H μ x y vx vy R Q s rx ry q k => by
  cases rx <;> first | exact (show False from q).elim | skip
  cases ry <;> first | exact (show False from q).elim | skip
  exact ⟨_, _, rfl, rfl, q.1, k F _ H _ μ (Step.refl s) (.str _) q.2⟩⟩
def gAddL : G2 := fun x y μ R => ∃ xs ys, lstOf μ x = some xs ∧ lstOf μ y = some ys ∧ xs.length + ys.length ≤ sizeLine ∧ R (.lst (xs ++ ys)) μ
theorem o_addL : OpL X Z (binaryOp .Add) gAddL := ⟨_, op_cat, fun F H μ x y vx vy R Q s rx ry q k => by
  obtain ⟨xs, ys, ex, ey, hz, q⟩ := q
  obtain ⟨p, vs, rfl, e1, r1⟩ := lst_of s rx ex
  obtain ⟨p2, us, rfl, e2, r2⟩ := lst_of s ry ey
  refine ⟨p, p2, vs, us, rfl, rfl, e1, e2, by rw [← r1.length, ← r2.length]; exact hz, fun l hl => ?_⟩
  have g := s.frzS (o := .lst (vs ++ us)) hl
  exact k _ _ _ _ μ g (.lst (.inr rfl) upd_same ((r1.append r2).st g)) q⟩
def gAddT : G2 := fun x y μ R => match x, y with
  | .tup xs, .tup ys => xs.length + ys.length ≤ sizeLine ∧ R (.tup (xs ++ ys)) μ
  | _, _ => False
theorem o_addT : OpL X Z (binaryOp .Add) gAddT := ⟨_, op_catA, fun F H μ x y vx vy R Q s rx ry q k => by
  cases rx <;> first | exact (show False from q).elim | skip
  rename_i xs vs a f1 e1 r1
  cases ry <;> first | exact (show False from q).elim | skip
  rename_i ys us b f2 e2 r2
  refine ⟨a, b, vs, us, rfl, rfl, SqT.of e1, SqT.of e2, by rw [← r1.length, ← r2.length]; exact q.1, fun z => ?_, fun _ z => ?_, fun _ _ p hp => ?_⟩
  · subst z
    cases r1
    exact k F _ H _ μ (Step.refl s) (.tup f2 e2 (by simpa using r2)) q.2
  · subst z
    cases r2
    exact k F _ H _ μ (Step.refl s) (.tup f1 e1 (by simpa using r1)) q.2
  · have g := s.frzS (o := .tup (vs ++ us)) hp
    exact k _ _ _ _ μ g (.tup (.inr rfl) upd_same ((r1.append r2).st g)) q.2⟩
theorem o_add : OpL X Z (binaryOp .Add) gAdd := (((o_addI.or o_addS).or o_addT).or o_addL).imp fun x y μ R h => by
  unfold gAdd at h
  split at h
  · exact .inl (.inl (.inl h))
  · exact .inl (.inl (.inr h))
  · exact .inl (.inr h)
  · exact .inr h
def eqS : D → D → Option Bool
  | .non, .non => some true
  | .non, .int _ => some false | .int _, .non => some false | .non, .bl _ => some false | .bl _, .non => some false | .non, .str _ => some false | .str _, .non => some false
  | .int i, .int j => some (decide (i = j))
  | .bl i, .bl j => some (decide (i = j))
  | .str i, .str j => some (decide (i = j))
  | .int _, .str _ => some false | .str _, .int _ => some false | .bl _, .str _ => some false | .str _, .bl _ => some false
  | _, _ => none
theorem eqS_ok {K : Kn} {F : Addr → Prop} {H : Hp} {x y : D} {vx vy : V} {b : Bool} (rx : Rp K F H x vx) (ry : Rp K F H y vy) (h : eqS x y = some b) : scal vx vy = true ∧ decide (vx = vy) = b := by
  cases rx <;> cases ry <;> first | cases h | skip
  all_goals (refine ⟨rfl, ?_⟩; simp)
def gEqS : G2 := fun x y μ R => match eqS x y with
  | some b => R (.bl b) μ
  | none => False
def gNeS : G2 := fun x y μ R => match eqS x y with
  | some b => R (.bl (!b)) μ
  | none => False
theorem o_eqS : OpL X Z (compareOp .Eq) gEqS := ⟨_, op_eq, fun F H μ x y vx vy R Q s rx ry q k => by
  unfold gEqS at q
  split at q
  · rename_i b e
    obtain ⟨h1, h2⟩ := eqS_ok rx ry e
    exact ⟨h1, by rw [h2]; exact k F _ H _ μ (Step.refl s) (.bl b) q⟩
  · exact q.elim⟩
theorem o_neS : OpL X Z (compareOp .NotEq) gNeS := ⟨_, op_ne, fun F H μ x y vx vy R Q s rx ry q k => by
  unfold gNeS at q
  split at q
  · rename_i b e
    obtain ⟨h1, h2⟩ := eqS_ok rx ry e
    exact ⟨h1, by rw [h2]; exact k F _ H _ μ (Step.refl s) (.bl (!b)) q⟩
  · exact q.elim⟩
def isNonD : D → Bool
  | .non => true
  | _ => false
def gIsN : G2 := fun x y μ R => match y with
  | .non => R (.bl (isNonD x)) μ
  | _ => False
def gNotN : G2 := fun x y μ R => match y with
  | .non => R (.bl (!isNonD x)) μ
  | _ => False
def gInS : G2 := fun x y μ R => match x, y with
  | .str a, .str z => ∃ c, a = ⟨#[c]⟩ ∧ R (.bl (decide (c ∈ z.cps.toList))) μ
  | _, _ => False
theorem o_inS : OpL X Z (compareOp .In) gInS := ⟨_, op_in_sign, fun F H μ x y vx vy R Q s rx ry q k => by
  cases rx <;> first | exact (show False from q).elim | skip
  cases ry <;> first | exact (show False from q).elim | skip
  obtain ⟨c, rfl, q⟩ := q
  exact ⟨c, _, rfl, rfl, k F _ H _ μ (Step.refl s) (.bl _) q⟩⟩
def flatD : D → Bool
  | .non => true | .bl _ => true | .int _ => true | .str _ => true
  | _ => false
def eqD : D → D → Bool
  | .non, .non => true
  | .bl a, .bl b => a == b
  | .bl a, .int b => (if a then 1 else 0) == b
  | .int a, .bl b => a == (if b then 1 else 0)
  | .int a, .int b => a == b
  | .str a, .str b => a == b
  | _, _ => false
def inD (x : D) (xs : List D) : Bool := xs.any fun y => eqD y x
theorem flat_ok {K : Kn} {F : Addr → Prop} {H : Hp} {x : D} {v : V} (r : Rp K F H x v) (h : flatD x = true) : flatV v = true := by
  cases r <;> first | rfl | cases h
theorem flats_ok {K : Kn} {F : Addr → Prop} {H : Hp} : ∀ {xs : List D} {vs : List V}, Rps K F H xs vs → xs.all flatD = true → vs.all flatV = true
  | _, _, .nil, _ => rfl
  | _, _, .cons r t, h => by
    rw [List.all_cons, Bool.and_eq_true] at h ⊢
    exact ⟨flat_ok r h.1, flats_ok t h.2⟩
theorem eqV_ok {K : Kn} {F : Addr → Prop} {H : Hp} {x y : D} {v u : V} (r : Rp K F H x v) (q : Rp K F H y u) (h : flatD x = true) (h' : flatD y = true) : eqV v u = eqD x y := by
  cases r <;> cases q <;> first | rfl | cases h | cases h'
theorem inV_ok {K : Kn} {F : Addr → Prop} {H : Hp} {x : D} {v : V} (r : Rp K F H x v) (h : flatD x = true) : ∀ {xs : List D} {vs : List V}, Rps K F H xs vs → xs.all flatD = true → inV v vs = inD x xs
  | _, _, .nil, _ => rfl
  | _, _, .cons q t, h' => by
    rw [List.all_cons, Bool.and_eq_true] at h'
    have ih := inV_ok r h t h'.2
    unfold inV inD at ih ⊢
    rw [List.any_cons, List.any_cons, eqV_ok q r h'.1 h, ih]
def gInL (neg : Bool) : G2 := fun x y μ R => match seqOf μ y with
  | some xs => flatD x = true ∧ xs.all flatD = true ∧ R (.bl (if neg then !inD x xs else inD x xs)) μ
  | none => False
theorem inL_ok {K : Kn} {Z : Zn K} {neg : Bool} {F : Addr → Prop} {H : Hp} {μ : Mu} {x y : D} {vx vy : V} {R : DK} {Q : VK} (s : Sim Z F H μ) (rx : Rp K F H x vx) (ry : Rp K F H y vy) (q : gInL neg x y μ R)
    (k : ∀ F' v H' z μ', Step Z F H μ F' H' μ' → Rp K F' H' z v → R z μ' → Q v H') : rIn K neg vx vy H Q := by
  unfold gInL at q
  split at q
  · rename_i xs e
    obtain ⟨p, vs, rfl, sq, rs⟩ := seq_of s ry e
    obtain ⟨h1, h2, q⟩ := q
    refine ⟨p, vs, rfl, sq, flat_ok rx h1, flats_ok rs h2, ?_⟩
    rw [inV_ok rx h1 rs h2]
    exact k F _ H _ μ (Step.refl s) (.bl _) q
  · exact q.elim
theorem o_inL : OpL X Z (compareOp .In) (gInL false) := ⟨_, op_in_seq, fun F H μ x y vx vy R Q s rx ry q k => inL_ok s rx ry q k⟩
variable {e a b o i v : Expr} {es : List Expr} {ta tb te to ti tv : TE3} {tr : TA3} {pos : Pos} {x : Str}
def gIx : G2 := fun x y μ R => match x, y with
  | .str z, .int i => ∃ c, z.length ≤ sizeLine ∧ atI z.cps.toList i = some c ∧ R (.str ⟨#[c]⟩) μ
  | x, .int i => ∃ xs d, seqOf μ x = some xs ∧ atI xs i = some d ∧ R d μ
  | _, _ => False
theorem atI_rel {K : Kn} {F : Addr → Prop} {H : Hp} {xs : List D} {vs : List V} {i : Int} {d : D} (r : Rps K F H xs vs) (h : atI xs i = some d) : ∃ v, atI vs i = some v ∧ Rp K F H d v := by
  unfold atI at h ⊢
  rw [← r.length]
  cases e : ixN xs.length i with
  | none => rw [e] at h; cases h
  | some j => rw [e] at h; exact r.get h
theorem ix_ok {K : Kn} {Z : Zn K} : ∀ F H μ x y vx vy R Q, Sim Z F H μ → Rp K F H x vx → Rp K F H y vy → gIx x y μ R →
    (∀ F' v H' z μ', Step Z F H μ F' H' μ' → Rp K F' H' z v → R z μ' → Q v H') → rIx K vx vy H Q := by
  intro F H μ x y vx vy R Q s rx ry q k
  unfold gIx at q
  split at q
  · cases rx
    cases ry
    obtain ⟨c, h1, h2, q⟩ := q
    exact .inr (.inr ⟨_, _, c, rfl, rfl, h1, h2, k F _ H _ μ (Step.refl s) (.str _) q⟩)
  · cases ry
    obtain ⟨xs, d, e, h, q⟩ := q
    obtain ⟨p, vs, rfl, sq, rs⟩ := seq_of s rx e
    obtain ⟨v, e2, r2⟩ := atI_rel rs h
    rcases sq with sq | sq
    · exact .inl ⟨p, vs, _, v, rfl, rfl, sq, e2, k F _ H _ μ (Step.refl s) r2 q⟩
    · exact .inr (.inl ⟨p, vs, _, v, rfl, rfl, sq, e2, k F _ H _ μ (Step.refl s) r2 q⟩)
  · exact q.elim
abbrev TO3 := St3 → Mu → (Option Int → Mu → Prop) → Prop
theorem _root_.L2.PO.imp {X : Cx} {e : Option Expr} {t t' : TO} (h : PO X e t) (i : ∀ σ H Q, t' σ H Q → t σ H Q) : PO X e t' := ⟨fun pins s σ H Q I q => h.run pins s σ H Q I (i _ _ _ q)⟩
def vNoP : TO3 := fun _ μ R => R none μ
def vPart (t : TE3) : TO3 := fun δ μ R => t δ μ fun x μ1 => match x with
  | .int i => R (some i) μ1
  | _ => False
def cutD (xs : List D) (lo hi : Option Int) : List D := (xs.drop (HT.sIx xs.length 0 lo)).take (HT.sIx xs.length xs.length hi - HT.sIx xs.length 0 lo)
def gSl : D → Option Int → Option Int → Mu → DK → Prop := fun x lo hi μ R => match x with
  | .str z => z.length ≤ sizeLine ∧ R (.str (cutS z lo hi)) μ
  | .tup xs => if HT.sIx xs.length 0 lo = 0 ∧ HT.sIx xs.length xs.length hi = xs.length then False else R (.tup (cutD xs lo hi)) μ
  | x => ∃ xs, rdL μ x = some xs ∧ R (.lst (cutD xs lo hi)) μ
def vSl (te : TE3) (tl th : TO3) : TE3 := fun δ μ R => te δ μ fun x μ1 => tl δ μ1 fun l μ2 => th δ μ2 fun h μ3 => gSl x l h μ3 R
end
end L3
namespace L3
open PySem PySem.Spec L2
section
variable {X : Cx} {Z : Zn X.kn} {e a b c o i v : Expr} {es : List Expr} {ta tb tc te to ti tv : TE3} {tr : TA3} {pos p apos cpos : Pos} {x : Str}
def gLen : GA := fun ds μ R => match ds with
  | [.str z] => z.length ≤ sizeLine ∧ R (.int z.length) μ
  | [x] => ∃ xs, seqOf μ x = some xs ∧ R (.int xs.length) μ
  | _ => False
theorem c_len : CallL X Z (.builtin "len") gLen := ⟨_, call_len, fun F H μ ds vs R Q s rs q k => by
  cases rs with
  | nil => exact (show False from q).elim
  | @cons d v ds vs r t =>
    cases t with
    | cons _ _ => cases d <;> exact (show False from q).elim
    | nil =>
      refine ⟨v, ?_⟩
      cases r with
      | str z => exact ⟨_, rfl, ⟨q.1, rfl⟩, k F _ H _ μ (Step.refl s) (.int _) q.2⟩
      | lst f e rr =>
        obtain ⟨xs, e1, q⟩ := q
        cases e1
        exact ⟨_, rfl, .inl ⟨_, SqL.of e, rfl⟩, k F _ H _ μ (Step.refl s) (by rw [rr.length]; exact .int _) q⟩
      | scr f rr =>
        obtain ⟨xs, e1, q⟩ := q
        cases e1
        exact ⟨_, rfl, .inl ⟨_, f.sq, rfl⟩, k F _ H _ μ (Step.refl s) (by rw [rr.length]; exact .int _) q⟩
      | tup f e rr =>
        obtain ⟨xs, e1, q⟩ := q
        cases e1
        exact ⟨_, rfl, .inr ⟨_, SqT.of e, rfl⟩, k F _ H _ μ (Step.refl s) (by rw [rr.length]; exact .int _) q⟩
      | etp p i t =>
        obtain ⟨xs, e1, q⟩ := q
        cases e1
        exact ⟨_, rfl, .inr ⟨[], .inr t, rfl⟩, k F _ H _ μ (Step.refl s) (.int _) q⟩
      | ref a =>
        obtain ⟨xs, e1, q⟩ := q
        obtain ⟨p, vs, e2, sq, rr⟩ := seq_of (x := .ref a) s (.ref a) e1
        cases e2
        refine ⟨xs.length, rfl, ?_, k F _ H _ μ (Step.refl s) (.int _) q⟩
        rcases sq with sq | sq
        · exact .inl ⟨vs, sq, rr.length⟩
        · exact .inr ⟨vs, sq, rr.length⟩
      | _ => obtain ⟨xs, e1, q⟩ := q; cases e1⟩
def tyD (μ : Mu) : D → Option String
  | .non => some "NoneType" | .bl _ => some "bool" | .int _ => some "int" | .str _ => some "str"
  | .tup _ => some "tuple" | .lst _ => some "list" | .dct _ => some "dict" | .etp _ _ => some "tuple"
  | .ref a => match μ a with
    | some (.lst _) => some "list"
    | some (.dct _) => some "dict"
    | _ => none
  | _ => none
theorem tyD_ok {K : Kn} {Z : Zn K} {F : Addr → Prop} {H : Hp} {μ : Mu} {x : D} {v : V} {n : String} (s : Sim Z F H μ) (r : Rp K F H x v) (h : tyD μ x = some n) : TyX K H v (.type n) := by
  cases r with
  | non => cases h; exact .base .non
  | bl b => cases h; exact .base (.bl b)
  | int i => cases h; exact .base (.int i)
  | str z => cases h; exact .base (.str z)
  | tup f e rs => cases h; exact .base (.tup e)
  | etp p i t => cases h; obtain ⟨o, its, m, lk, c, _⟩ := t; exact .kTuple lk c
  | lst f e rs => cases h; exact .base (.lst e)
  | dct f e rs =>
    cases h
    rcases e with e | ⟨o, e⟩
    · exact .base (.dK e)
    · exact .fDict e
  | ref a =>
    have h' : (match μ a with
      | some (.lst _) => some "list"
      | some (.dct _) => some "dict"
      | _ => none) = some n := h
    split at h'
    · rename_i xs e2
      cases h'
      obtain ⟨_, vs, e3, rs⟩ := s.obj _ _ e2
      exact .base (.lst e3)
    · rename_i xs e2
      cases h'
      obtain ⟨_, vs, e3, rs⟩ := s.obj _ _ e2
      exact .base (.dK e3)
    · cases h'
  | _ => cases h
def gIsi : GA := fun ds μ R => match ds with
  | [x, .ty m] => ∃ n b, tyD μ x = some n ∧ kitB n m = some b ∧ R (.bl b) μ
  | _ => False
theorem c_isi : CallL X Z (.builtin "isinstance") gIsi := ⟨_, call_isi, fun F H μ ds vs R Q s rs q k => by
  unfold gIsi at q
  split at q
  · rename_i x m
    obtain ⟨n, b, e1, e2, q⟩ := q
    cases rs with
    | cons r1 t =>
      cases t with
      | cons r2 t =>
        cases t
        cases r2
        exact ⟨_, _, .type n, .type m, b, rfl, .ty m, tyD_ok s r1 e1, kit_ty e2, k F _ H _ μ (Step.refl s) (.bl b) q⟩
  · exact q.elim⟩
def gMax2 : GA := fun ds μ R => match ds with
  | [.int i, .int j] => R (.int (max i j)) μ
  | _ => False
def gMin2 : GA := fun ds μ R => match ds with
  | [.int i, .int j] => R (.int (min i j)) μ
  | _ => False
theorem c_max2 (hc : X.calm = true) : CallL X Z (.builtin "max") gMax2 := ⟨_, call_max2 hc, fun F H μ ds vs R Q s rs q k => by
  unfold gMax2 at q
  split at q
  · rename_i i j
    cases rs with
    | cons r1 t => cases t with
      | cons r2 t =>
        cases t; cases r1; cases r2
        refine ⟨i, j, rfl, ?_⟩
        have e : (if j > i then j else i) = max i j := by split <;> omega
        rw [e]
        exact k F _ H _ μ (Step.refl s) (.int _) q
  · exact q.elim⟩
theorem c_min2 (hc : X.calm = true) : CallL X Z (.builtin "min") gMin2 := ⟨_, call_min2 hc, fun F H μ ds vs R Q s rs q k => by
  unfold gMin2 at q
  split at q
  · rename_i i j
    cases rs with
    | cons r1 t => cases t with
      | cons r2 t =>
        cases t; cases r1; cases r2
        refine ⟨i, j, rfl, ?_⟩
        have e : (if j < i then j else i) = min i j := by split <;> omega
        rw [e]
        exact k F _ H _ μ (Step.refl s) (.int _) q
  · exact q.elim⟩
theorem one_of {K : Kn} {F : Addr → Prop} {H : Hp} {x : D} {vs : List V} (h : Rps K F H [x] vs) : ∃ v, vs = [v] ∧ Rp K F H x v := by
  cases h with
  | cons r t => cases t; exact ⟨_, rfl, r⟩
abbrev GM := D → List D → Mu → DK → Prop
def MtL (X : Cx) (Z : Zn X.kn) (id : String) (T : String) (G : GM) : Prop := ∃ r, MtR X id r ∧ ∀ F H μ x ds vx vs R Q, Sim Z F H μ → Rp X.kn F H x vx → Rps X.kn F H ds vs → G x ds μ R →
  (∀ F' v H' z μ', Step Z F H μ F' H' μ' → Rp X.kn F' H' z v → R z μ' → Q v H') → r vx vs H Q
def tyM (T : String) (μ : Mu) (x : D) : Prop := match x with
  | .str _ => T = "str"
  | .lst _ => T = "list"
  | .scr _ => T = "list"
  | .ref a => (T = "list" ∧ ∃ xs, μ a = some (.lst xs)) ∨ (T = "dict" ∧ ∃ kvs, μ a = some (.dct kvs))
  | _ => False
theorem tyM_ok {K : Kn} {Z : Zn K} {F : Addr → Prop} {H : Hp} {μ : Mu} {x : D} {v : V} {T : String} (s : Sim Z F H μ) (r : Rp K F H x v) (h : tyM T μ x) : tyV K T v H := by
  cases r with
  | str z => exact h
  | lst f e rs => exact .inl ⟨h, _, SqL.of e⟩
  | scr f rs => exact .inl ⟨h, _, f.sq⟩
  | ref a =>
    rcases h with ⟨e, xs, h⟩ | ⟨e, xs, h⟩
    · obtain ⟨_, vs, e3, rs⟩ := s.obj _ _ h
      exact .inl ⟨e, _, SqL.of e3⟩
    · obtain ⟨_, vs, e3, rs⟩ := s.obj _ _ h
      exact .inr (.inr (.inl ⟨e, .inl ⟨_, e3⟩⟩))
  | _ => exact (show False from h).elim
def vBM0 (T : String) (G : GM) (to : TE3) : TE3 := fun δ μ R => to δ μ fun x μ1 => tyM T μ1 x ∧ G x [] μ1 R
def vBM (T : String) (G : GM) (to : TE3) (tr : TA3) : TE3 := fun δ μ R => to δ μ fun x μ1 => tyM T μ1 x ∧ tr δ μ1 fun ds μ2 => G x ds μ2 R
theorem e_bm {name : Str} {T id : String} {G : GM} (pa : PlainAttrs T) (slot : Slot T name id) (hty : typeOf (.builtin id) = pure (.type "method_descriptor")) (hm : MtL X Z id T G) (ho : E3 X Z o to) (ha : A3 X Z (e :: es) tr)
    (hbase : attributeBase o name X.env (eval o X.env) = eval o X.env := by rfl)
    (hfew : ((backTo cpos (starEach (e :: es) X.env)).all (fun x => !x.1) && (backToKw cpos (keywordEach [] X.env)).all (fun x => x.1.isSome)
      && decide ((e :: es).length + ([] : List Keyword).length + (if ([] : List Keyword).isEmpty then 0 else 1) < 30)) = true := by rfl)
    (hline : (apos.endLine == cpos.line) = true := by rfl) (hs : starEach (e :: es) X.env = (false, eval e X.env) :: starEach es X.env := by rfl) (hplain : (backTo cpos (starEach es X.env)).any (·.1) = false := by rfl) :
    E3 X Z (.Call (.Attribute o name apos) (e :: es) [] cpos) (vBM T G to tr) := by
  obtain ⟨r, hr, l⟩ := hm
  refine (pe_bm pa slot hty hr ho ha hbase hfew hline hs hplain).imp fun σ H Q h => ?_
  obtain ⟨F, δ, μ, R, s, sl, h, k⟩ := h
  exact ⟨F, δ, μ, _, s, sl, h, fun F1 v H1 d μ1 g r1 q1 => ⟨tyM_ok g.sim r1 q1.1, F1, δ, μ1, _, g.sim, sl.st g, q1.2, fun F2 vs H2 ds μ2 g2 r2 q2 => l F2 H2 μ2 d ds v vs R Q g2.sim (r1.st g2) r2 q2 fun F3 v H3 d μ3 g3 r3 q3 => k F3 v H3 d μ3 ((g.trans g2).trans g3) r3 q3⟩⟩
def gApp : GM := fun x ds μ R => ∃ a xs d, x = .ref a ∧ ds = [d] ∧ μ a = some (.lst xs) ∧ xs.length < sizeLine ∧ R .non (mset μ a (.lst (xs ++ [d])))
theorem m_append : MtL X Z "list.append" "list" gApp := ⟨_, mt_append, fun F H μ x ds vx vs R Q s rx rs q k => by
  obtain ⟨a, xs, d, rfl, rfl, e, hz, q⟩ := q
  obtain ⟨v, rfl, r⟩ := one_of rs
  cases rx
  obtain ⟨_, us, e3, rr⟩ := s.obj _ _ e
  refine ⟨a, us, v, rfl, rfl, e3, by rw [← rr.length]; exact hz, ?_⟩
  have g := s.putS (o := .lst (us ++ [v])) (m := .lst (xs ++ [d])) e fun g' e' => ⟨_, e', (rr.grow g').append (.cons (r.grow g') .nil)⟩
  exact k _ _ _ _ _ g .non q⟩
def StL (X : Cx) (Z : Zn X.kn) (G : D → D → D → Mu → (Mu → Prop) → Prop) : Prop := ∃ t, PSet X t ∧ ∀ F H μ o i v vo vi vv R Q, Sim Z F H μ → Rp X.kn F H o vo → Rp X.kn F H i vi → Rp X.kn F H v vv → G o i v μ R →
  (∀ F' H' μ', Step Z F H μ F' H' μ' → R μ' → Q H') → t vo vi vv H Q
def sSub (G : D → D → D → Mu → (Mu → Prop) → Prop) (te to ti : TE3) : TS3 := fun D δ μ => te δ μ fun v μ1 => to δ μ1 fun o μ2 => ti δ μ2 fun i μ3 => G o i v μ3 fun μ4 => D.nx δ μ4
theorem s_sub {G : D → D → D → Mu → (Mu → Prop) → Prop} {pos' : Pos} (hS : StL X Z G) (he : E3 X Z e te) (ho : E3 X Z o to) (hi : E3 X Z i ti)
    (ha : ∀ v, assign (.Subscript o i pos') X.env v = (do
      let ov ← holding [v] (eval o X.env)
      let iv ← holding [v, ov] (eval i X.env)
      standAt pos'
      holding [v, ov, iv] (setItem ov iv v)
      release [v, ov, iv] []) := by intro _; rfl)
    (hs : swapsWithSole [.Subscript o i pos'] e pos.line X.env = pure false := by rfl) (hw : swappedStores [.Subscript o i pos'] e X.env = pure none := by rfl)
    (h1 : (assignEach [.Subscript o i pos'] X.env).map (·.2) = [assign (.Subscript o i pos') X.env] := by rfl) : S3 X Z (.Assign [.Subscript o i pos'] e pos) (sSub G te to ti) := by
  obtain ⟨t, ht, l⟩ := hS
  refine (ps_asg he (pg_sub ho hi ht ha) hs hw h1).imp fun D σ H h => ?_
  obtain ⟨F, δ, μ, D3, s, sl, h, k⟩ := h
  refine ⟨F, δ, μ, _, s, sl, h, fun F1 v H1 d μ1 g r1 q1 => ?_⟩
  refine ⟨F1, δ, μ1, _, g.sim, sl.st g, q1, fun F2 ov H2 od μ2 g2 r2 q2 => ?_⟩
  refine ⟨F2, δ, μ2, _, g2.sim, sl.st (g.trans g2), q2, fun F3 iv H3 id μ3 g3 r3 q3 => ?_⟩
  exact l F3 H3 μ3 od id d ov iv v _ _ g3.sim (r2.st g3) r3 (r1.st (g2.trans g3)) q3 fun F4 H4 μ4 g4 q4 => k.nx F4 σ H4 δ μ4 (((g.trans g2).trans g3).trans g4) (sl.st (((g.trans g2).trans g3).trans g4)) q4
theorem lst_at {K : Kn} {Z : Zn K} {F F1 : Addr → Prop} {H H1 : Hp} {μ μ1 : Mu} {a : Addr} {ds : List D} (r : Rp K F H (.lst ds) (.ref a)) (g : Step Z F H μ F1 H1 μ1) : ∃ vs, SqL K H1 a vs ∧ Rps K F1 H1 ds vs := by
  have r' := r.st g
  cases r' with
  | lst f e rs => exact ⟨_, SqL.of e, rs⟩
theorem scr_at {K : Kn} {Z : Zn K} {F F1 : Addr → Prop} {H H1 : Hp} {μ μ1 : Mu} {a : Addr} {ds : List D} (r : Rp K F H (.scr ds) (.ref a)) (g : Step Z F H μ F1 H1 μ1) : ∃ vs, SqL K H1 a vs ∧ Rps K F1 H1 ds vs := by
  have r' := r.st g
  cases r' with
  | scr f rs => exact ⟨_, f.sq, rs⟩
def rgD (lo : Int) (n : Nat) : List D := (List.range n).map fun i => .int (lo + (i : Nat))
theorem itr_ok {K : Kn} {Z : Zn K} {F : Addr → Prop} {H : Hp} {μ : Mu} {lo : Int} {n : Nat} : ItOk Z F H μ (rgD lo n) (fun _ => True) (Itr lo n) := by
  have hl : (rgD lo n).length = n := by simp [rgD]
  refine ⟨fun F1 H1 μ1 i g hp hi => by rw [hl] at hi; exact hi, fun F1 H1 μ1 g hp => by rw [hl]; exact Nat.le_refl _, fun F1 H1 μ1 i x H2 g hp hy hi => ?_⟩
  obtain ⟨rfl, rfl⟩ := hy
  rw [hl] at hi
  exact ⟨F1, .int (lo + i), Step.refl g.sim, by simp [rgD, hi], .int _⟩
def iRg1 (ta : TA3) : TI3 := fun δ μ R => ta δ μ fun ds μ1 => match ds with
  | [.int j] => -(2 ^ 62) ≤ j ∧ j < 2 ^ 62 ∧ R (rgD 0 j.toNat) (fun _ => True) μ1
  | _ => False
theorem i_range1 {tg : Expr} (hm : X.mg "range" = none) (ha : A3 X Z [a] tr) (hg : Gl X "range" := by rfl) (hs : starEach [a] X.env = [(false, eval a X.env)] := by rfl) : I3 X Z tg (.Call (.Name "range" p) [a] [] pos) (iRg1 tr) := (pi_range1 hg hm ha hs).imp fun σ H R3 h => by
  obtain ⟨F, δ, μ, R, s, sl, h, k⟩ := h
  refine ⟨F, δ, μ, _, s, sl, h, fun F1 vs H1 ds μ1 g r1 q1 => ?_⟩
  split at q1
  · rename_i j
    obtain ⟨v, rfl, r⟩ := one_of r1
    cases r
    exact ⟨j, rfl, q1.1, q1.2.1, k F1 H1 _ _ μ1 _ g itr_ok q1.2.2⟩
  · exact q1.elim
def iRg2 (ta : TA3) : TI3 := fun δ μ R => ta δ μ fun ds μ1 => match ds with
  | [.int i, .int j] => (-(2 ^ 62) ≤ i ∧ i < 2 ^ 62 ∧ -(2 ^ 62) ≤ j ∧ j < 2 ^ 62) ∧ R (rgD i (j - i).toNat) (fun _ => True) μ1
  | _ => False
def signsD (z : Str) : List D := z.cps.toList.map fun c => .str ⟨#[c]⟩
theorem tg_name {K : Kn} (i : Nat) : TgL K (gName i) (gN i) [i] := ⟨fun F H σ δ δ' d v Q sl r e k => by
    cases e
    exact k _ (fun ws h => wipe_set_mem σ (some v) ws i (h i List.mem_cons_self)) (sl.set i r)⟩
def vDict0 : TE3 := fun _ μ R => R (.dct []) μ
def vDict0T : TE3 := fun _ μ R => ∀ q, μ q = none → R (.ref q) (mset μ q (.dct []))
theorem e_dict0T : E3 X Z (.Dict [] [] pos) vDict0T := pe_dnewK.imp fun σ H Q h => by
  obtain ⟨F, δ, μ, R, s, sl, h, k⟩ := h
  intro p hp
  have g := s.trkS (o := .dK []) (m := .dct []) hp fun g' e => ⟨[], e, .nil⟩
  exact k _ _ _ _ _ g (.ref p) (h p (s.free hp))
end
end L3
namespace L3
open PySem PySem.Spec L2
def valD (kvs : List (Key × D)) (k : Key) : Option D := (kvs.find? fun kv => decide (kv.1 = k)).map (·.2)
def putD (kvs : List (Key × D)) (k : Key) (v : D) : List (Key × D) :=
  if (kvs.any fun kv => decide (kv.1 = k)) = true then kvs.map (fun kv => if kv.1 = k then (kv.1, v) else kv) else kvs ++ [(k, v)]
def mergeD (kvs more : List (Key × D)) : List (Key × D) := more.foldl (fun acc kv => putD acc kv.1 kv.2) kvs
def keyOf : D → Option Key
  | .int i => some (.inl i)
  | .str x => some (.inr x)
  | _ => none
section
variable {K : Kn} {F : Addr → Prop} {H : Hp}
theorem keyOf_ok {x : D} {v : V} {k : Key} (r : Rp K F H x v) (h : keyOf x = some k) : v = kV k := by
  cases r <;> cases h <;> rfl
theorem Rpk.length : ∀ {ds : List (Key × D)} {vs : List (Key × V)}, Rpk K F H ds vs → ds.length = vs.length
  | _, _, .nil => rfl
  | _, _, .cons _ t => by rw [List.length_cons, List.length_cons, Rpk.length t]
theorem Rpk.val {k : Key} : ∀ {ds : List (Key × D)} {vs : List (Key × V)}, Rpk K F H ds vs → (∀ d, valD ds k = some d → ∃ v, valV vs k = some v ∧ Rp K F H d v) ∧ (valD ds k = none → valV vs k = none)
  | _, _, .nil => ⟨fun d h => (by cases h), fun _ => rfl⟩
  | _, _, .cons (k := k') (d := d') (v := v') (ds := ds') (vs := vs') r t => by
    have ih := Rpk.val (k := k) t
    by_cases e : k' = k
    · have e1 : valD ((k', d') :: ds') k = some d' := by simp [valD, List.find?_cons, e]
      have e2 : valV ((k', v') :: vs') k = some v' := valV_pos (p := (k', v')) e
      rw [e1, e2]
      exact ⟨fun d h => (by cases h; exact ⟨v', rfl, r⟩), fun h => (by cases h)⟩
    · have e1 : valD ((k', d') :: ds') k = valD ds' k := by simp [valD, List.find?_cons, e]
      have e2 : valV ((k', v') :: vs') k = valV vs' k := valV_neg (p := (k', v')) e
      rw [e1, e2]
      exact ih
theorem Rpk.keys : ∀ {ds : List (Key × D)} {vs : List (Key × V)}, Rpk K F H ds vs → ds.map (·.1) = vs.map (·.1)
  | _, _, .nil => rfl
  | _, _, .cons r t => by rw [List.map_cons, List.map_cons, Rpk.keys t]
theorem Rpk.append : ∀ {ds es : List (Key × D)} {vs us : List (Key × V)}, Rpk K F H ds vs → Rpk K F H es us → Rpk K F H (ds ++ es) (vs ++ us)
  | _, _, _, _, .nil, s => s
  | _, _, _, _, .cons h r, s => .cons h (Rpk.append r s)
theorem Rpk.upd {k : Key} {d : D} {v : V} (h : Rp K F H d v) : ∀ {ds : List (Key × D)} {vs : List (Key × V)}, Rpk K F H ds vs → Rpk K F H (ds.map fun kv => if kv.1 = k then (kv.1, d) else kv) (vs.map fun kv => if kv.1 = k then (kv.1, v) else kv)
  | _, _, .nil => .nil
  | _, _, .cons (k := k') r t => by
    rw [List.map_cons, List.map_cons]
    by_cases e : k' = k
    · simp only [e, if_true]
      exact .cons h (Rpk.upd h t)
    · simp only [e, if_false]
      exact .cons r (Rpk.upd h t)
theorem Rpk.has {k : Key} : ∀ {ds : List (Key × D)} {vs : List (Key × V)}, Rpk K F H ds vs → (ds.any fun kv => decide (kv.1 = k)) = (vs.any fun kv => decide (kv.1 = k))
  | _, _, .nil => rfl
  | _, _, .cons r t => by rw [List.any_cons, List.any_cons, Rpk.has t]
theorem Rpk.put {k : Key} {d : D} {v : V} {ds : List (Key × D)} {vs : List (Key × V)} (r : Rpk K F H ds vs) (h : Rp K F H d v) : Rpk K F H (putD ds k d) (putK vs k v) := by
  unfold putD putK
  rw [r.has]
  split
  · exact r.upd h
  · exact r.append (.cons h .nil)
theorem Rpk.merge : ∀ {es : List (Key × D)} {us : List (Key × V)} {ds : List (Key × D)} {vs : List (Key × V)}, Rpk K F H es us → Rpk K F H ds vs → Rpk K F H (mergeD ds es) (mergeK vs us)
  | _, _, _, _, .nil, r => r
  | _, _, _, _, .cons (k := k) h t, r => by
    have z := Rpk.merge t (r.put (k := k) h)
    exact z
end
def dctOf (μ : Mu) : D → Option (List (Key × D))
  | .dct kvs => some kvs
  | .ref a => match μ a with
    | some (.dct kvs) => some kvs
    | _ => none
  | _ => none
theorem dct_of {K : Kn} {Z : Zn K} {F : Addr → Prop} {H : Hp} {μ : Mu} {x : D} {v : V} {xs : List (Key × D)} (s : Sim Z F H μ) (r : Rp K F H x v) (h : dctOf μ x = some xs) : ∃ p vs, v = .ref p ∧ Rd H p (.dK vs) ∧ Rpk K F H xs vs := by
  cases r with
  | dct f e rs => cases h; exact ⟨_, _, rfl, e, rs⟩
  | ref a =>
    have h' : (match μ a with
      | some (.dct xs) => some xs
      | _ => none) = some xs := h
    split at h'
    · rename_i ys e2
      cases h'
      obtain ⟨_, vs, e3, rs⟩ := s.obj _ _ e2
      exact ⟨_, vs, rfl, .inl e3, rs⟩
    · cases h'
  | _ => cases h
section
variable {X : Cx} {Z : Zn X.kn} {e a b c o i v kx : Expr} {es : List Expr} {ta tb tc te to ti tv tk : TE3} {tr : TA3} {pos p apos cpos : Pos} {x : Str}
def vPairs : List (TE3 × TE3) → St3 → Mu → (List (D × D) → Mu → Prop) → Prop
  | [], _, μ, R => R [] μ
  | (tk, tv) :: r, δ, μ, R => tk δ μ fun x μ1 => tv δ μ1 fun y μ2 => vPairs r δ μ2 fun ps μ3 => R ((x, y) :: ps) μ3
def keysOf : List (D × D) → Option (List (Key × D))
  | [] => some []
  | (k, d) :: r => match keyOf k, keysOf r with
    | some k', some r' => some ((k', d) :: r')
    | _, _ => none
def vDisp (trs : List (TE3 × TE3)) : TE3 := fun δ μ R => vPairs trs δ μ fun ps μ1 => ∃ kvs, keysOf ps = some kvs ∧ kvs.length ≤ 15 ∧ R (.dct (mergeD [] kvs)) μ1
def lowPs {K : Kn} (Z : Zn K) : List (TE3 × TE3) → List (TE × TE)
  | [] => []
  | (a, b) :: r => (low Z a, low Z b) :: lowPs Z r
def Ps3 (X : Cx) (Z : Zn X.kn) (pos : Pos) (keys : List (Option Expr)) (values : List Expr) (trs : List (TE3 × TE3)) : Prop := PPs X pos keys values (lowPs Z trs)
theorem ps3_nil : Ps3 X Z pos [] [] [] := pps_nil
theorem ps3_cons {ks : List (Option Expr)} {vs : List Expr} {trs : List (TE3 × TE3)} (hk : E3 X Z kx tk) (hv : E3 X Z v tv) (hr : Ps3 X Z pos ks vs trs) : Ps3 X Z pos (some kx :: ks) (v :: vs) ((tk, tv) :: trs) := pps_cons hk hv hr
inductive Rpp (K : Kn) (F : Addr → Prop) (H : Hp) : List (D × D) → List (V × V) → Prop
  | nil : Rpp K F H [] []
  | cons {d e : D} {v u : V} {ds : List (D × D)} {vs : List (V × V)} : Rp K F H d v → Rp K F H e u → Rpp K F H ds vs → Rpp K F H ((d, e) :: ds) ((v, u) :: vs)
theorem Rpp.keys {K : Kn} {F : Addr → Prop} {H : Hp} : ∀ {ds : List (D × D)} {vs : List (V × V)} {kvs : List (Key × D)}, Rpp K F H ds vs → keysOf ds = some kvs → ∃ ks, vs = ks.map (fun kv => (kV kv.1, kv.2)) ∧ Rpk K F H kvs ks
  | _, _, _, .nil, h => by cases h; exact ⟨[], rfl, .nil⟩
  | _, _, kvs, .cons (d := d) (ds := ds) r q t, h => by
    unfold keysOf at h
    split at h
    · rename_i k' r' e1 e2
      cases h
      obtain ⟨ks, rfl, rk⟩ := Rpp.keys t e2
      obtain rfl := keyOf_ok r e1
      exact ⟨(k', _) :: ks, rfl, .cons q rk⟩
    · cases h
theorem low_pairs {K : Kn} {Z : Zn K} {σ : L2.St} : ∀ {trs : List (TE3 × TE3)} {F : Addr → Prop} {H : Hp} {δ : St3} {μ : Mu} {R : List (D × D) → Mu → Prop} {Q : List (V × V) → Hp → Prop}, Sim Z F H μ → Sl K F H σ δ → vPairs trs δ μ R →
    (∀ F' vs H' ds μ', Step Z F H μ F' H' μ' → Rpp K F' H' ds vs → R ds μ' → Q vs H') → tPairs (lowPs Z trs) σ H Q
  | [], F, H, δ, μ, R, Q, s, sl, h, k => k F [] H [] μ (Step.refl s) .nil h
  | (a, b) :: r, F, H, δ, μ, R, Q, s, sl, h, k => by
    refine ⟨F, δ, μ, _, s, sl, h, fun F1 v H1 d μ1 g1 r1 q1 => ⟨F1, δ, μ1, _, g1.sim, sl.st g1, q1, fun F2 u H2 d2 μ2 g2 r2 q2 => ?_⟩⟩
    refine low_pairs g2.sim (sl.st (g1.trans g2)) q2 fun F3 vs H3 ds μ3 g3 r3 q3 => ?_
    exact k F3 _ H3 _ μ3 ((g1.trans g2).trans g3) (.cons (r1.st (g2.trans g3)) (r2.st g3) r3) q3
theorem e_disp {keys : List (Option Expr)} {values : List Expr} {trs : List (TE3 × TE3)} (h : Ps3 X Z pos keys values trs) (hall : keys.all (·.isSome) = true := by rfl) (hl : keys.length = values.length := by rfl) (h0 : keys ≠ [] := by simp) (h15 : keys.length ≤ 15 := by simp) :
    E3 X Z (.Dict keys values pos) (vDisp trs) := (pe_disp h hall hl h0 h15).imp fun σ H Q h => by
  obtain ⟨F, δ, μ, R, s, sl, h, k⟩ := h
  intro p hp
  have g := s.newS (o := .dK []) hp
  have nF : ¬ F p := fun f => by
    obtain ⟨u, hu⟩ := s.dom p f
    rw [hp] at hu
    cases hu
  refine low_pairs g.sim (sl.st g) h fun F1 vs H1 ds μ1 g1 r1 q1 => ?_
  obtain ⟨n1, e1, f1⟩ := g1.fm p _ upd_same (s.free hp) nF
  obtain ⟨kvs, ek, hz, q1⟩ := q1
  obtain ⟨ks, rfl, rk⟩ := r1.keys ek
  refine ⟨e1, ks, rfl, by rw [← rk.length]; exact hz, ?_⟩
  have nF1 : ¬ F1 p := f1
  have gg := (g.trans g1).priv (o := .dK (mergeK [] ks)) s hp nF1 n1
  have g2 := gg.shut (o := .dK (mergeK [] ks)) s hp n1 upd_same
  have gp := (g1.sim.raw.priv (o := .dK (mergeK [] ks)) nF1 n1).1
  have gq : Grow F1 (L2.upd H1 p (.dK (mergeK [] ks))) (fun a => F1 a ∨ a = p) (L2.upd H1 p (.dK (mergeK [] ks))) := ⟨fun _ h => .inl h, fun _ _ _ h => h, fun _ _ _ _ h => h⟩
  exact k _ _ _ _ μ1 g2 (.dct (.inr rfl) (.inl upd_same) (((Rpk.merge rk .nil).grow gp).grow gq)) q1
end
end L3
namespace L3
open PySem PySem.Spec L2
theorem for_ind {Pm : Mu → Prop} {g : TG3} {tb : TS3} {Z : Ends3} (W : List D → St3 → Mu → Prop) (h0 : ∀ δ μ, W [] δ μ → Pm μ ∧ Z.nx δ μ)
    (hs : ∀ d ds δ μ, W (d :: ds) δ μ → Pm μ ∧ ∃ δ', g d δ = some δ' ∧ ∀ N : St3 → Mu → Prop, (∀ δ' μ', W ds δ' μ' → N δ' μ') → tb { Z with nx := N, ct := N, bk := Z.nx } δ' μ) : ∀ ds δ μ, W ds δ μ → forW Pm g tb Z ds δ μ
  | [], δ, μ, w => h0 δ μ w
  | d :: ds, δ, μ, w => by
    obtain ⟨hP, δ', e, h⟩ := hs d ds δ μ w
    refine ⟨hP, ?_⟩
    rw [e]
    exact h _ fun δ2 μ2 w2 => for_ind W h0 hs ds δ2 μ2 w2
theorem for_rg {tb : TS3} {Z : Ends3} {i : Nat} {lo : Int} {n : Nat} (W : Nat → St3 → Mu → Prop) {δ : St3} {μ : Mu} (w0 : W 0 δ μ) (h0 : ∀ δ μ, W n δ μ → Z.nx δ μ)
    (hs : ∀ k δ μ, k < n → W k δ μ → ∀ N : St3 → Mu → Prop, (∀ δ' μ', W (k + 1) δ' μ' → N δ' μ') → tb { Z with nx := N, ct := N, bk := Z.nx } (δ.set i (some (.int (lo + (k : Nat))))) μ) : forW (fun _ => True) (gN i) tb Z (rgD lo n) δ μ := by
  refine for_ind (W := fun ds δ μ => ∃ k, k ≤ n ∧ ds = (rgD lo n).drop k ∧ W k δ μ) ?_ ?_ _ _ _ ⟨0, Nat.zero_le _, rfl, w0⟩
  · rintro δ μ ⟨k, hk, e, w⟩
    have hl : (rgD lo n).length = n := by simp [rgD]
    have : k = n := by
      have := congrArg List.length e
      rw [List.length_drop, hl] at this
      simp at this
      omega
    subst this
    exact ⟨trivial, h0 δ μ w⟩
  · rintro d ds δ μ ⟨k, hk, e, w⟩
    have hl : (rgD lo n).length = n := by simp [rgD]
    have hlt : k < n := by
      have := congrArg List.length e
      rw [List.length_drop, hl] at this
      simp at this
      omega
    rw [List.drop_eq_getElem_cons (by rw [hl]; exact hlt)] at e
    obtain ⟨e1, e2⟩ := List.cons.inj e
    have ed : d = .int (lo + (k : Nat)) := by rw [e1]; simp [rgD]
    subst ed
    exact ⟨trivial, _, rfl, fun N hN => hs k δ μ hlt w N fun δ' μ' w' => hN δ' μ' ⟨k + 1, hlt, e2, w'⟩⟩
theorem atI_of {α : Type} {xs : List α} {i : Int} {d : α} (h0 : 0 ≤ i) (h : xs[i.toNat]? = some d) : atI xs i = some d := by
  have hl : i.toNat < xs.length := (List.getElem?_eq_some_iff.mp h).1
  unfold atI ixN
  rw [if_pos h0, if_pos (by omega)]
  exact h
theorem endsOf_rt {R : DK} : (endsOf R).rt = fun d μ => fin R d μ := rfl
theorem endsOf_nx {R : DK} : (endsOf R).nx = fun _ μ => fin R .non μ := rfl
theorem gAdd_ii {i j : Int} {μ : Mu} {R : DK} : gAdd (.int i) (.int j) μ R = R (.int (i + j)) μ := rfl
theorem gAdd_ss {i j : Str} {μ : Mu} {R : DK} : gAdd (.str i) (.str j) μ R = (i.length + j.length ≤ sizeLine ∧ R (.str (i ++ j)) μ) := rfl
theorem gNeg_i {i : Int} {μ : Mu} {R : DK} : gNeg (.int i) μ R = R (.int (-i)) μ := rfl
theorem gMax2_ii {i j : Int} {μ : Mu} {R : DK} : gMax2 [.int i, .int j] μ R = R (.int (max i j)) μ := rfl
theorem gMin2_ii {i j : Int} {μ : Mu} {R : DK} : gMin2 [.int i, .int j] μ R = R (.int (min i j)) μ := rfl
theorem gLen_s {z : Str} {μ : Mu} {R : DK} : gLen [.str z] μ R = (z.length ≤ sizeLine ∧ R (.int z.length) μ) := rfl
theorem gLen_of {x : D} {xs : List D} {μ : Mu} {R : DK} (e : seqOf μ x = some xs) (h : R (.int xs.length) μ) : gLen [x] μ R := by
  cases x with
  | str z => cases e
  | _ => exact ⟨xs, e, h⟩
theorem gEqS_ii {i j : Int} {μ : Mu} {R : DK} : gEqS (.int i) (.int j) μ R = R (.bl (decide (i = j))) μ := rfl
theorem gEqS_ss {i j : Str} {μ : Mu} {R : DK} : gEqS (.str i) (.str j) μ R = R (.bl (decide (i = j))) μ := rfl
theorem gEqS_bb {i j : Bool} {μ : Mu} {R : DK} : gEqS (.bl i) (.bl j) μ R = R (.bl (decide (i = j))) μ := rfl
theorem gNeS_ii {i j : Int} {μ : Mu} {R : DK} : gNeS (.int i) (.int j) μ R = R (.bl (!decide (i = j))) μ := rfl
theorem gNeS_ss {i j : Str} {μ : Mu} {R : DK} : gNeS (.str i) (.str j) μ R = R (.bl (!decide (i = j))) μ := rfl
theorem gIsN_n {x : D} {μ : Mu} {R : DK} : gIsN x .non μ R = R (.bl (isNonD x)) μ := rfl
theorem gNotN_n {x : D} {μ : Mu} {R : DK} : gNotN x .non μ R = R (.bl (!isNonD x)) μ := rfl
theorem gSl_s {z : Str} {lo hi : Option Int} {μ : Mu} {R : DK} : gSl (.str z) lo hi μ R = (z.length ≤ sizeLine ∧ R (.str (cutS z lo hi)) μ) := rfl
theorem rps_ints {K : Kn} {F : Addr → Prop} {H : Hp} : ∀ ns : List Int, Rps K F H (ns.map D.int) (ns.map V.int)
  | [] => .nil
  | n :: r => .cons (.int n) (rps_ints r)
theorem enter_scr {K : Kn} {H : Hp} {a : Addr} {ns : List Int} {sp : Sp3} (hS : SqL K H a (ns.map V.int)) (h : sp [.scr (ns.map D.int)] (fun _ => none) (fun d _ => d = .bl true)) : lift K 1 sp [.ref a] H (fun v _ => v = .bl true) fun _ _ _ => False := by
  refine ⟨fun x => x = a ∧ Rd H a (.lst (ns.map V.int)), [.scr (ns.map D.int)], fun _ => none, fun d _ => d = .bl true, rfl, ⟨⟨fun x f => ?_, fun x o e => (by cases e)⟩, trivial⟩, .cons (.scr ?_ (rps_ints ns)) .nil, h, fun F' v H' d μ' _ r e => ?_⟩
  · obtain ⟨rfl, f | ⟨o, f⟩⟩ := f
    · exact ⟨_, f⟩
    · exact ⟨_, f⟩
  · rcases hS with r | r
    · exact .inl ⟨⟨rfl, r⟩, r⟩
    · exact .inr r
  · subst e
    cases r
    rfl
end L3
namespace L3
open PySem PySem.Spec PyProof.Rows L2
structure RoomG (k : Nat) (A : Around) : Prop where
  rm : Room k A
  gd : A.guards = some []
theorem RoomG.mono {j k : Nat} {A : Around} (r : RoomG k A) (h : j ≤ k) : RoomG j A := ⟨r.rm.mono h, r.gd⟩
structure FnG (P : Program) (w : World) (K : PySem.W.Frag) (mg : Str → Option Value) (base : Heap) (X0 : CXT) (k : Nat) (f : Addr) (fd : FuncData) (ps : List Str) (sp : Sp) : Prop where
  wide : ∀ xs H Q E, sp xs H Q E → xs.length = ps.length
  go : ∀ (A : Around) (fs : List Env) (s : Shared) (H : Hp) (args : Args) (us : List Value) (xs : List V) (Q : VK) (E : XK), RoomG k A → Env0 P w K mg base A fs s H → BindsTo s fd args (ps.zip us) →
    Vals xs us → sp xs H Q E → codeAny (model P w) A (.call (.ref f) args) (CR X0 fs P w H s Q E) s
theorem FnG.mono {P : Program} {w : World} {K : PySem.W.Frag} {mg : Str → Option Value} {base : Heap} {X0 : CXT} {j k : Nat} {f : Addr} {fd : FuncData} {ps : List Str} {sp : Sp} (F : FnG P w K mg base X0 j f fd ps sp) (h : j ≤ k) : FnG P w K mg base X0 k f fd ps sp :=
  ⟨F.wide, fun A fs s H args us xs Q E r => F.go A fs s H args us xs Q E (r.mono h)⟩
theorem fng_of {X0 : CXT} {P : Program} {w : World} {K : PySem.W.Frag} {mg : Str → Option Value} {base : Heap} {k : Nat} {f : Addr} {nm qual : Str} {pr : Arguments} {bd : List Stmt} {sc : Scope} {d1 d2 d3 d4 cdv ct oc : Value} {an od : Option Addr}
    {osl : Array (Option Value)} {N ps : List Str} {sp : Sp} (lk : K.lookup f = some ⟨oc, od, .func (PySem.W.fnOf nm qual pr bd sc d1 d2 d3 d4 an cdv ct), osl⟩) (cd : PySem.W.codeIn K cdv qual = true) (S : FnScope N ps sc)
    (wide : ∀ xs H Q E, sp xs H Q E → xs.length = ps.length)
    (hb : ∀ (A : Around) (fs : List Env) (s : Shared) (H : Hp) (xs : List V) (Q : VK) (E : XK), RoomG k (A.deeper (envOfC qual sc s.heap.objs.size f cdv)) → sp xs H Q E →
      ∃ t, PSs (cxOf X0 P w K mg base N qual sc f cdv A fs s H E) bd t ∧ t { nx := fun _ H1 => Q .non H1, rt := Q } (start N xs) H) :
    FnG P w K mg base X0 (k + 1) f (PySem.W.fnOf nm qual pr bd sc d1 d2 d3 d4 an cdv ct) ps sp := by
  refine ⟨wide, fun A fs s H args us xs Q E room e0 hbind rv hsp => ?_⟩
  have kept : ∀ b o, base.get? b = some o → s.heap.get? b = some o := fun b o e => (e0.bs b o e).1
  have KX : K.In s.heap := e0.mod.kin.keeps kept
  have noLim : s.heap.NoLimit := e0.mod.nolimit.keeps kept
  refine codeAny_call_function room.rm.depth (KX _ _ lk) rfl S.co S.gen rfl (PySem.W.codeRec_of KX cd) (hbind _ _ _ _ ?_)
  refine wpAny_newFunctionEnv_cells S.kind (fun y hy => ?_) fun env he s1 x => ?_
  · rcases S.par y.1 (List.of_mem_zip (show (y.1, y.2) ∈ _ from hy)).1 with q | q
    · exact .inl q
    · exact .inr ⟨q, PySem.W.cellsFrom_some _ _ _ (.inl q)⟩
  subst he
  refine ⟨noLim.keeps x.toInCall.keep, codeAny_func ?_⟩
  obtain ⟨t, ht, hq⟩ := hb A fs s H xs Q E ⟨room.rm.deeper _, room.gd⟩ hsp
  have I0 := inv_start (CX := X0) (E := E) S room.rm.hd e0 (wide _ _ _ _ hsp) rv x
  refine wpAny_mono (ht.run [] s1 (start N xs) H _ I0 hq) (fun fl s2 hs => ?_) fun _ _ hs => hs
  cases fl with
  | ret u => obtain ⟨v, σ2, H2, J, r2, q⟩ := hs; exact ⟨v, H2, J.os, J.bare, J.base, J.hok, r2, q⟩
  | next => obtain ⟨σ2, H2, J, q⟩ := hs; exact ⟨.non, H2, J.os, J.bare, J.base, J.hok, rfl, q⟩
  | brk => obtain ⟨_, _, _, q⟩ := hs; exact False.elim q
  | cont => obtain ⟨_, _, _, q⟩ := hs; exact False.elim q
section
variable {X : Cx} {Z : Zn X.kn} {X0 : CXT} {k : Nat} {f C : Addr} {fd : FuncData} {ps : List Str} {sp : Sp} {E : XK}
theorem run_g {pins : List (Addr × Obj)} {σ : L2.St} {H : Hp} {s : Shared} {Q : VK} {us as : List Value} {kw : List (Str × Value)} {xs : List V} (F : FnG X.prog X.w X.K X.mg X.base X0 k f fd ps sp) (hr : RoomG k X.A) (hx : Passes X0 X E)
    (I : Inv X pins σ H s) (hb : BindsTo s fd ⟨as, kw⟩ (ps.zip us)) (rv : Vals xs us) (h : sp xs H Q E) : wpAny (model X.prog X.w) X.A (call (.ref f) as kw) (EP X pins σ Q) X.xe s := by
  refine wpAny_call (codeAny_mono (F.go X.A X.stack s H _ us xs Q E hr I.env0 hb rv h) fun res s2 hq => ?_)
  match res, hq with
  | .error er, hq => exact hx pins σ H s er s2 I hq
  | .ok (.ret u), hq => exact I.after hq
end
end L3
namespace L3
open PySem PySem.Spec PyProof.Rows L2
structure BaseX (base : Heap) : Prop where
  nd : ∃ mc, base.Ns cStatics mc ∧ mc "sys.int_max_str_digits" = none
def scrH (K : PySem.W.Frag) (a : Addr) (us : List Value) (ns : List Int) : Hp := fun b => if b = a ∧ K.lookup a = none then some (.frz { cls := .type "list", data := .seq us.toArray } (.lst (ns.map V.int))) else none
theorem scrH_some {K : PySem.W.Frag} {a b : Addr} {us : List Value} {ns : List Int} {u : HO} (h : scrH K a us ns b = some u) : b = a ∧ K.lookup a = none ∧ u = .frz { cls := .type "list", data := .seq us.toArray } (.lst (ns.map V.int)) := by
  unfold scrH at h
  split at h
  · rename_i c
    cases h
    exact ⟨c.1, c.2, rfl⟩
  · cases h
theorem scrH_none {K : PySem.W.Frag} {a b : Addr} {us : List Value} {ns : List Int} (h : ¬ (b = a ∧ K.lookup a = none)) : scrH K a us ns b = none := if_neg h
section
variable {P : Program} {w : World} {K : PySem.W.Frag} {mg : Str → Option Value} {base : Heap}
structure Def3 (K : PySem.W.Frag) (x qual : Str) (st : Stmt) (dfl : List V) (kwd : List (Str × V)) (f : Addr) (fd : FuncData) : Prop where
  ex : ∃ (oc : Value) (od : Option Addr) (dV kV doc pm : Value) (an : Option Addr) (cdv ct : Value) (osl : Array (Option Value)),
    fd = PySem.W.fnOf x qual (defArgs st) (defBody st) (defScope st) dV kV doc pm an cdv ct ∧ K.lookup f = some ⟨oc, od, .func fd, osl⟩ ∧ PySem.W.codeIn K cdv qual = true ∧ DflV K dV dfl ∧ KwdV K kV kwd
  kp : PySem.W.keepIn K (.ref f) = true
theorem Def3.ok3 {x qual : Str} {st : Stmt} {dfl : List V} {kwd : List (Str × V)} {f : Addr} {fd : FuncData} {N ps : List Str} {k : Nat} {sp : Sp3} (F : Def3 K x qual st dfl kwd f fd) (S : FnScope N ps (defScope st))
    (hb : ∀ (cdv : Value) (A : Around) (fs : List Env) (s : Shared) (H : Hp) (E : XK), RoomG k (A.deeper (envOfC qual (defScope st) s.heap.objs.size f cdv)) →
      ∃ t, Ss3 (cxOf CX0 P w K mg base N qual (defScope st) f cdv A fs s H E).nox (Zn.top _) (defBody st) t ∧ ∀ ds μ R, ds.length = ps.length → sp ds μ R → t (endsOf R) (start3 N ds) μ) : FnG P w K mg base CX0 (k + 1) f fd ps (lift ⟨K, P, w⟩ ps.length sp) := by
  obtain ⟨oc, od, dV, kV, doc, pm, an, cdv, ct, osl, rfl, lk, cd, _⟩ := F.ex
  refine fng_of lk cd S (fun _ _ _ _ h => lift_len h) fun A fs s H xs Q E hr h => ?_
  obtain ⟨F', ds, μ, R, l, sm, r, hsp, kk⟩ := h
  obtain ⟨t, h1, h2⟩ := hb cdv A fs s H E hr
  exact ⟨_, PSs.nox h1, F', _, μ, _, sm, Sl.start r, h2 ds μ R l hsp, fin_ends kk⟩
inductive Src where
  | pos (i : Nat) | kw (i : Nat) | dfl (i : Nat)
def pick {α : Type} (z : α) (us ws ds : List α) : Src → α
  | .pos i => us.getD i z
  | .kw i => ws.getD i z
  | .dfl i => ds.getD i z
def picks {α : Type} (z : α) (os : List Src) (us ws ds : List α) : List α := os.map (pick z us ws ds)
structure Bd3 (K : PySem.W.Frag) (fd : FuncData) (ps : List Str) (n : Nat) (ks : List Str) (os : List Src) (dfl : List V) : Prop where
  len : os.length = ps.length
  to : ∃ ds : List Value, Vals dfl ds ∧ ∀ (s : Shared) (us ws : List Value), K.In s.heap → us.length = n → ws.length = ks.length → BindsTo s fd ⟨us, ks.zip ws⟩ (ps.zip (picks .none os us ws ds))
variable {x qual : Str} {st : Stmt} {f : Addr} {fd : FuncData} {ps : List Str} {dfl : List V} {kwd : List (Str × V)}
theorem Def3.bind0 (F : Def3 K x qual st [] kwd f fd) (n : Nat) (ks : List Str) (os : List Src) (hl : os.length = ps.length)
    (h : ∀ (kV doc pm : Value) (an : Option Addr) (cdv ct : Value) (us ws : List Value), us.length = n → ws.length = ks.length → bindArgs (PySem.W.fnOf x qual (defArgs st) (defBody st) (defScope st) .none kV doc pm an cdv ct) ⟨us, ks.zip ws⟩ = pure (ps.zip (picks .none os us ws []))) :
    Bd3 K fd ps n ks os [] := by
  obtain ⟨oc, od, dV, kV, doc, pm, an, cdv, ct, osl, rfl, lk, cd, hD, hK⟩ := F.ex
  rcases hD with ⟨_, rfl⟩ | ⟨e, _⟩
  · exact ⟨hl, [], .nil, fun s us ws X l1 l2 => .of_eq (h kV doc pm an cdv ct us ws l1 l2)⟩
  · exact absurd rfl e
end
section
variable {K : Kn} {F : Addr → Prop} {H : Hp}
theorem vals_getD {vs : List V} {us : List Value} (r : Vals vs us) (i : Nat) : RelV (vs.getD i .non) (us.getD i .none) := by
  rw [List.getD_eq_getElem?_getD, List.getD_eq_getElem?_getD]
  cases e : vs[i]? with
  | some v =>
    obtain ⟨u, e1, r1⟩ := r.get e
    rw [e1]
    exact r1
  | none =>
    have : us[i]? = none := by
      rw [List.getElem?_eq_none_iff] at e ⊢
      rw [← r.length]
      exact e
    rw [this]
    rfl
theorem vals_picks {vs zs dv : List V} {us ws ds : List Value} (r1 : Vals vs us) (r2 : Vals zs ws) (r3 : Vals dv ds) : ∀ os : List Src, Vals (picks .non os vs zs dv) (picks .none os us ws ds)
  | [] => .nil
  | o :: os => by
    refine .cons ?_ (vals_picks r1 r2 r3 os)
    cases o with
    | pos i => exact vals_getD r1 i
    | kw i => exact vals_getD r2 i
    | dfl i => exact vals_getD r3 i
theorem rps_getD {ds : List D} {vs : List V} (r : Rps K F H ds vs) (i : Nat) : Rp K F H (ds.getD i .non) (vs.getD i .non) := by
  rw [List.getD_eq_getElem?_getD, List.getD_eq_getElem?_getD]
  cases e : ds[i]? with
  | some d =>
    obtain ⟨v, e1, r1⟩ := r.get e
    rw [e1]
    exact r1
  | none =>
    have : vs[i]? = none := by
      rw [List.getElem?_eq_none_iff] at e ⊢
      rw [← r.length]
      exact e
    rw [this]
    exact .non
theorem rps_picks {ds zs fs : List D} {vs us ws : List V} (r1 : Rps K F H ds vs) (r2 : Rps K F H zs us) (r3 : Rps K F H fs ws) : ∀ os : List Src, Rps K F H (picks .non os ds zs fs) (picks .non os vs us ws)
  | [] => .nil
  | o :: os => by
    refine .cons ?_ (rps_picks r1 r2 r3 os)
    cases o with
    | pos i => exact rps_getD r1 i
    | kw i => exact rps_getD r2 i
    | dfl i => exact rps_getD r3 i
end
def flV (K : PySem.W.Frag) : D → V
  | .etp p i => .ref (He.dflAt p i K)
  | .bl b => .bl b
  | .int i => .int i
  | .str x => .str x
  | _ => .non
def dflD (K : PySem.W.Frag) (d : D) : Bool := flatD d || match d with
  | .etp p i => etpB K (He.dflAt p i K)
  | _ => false
theorem flV_ok {K : Kn} {F : Addr → Prop} {H : Hp} : ∀ {ds : List D}, ds.all (dflD K.K) = true → Rps K F H ds (ds.map (flV K.K))
  | [], _ => .nil
  | d :: ds, h => by
    rw [List.all_cons, Bool.and_eq_true] at h
    refine .cons ?_ (flV_ok h.2)
    cases d <;> first | exact .non | exact .bl _ | exact .int _ | exact .str _ | exact .etp _ _ (etpB_ok h.1) | cases h.1
end L3
namespace L3
open PySem PySem.Spec PyProof.Rows L2
mutual
inductive Sh (μ : Mu) : D → PyData → Prop
  | non : Sh μ .non .none
  | bl (b : Bool) : Sh μ (.bl b) (.bool b)
  | int (i : Int) : Sh μ (.int i) (.int i)
  | str (x : Str) : Sh μ (.str x) (.str x)
  | lst {xs : List D} {ps : List PyData} : Shs μ xs ps → Sh μ (.lst xs) (.list ps)
  | scr {xs : List D} {ps : List PyData} : Shs μ xs ps → Sh μ (.scr xs) (.list ps)
  | tup {xs : List D} {ps : List PyData} : Shs μ xs ps → Sh μ (.tup xs) (.tuple ps)
  | ref {a : Addr} {xs : List D} {ps : List PyData} : μ a = some (.lst xs) → Shs μ xs ps → Sh μ (.ref a) (.list ps)
inductive Shs (μ : Mu) : List D → List PyData → Prop
  | nil : Shs μ [] []
  | cons {x : D} {xs : List D} {p : PyData} {ps : List PyData} : Sh μ x p → Shs μ xs ps → Shs μ (x :: xs) (p :: ps)
end
mutual
theorem Sh.dp {K : Kn} {Z : Zn K} {F : Addr → Prop} {H : Hp} {μ : Mu} (s : Sim Z F H μ) {d : D} {p : PyData} {v : V} : Sh μ d p → Rp K F H d v → Dp K H v p
  | .non, r => by cases r; exact .non
  | .bl b, r => by cases r; exact .bl b
  | .int i, r => by cases r; exact .int i
  | .str x, r => by cases r; exact .str x
  | .lst h, r => by
    cases r with
    | lst f e rs => exact .lst (SqL.of e) (Shs.dp s h rs)
  | .scr h, r => by
    cases r with
    | scr f rs => exact .lst f.sq (Shs.dp s h rs)
  | .tup h, r => by
    cases r with
    | tup f e rs => exact .tup (SqT.of e) (Shs.dp s h rs)
  | .ref e h, r => by
    cases r
    obtain ⟨_, vs, e3, rs⟩ := s.obj _ _ e
    exact .lst (SqL.of e3) (Shs.dp s h rs)
theorem Shs.dp {K : Kn} {Z : Zn K} {F : Addr → Prop} {H : Hp} {μ : Mu} (s : Sim Z F H μ) {ds : List D} {ps : List PyData} : ∀ {vs : List V}, Shs μ ds ps → Rps K F H ds vs → DpAll K H vs ps
  | _, .nil, r => by cases r; exact .nil
  | _, .cons h t, r => by
    cases r with
    | cons r1 rs => exact .cons (Sh.dp s h r1) (Shs.dp s t rs)
end
section
variable {X : Cx} {Z : Zn X.kn}
def gNeD : G2 := fun x y μ R => ∃ d e, Sh μ x d ∧ Sh μ y e ∧ SeqAt.shaped d = true ∧ SeqAt.shaped e = true ∧ R (.bl (!PyData.eqv d e)) μ
theorem o_neD {k : Nat} (hr : RoomG k X.A) : OpL X Z (compareOp .NotEq) gNeD := ⟨_, op_neD (by have := hr.rm.un; omega), fun F H μ x y vx vy R Q s rx ry q kk => by
  obtain ⟨d, e, h1, h2, h3, h4, q⟩ := q
  exact ⟨d, e, h1.dp s rx, h2.dp s ry, h3, h4, kk F _ H _ μ (Step.refl s) (.bl _) q⟩⟩
end
end L3
namespace L3
open PySem PySem.Spec PyProof.Rows L2
section
variable {X : Cx} {Z : Zn X.kn}
theorem CallR.or {f : Value} {r r' : List V → Hp → VK → Prop} (h : CallR X f r) (h' : CallR X f r') : CallR X f (fun xs H Q => r xs H Q ∨ r' xs H Q) := fun pins s σ H xs us Q I rs q => q.elim (h pins s σ H xs us Q I rs) (h' pins s σ H xs us Q I rs)
end
end L3
namespace L3
open PySem PySem.Spec PyProof.Rows L2
def allPos (n : Nat) : List Src := (List.range n).map Src.pos
theorem picks_all {α : Type} {z : α} {us ws ds : List α} {n : Nat} (h : us.length = n) : picks z (allPos n) us ws ds = us := by
  subst h
  unfold picks allPos
  rw [List.map_map]
  apply List.ext_getElem?
  intro i
  rw [List.getElem?_map]
  by_cases hi : i < us.length
  · rw [List.getElem?_range hi]
    show some (us.getD i z) = us[i]?
    rw [List.getD_eq_getElem?_getD, List.getElem?_eq_getElem hi]
    rfl
  · rw [List.getElem?_eq_none_iff.mpr (by simpa using hi), List.getElem?_eq_none_iff.mpr (by simpa using hi)]
    rfl
theorem Def3.bindA {K : PySem.W.Frag} {x qual : Str} {st : Stmt} {f : Addr} {fd : FuncData} {ps : List Str} {kwd : List (Str × V)} (F : Def3 K x qual st [] kwd f fd) (n : Nat) (hl : ps.length = n)
    (h : ∀ (kV doc pm : Value) (an : Option Addr) (cdv ct : Value) (us : List Value), us.length = n → bindArgs (PySem.W.fnOf x qual (defArgs st) (defBody st) (defScope st) .none kV doc pm an cdv ct) ⟨us, []⟩ = pure (ps.zip us)) : Bd3 K fd ps n [] (allPos n) [] :=
  F.bind0 n [] (allPos n) (by simp [allPos, hl]) fun kV doc pm an cdv ct us ws h1 h2 => by
    rw [picks_all h1]
    exact h kV doc pm an cdv ct us h1
end L3
namespace L3
open PySem PySem.Spec PyProof.Rows L2
structure Lft (X : Cx) (Z : Zn X.kn) (X0 : CXT) (n : Nat) (sp : Sp3) (lsp : Sp) (E : XK) : Prop where
  pass : Passes X0 X E
  go : ∀ F H μ ds vs (R : DK) (Q : VK), ds.length = n → Sim Z F H μ → Rps X.kn F H ds vs → sp ds μ R → (∀ F' v H' d μ', Step Z F H μ F' H' μ' → Rp X.kn F' H' d v → R d μ' → Q v H') → lsp vs H Q E
theorem lf0 {X : Cx} {Z : Zn X.kn} {n : Nat} {sp : Sp3} : Lft X Z CX0 n sp (lift X.kn n sp) E0 :=
  ⟨pass0, fun F H μ ds vs R Q l s r h k => ⟨F, ds, μ, R, l, s.up, r, h, fun F' v H' d μ' g => k F' v H' d μ' (g.on s)⟩⟩
theorem _root_.L2.PK.imp {X : Cx} {e : List Keyword} {t t' : TA} (h : PK X e t) (i : ∀ σ H Q, t' σ H Q → t σ H Q) : PK X e t' := ⟨fun p pins s σ H Q I q => h.run p pins s σ H Q I (i _ _ _ q)⟩
structure Cal3 (P : Program) (w : World) (K : PySem.W.Frag) (mg : Str → Option Value) (base : Heap) (X0 : CXT) (k : Nat) (x : Str) (n : Nat) (ks : List Str) (os : List Src) (dfl : List D) (np : Nat) (lsp : Sp) : Prop where
  ex : ∃ (f : Addr) (fd : FuncData) (ps : List Str), mg x = some (.ref f) ∧ PySem.W.keepIn K (.ref f) = true ∧ Bd3 K fd ps n ks os (dfl.map (flV K)) ∧ FnG P w K mg base X0 k f fd ps lsp
  fl : dfl.all (dflD K) = true
  np : os.length = np
def vCal (n m : Nat) (os : List Src) (dfl : List D) (sp : Sp3) (tr tk : TA3) : TE3 := fun δ μ R => tr δ μ fun ds μ1 => tk δ μ1 fun zs μ2 => ds.length = n ∧ zs.length = m ∧ sp (picks .non os ds zs dfl) μ2 R
def Got {K : Kn} (Z : Zn K) (F : Addr → Prop) (H : Hp) (μ : Mu) (R : List D → Mu → Prop) (vs : List V) (H1 : Hp) : Prop := ∃ F1 ds μ1, Step Z F H μ F1 H1 μ1 ∧ Rps K F1 H1 ds vs ∧ R ds μ1
theorem got {K : Kn} {Z : Zn K} {F : Addr → Prop} {H : Hp} {μ : Mu} {R : List D → Mu → Prop} {σ : L2.St} {δ : St3} {t : TA3} (sm : Sim Z F H μ) (sl : Sl K F H σ δ) (h : t δ μ R) : lowA Z t σ H (Got Z F H μ R) :=
  ⟨F, δ, μ, R, sm, sl, h, fun F1 vs H1 ds μ1 g r1 q1 => ⟨F1, ds, μ1, g, r1, q1⟩⟩
section
variable {X : Cx} {Z : Zn X.kn} {X0 : CXT} {e o : Expr} {es : List Expr} {kws : List Keyword} {tr tk : TA3} {te to : TE3} {x : Str} {p pos : Pos} {k n np : Nat} {ks : List Str} {os : List Src} {dfl : List D} {sp : Sp3} {lsp : Sp} {E : XK} {j : Nat}
theorem run_cal {pins : List (Addr × Obj)} {σ : L2.St} {H : Hp} {s : Shared} {Q : VK} {us ws : List Value} {f : Addr} {fd : FuncData} {ps : List Str} {vs zs : List V} {F : Addr → Prop} {μ : Mu} {ds es : List D} {R : DK} (L : Lft X Z X0 np sp lsp E)
    (hb : Bd3 X.K fd ps n ks os (dfl.map (flV X.K))) (fl : dfl.all (dflD X.K) = true) (hnp : os.length = np) (G : FnG X.prog X.w X.K X.mg X.base X0 k f fd ps lsp) (hr : RoomG k X.A) (I : Inv X pins σ H s) (r1 : Vals vs us) (r2 : Vals zs ws)
    (sm : Sim Z F H μ) (q1 : Rps X.kn F H ds vs) (q2 : Rps X.kn F H es zs) (l1 : ds.length = n) (l2 : es.length = ks.length) (hsp : sp (picks .non os ds es dfl) μ R)
    (kk : ∀ F' v H' d μ', Step Z F H μ F' H' μ' → Rp X.kn F' H' d v → R d μ' → Q v H') : wpAny (model X.prog X.w) X.A (call (.ref f) us (ks.zip ws)) (EP X pins σ Q) X.xe s := by
  obtain ⟨hl, dv, rd, hb⟩ := hb
  refine run_g G hr L.pass I (hb s us ws I.kIn (by rw [← r1.length, ← q1.length, l1]) (by rw [← r2.length, ← q2.length, l2])) (vals_picks r1 r2 rd os) ?_
  exact L.go F H μ _ _ R Q (by rw [← hnp]; exact List.length_map _) sm (rps_picks q1 q2 (flV_ok fl) os) hsp kk
theorem e_calP (L : Lft X Z X0 np sp lsp E) (c : Cal3 X.prog X.w X.K X.mg X.base X0 k x n [] os dfl np lsp) (hr : RoomG j X.A) (ha : A3 X Z (e :: es) tr) (hk : k ≤ j := by decide) (hg : Gl X x := by rfl) (hd : (x == ("__debug__" : Str)) = false := by decide)
    (he : starEach (e :: es) X.env = (false, eval e X.env) :: starEach es X.env := by rfl) (hpl : (backTo pos (starEach es X.env)).any (·.1) = false := by rfl) : E3 X Z (.Call (.Name x p) (e :: es) [] pos) (vCal n 0 os dfl sp tr vNil) := by
  obtain ⟨f, fd, ps, hm, kp, hb, G⟩ := c.ex
  refine ⟨fun pins s σ H Q I h => ?_⟩
  refine wpAny_Call_Name_kw (ld_glob I hg hm ?_ hd)
  obtain ⟨F, δ, μ, R, sm, sl, h, kk⟩ := h
  refine PySem.W.callWith_K (h₀ := X.base) I.ok.mod.kin kp (thn (ha.run pos pins s σ H _ I (got sm sl h))
    fun us s1 ⟨vs, H1, I1, r, F1, ds, μ1, g, r1, q1⟩ => ⟨I1.kIn, ?_⟩) he hpl
  exact run_cal (us := us) (ws := []) (ks := []) L hb c.fl c.np G (hr.mono hk) I1 r .nil g.sim r1 .nil q1.1 rfl q1.2.2 fun F2 v H2 d μ2 g2 r2 q2 => kk F2 v H2 d μ2 (g.trans g2) r2 q2
theorem vCal_all {n : Nat} {sp : Sp3} {tr : TA3} : vCal n 0 (allPos n) [] sp tr vNil = vCall n sp tr := by
  funext δ μ R
  unfold vCall vCal vNil
  congr 1
  funext ds μ1
  apply propext
  constructor
  · intro ⟨h1, _, h2⟩; rw [picks_all h1] at h2; exact ⟨h1, h2⟩
  · intro ⟨h1, h2⟩; exact ⟨h1, rfl, by rw [picks_all h1]; exact h2⟩
theorem e_cal (L : Lft X Z X0 n sp lsp E) (c : Cal3 X.prog X.w X.K X.mg X.base X0 k x n [] (allPos n) [] n lsp) (hr : RoomG j X.A) (ha : A3 X Z (e :: es) tr) (hk : k ≤ j := by decide) (hg : Gl X x := by rfl) (hd : (x == ("__debug__" : Str)) = false := by decide)
    (he : starEach (e :: es) X.env = (false, eval e X.env) :: starEach es X.env := by rfl) (hpl : (backTo pos (starEach es X.env)).any (·.1) = false := by rfl) : E3 X Z (.Call (.Name x p) (e :: es) [] pos) (vCall n sp tr) := by
  have h : E3 X Z (.Call (.Name x p) (e :: es) [] pos) (vCal n 0 (allPos n) [] sp tr vNil) := e_calP L c hr ha hk hg hd he hpl
  rw [vCal_all] at h
  exact h
end
end L3
namespace L3
open PySem PySem.Spec PyProof.Rows L2
def insOf (μ : Mu) (n : Str) : D → Option (List (Str × D))
  | .obj m fs => if m = n then some fs else none
  | .ref a => match μ a with
    | some (.ins m fs) => if m = n then some fs else none
    | _ => none
  | _ => none
section
variable {K : Kn} {F : Addr → Prop} {H : Hp}
theorem Rpf.length : ∀ {ds : List (Str × D)} {vs : List (Str × V)}, Rpf K F H ds vs → ds.length = vs.length
  | _, _, .nil => rfl
  | _, _, .cons _ t => by rw [List.length_cons, List.length_cons, Rpf.length t]
theorem Rpf.val {k : Str} : ∀ {ds : List (Str × D)} {vs : List (Str × V)}, Rpf K F H ds vs → (∀ d, ds.lookup k = some d → ∃ v, vs.lookup k = some v ∧ Rp K F H d v) ∧ (ds.lookup k = none → vs.lookup k = none)
  | _, _, .nil => ⟨fun d h => (by cases h), fun _ => rfl⟩
  | _, _, .cons (f := k') (d := d') (v := v') (ds := ds') (vs := vs') r t => by
    have ih := Rpf.val (k := k) t
    cases hb : (k == k') with
    | true =>
      have e1 : List.lookup k ((k', d') :: ds') = some d' := by simp only [List.lookup, hb]
      have e2 : List.lookup k ((k', v') :: vs') = some v' := by simp only [List.lookup, hb]
      rw [e1, e2]
      exact ⟨fun d h => (by cases h; exact ⟨v', rfl, r⟩), fun h => (by cases h)⟩
    | false =>
      have e1 : List.lookup k ((k', d') :: ds') = List.lookup k ds' := by simp only [List.lookup, hb]
      have e2 : List.lookup k ((k', v') :: vs') = List.lookup k vs' := by simp only [List.lookup, hb]
      rw [e1, e2]
      exact ih
def putFD (f : Str) (v : D) : List (Str × D) → List (Str × D)
  | [] => [(f, v)]
  | (g, x) :: r => if g = f then (g, v) :: r else (g, x) :: putFD f v r
theorem Rpf.put {f : Str} {d : D} {v : V} (h : Rp K F H d v) : ∀ {ds : List (Str × D)} {vs : List (Str × V)}, Rpf K F H ds vs → Rpf K F H (putFD f d ds) (putF f v vs)
  | _, _, .nil => .cons h .nil
  | _, _, .cons (f := g) r t => by
    show Rpf K F H (if g = f then _ else _) (if g = f then _ else _)
    by_cases e : g = f
    · rw [if_pos e, if_pos e]; exact .cons h t
    · rw [if_neg e, if_neg e]; exact .cons r (Rpf.put h t)
end
structure ClsK (K : PySem.W.Frag) (n : Str) (C : Addr) : Prop where
  at_ : PySem.W.nsIn K mainGlobals n = some (some (.ref C))
  cl : Cls K C
  kp : PySem.W.keepIn K (.ref C) = true
  ty : ((PySem.W.clsIn K C).isSome && PySem.W.typeIn K (.ref C) == some (.type "type")) = true
  ca : PySem.W.findIn K (.ref C) "__class__" = some (some (.builtin "object.__class__"))
  cg : PySem.W.specialIn K (.builtin "object.__class__") "__get__" = some (some (.builtin "getset_descriptor.__get__"))
  ct : PySem.W.takesIn K (.builtin "object.__class__") = some true
  cm : PySem.W.mroIn K C (.type "object") = some true
structure Cl3 (K : PySem.W.Frag) (mg : Str → Option Value) (n : Str) : Prop where
  ex : ∃ C, ClsK K n C ∧ mg n = some (.ref C)
structure Fl3 (K : PySem.W.Frag) (n f : Str) : Prop where
  ex : ∃ C, PySem.W.nsIn K mainGlobals n = some (some (.ref C)) ∧ Cls K C ∧ NoAttr K C f
theorem Fl3.of {K : Kn} {n f : Str} {C : Addr} (h : Fl3 K.K n f) (c : clsA K n C) : Cls K.K C ∧ NoAttr K.K C f := by
  obtain ⟨C', e, a, b⟩ := h.ex
  obtain rfl := clsA.inj (K := K) (show clsA K n C' from e) c
  exact ⟨a, b⟩
section
variable {X : Cx} {Z : Zn X.kn} {X0 : CXT} {e o : Expr} {es : List Expr} {kws : List Keyword} {tr tk : TA3} {te to : TE3} {x : Str} {p pos apos : Pos} {k np : Nat} {ks : List Str} {os : List Src} {dfl : List D} {sp : Sp3} {lsp : Sp} {E : XK} {j : Nat} {n f m : Str}
def vFld (n f : Str) (te : TE3) : TE3 := fun δ μ R => te δ μ fun x μ1 => ∃ fs d, insOf μ1 n x = some fs ∧ fs.lookup f = some d ∧ R d μ1
def sFld3 (n f : Str) (te to : TE3) : TS3 := fun D δ μ => te δ μ fun d μ1 => to δ μ1 fun x μ2 => ∃ a fs, x = .ref a ∧ μ2 a = some (.ins n fs) ∧ fs.length < 1000 ∧ D.nx δ (mset μ2 a (.ins n (putFD f d fs)))
structure Ap3 (K : PySem.W.Frag) (n m : Str) : Prop where
  ex : ∃ C C', ClsK K n C ∧ PySem.W.nsIn K mainGlobals m = some (some (.ref C')) ∧ PySem.W.kitOne K (.ref C) (.ref C') = some false
structure Met3 (P : Program) (w : World) (K : PySem.W.Frag) (mg : Str → Option Value) (base : Heap) (X0 : CXT) (k : Nat) (n m : Str) (cnt : Nat) (ks : List Str) (os : List Src) (dfl : List D) (np : Nat) (lsp : Sp) : Prop where
  ex : ∃ (C f : Addr) (fd : FuncData) (ps : List Str), PySem.W.nsIn K mainGlobals n = some (some (.ref C)) ∧ Cls K C ∧ Meth K C m f ∧ Bd3 K fd ps (cnt + 1) ks os (dfl.map (flV K)) ∧ FnG P w K mg base X0 k f fd ps lsp
  fl : dfl.all (dflD K) = true
  np : os.length = np
structure Mak3 (P : Program) (w : World) (K : PySem.W.Frag) (mg : Str → Option Value) (base : Heap) (X0 : CXT) (k : Nat) (n : Str) (cnt : Nat) (ks : List Str) (os : List Src) (dfl : List D) (np : Nat) (lsp : Sp) : Prop where
  ex : ∃ (C f : Addr) (fd : FuncData) (ps : List Str), PySem.W.nsIn K mainGlobals n = some (some (.ref C)) ∧ mg n = some (.ref C) ∧ Mk K C f ∧ Bd3 K fd ps (cnt + 1) ks os (dfl.map (flV K)) ∧ FnG P w K mg base X0 k f fd ps lsp
  fl : dfl.all (dflD K) = true
  np : os.length = np
def vMak (n : Str) (cnt m : Nat) (os : List Src) (dfl : List D) (sp : Sp3) (tr tk : TA3) : TE3 := fun δ μ R => tr δ μ fun ds μ1 => tk δ μ1 fun zs μ2 => ds.length = cnt ∧ zs.length = m ∧
  ∀ q, μ2 q = none → sp (picks .non os (.ref q :: ds) zs dfl) (mset μ2 q (.ins n [])) fun d μ3 => d = .non ∧ fin R (.ref q) μ3
end
end L3
namespace L3
open PySem PySem.Spec PyProof.Rows L2
def valX {β : Type} (xs : List (LK × Addr × β)) (k : LK) : Option β := (xs.find? fun x => decide (x.1 = k)).map (·.2.2)
def putX {β : Type} (xs : List (LK × Addr × β)) (k : LK) (b : Addr) (v : β) : List (LK × Addr × β) :=
  if (valX xs k).isSome then xs.map (fun x => if x.1 = k then (x.1, x.2.1, v) else x) else xs ++ [(k, b, v)]
def PrX (xs : List (LK × Addr × V)) (ys : List (LK × Addr × Value)) : Prop := Paired (fun (p : LK × Addr × V) (q : LK × Addr × Value) => p.1 = q.1 ∧ p.2.1 = q.2.1 ∧ RelV p.2.2 q.2.2) xs ys
theorem PrX.val {xs : List (LK × Addr × V)} {ys : List (LK × Addr × Value)} (r : PrX xs ys) (k : LK) : RelO (valX xs k) ((atKey ys k).map (·.2)) := by
  unfold PrX at r
  induction r with
  | nil => exact True.intro
  | @cons p q ps qs h t ih =>
    obtain ⟨h1, _, h2⟩ := h
    unfold valX atKey at ih ⊢
    rw [List.find?_cons, List.find?_cons]
    by_cases e : p.1 = k
    · have e' : q.1 = k := h1.symm.trans e
      simp only [e, e', decide_true]
      exact h2
    · have e' : ¬ q.1 = k := fun z => e (h1.trans z)
      simp only [e, e', decide_false]
      exact ih
theorem PrX.length {xs : List (LK × Addr × V)} {ys : List (LK × Addr × Value)} (r : PrX xs ys) : xs.length = ys.length := Paired.length r
theorem PrX.keys {xs : List (LK × Addr × V)} {ys : List (LK × Addr × Value)} (r : PrX xs ys) : xs.map (·.1) = ys.map (·.1) := by
  unfold PrX at r
  induction r with
  | nil => rfl
  | cons h t ih => rw [List.map_cons, List.map_cons, ih, h.1]
theorem PrX.upd {xs : List (LK × Addr × V)} {ys : List (LK × Addr × Value)} (r : PrX xs ys) (k : LK) {v : V} {u : Value} (rv : RelV v u) : PrX (xs.map fun x => if x.1 = k then (x.1, x.2.1, v) else x) (ys.map (putAt k u)) := by
  unfold PrX at r ⊢
  induction r with
  | nil => exact .nil
  | @cons p q ps qs h t ih =>
    rw [List.map_cons, List.map_cons]
    refine .cons ?_ ih
    obtain ⟨h1, h2, h3⟩ := h
    unfold putAt
    by_cases e : p.1 = k
    · rw [if_pos e, if_pos (h1.symm.trans e)]; exact ⟨h1, h2, rv⟩
    · rw [if_neg e, if_neg fun z => e (h1.trans z)]; exact ⟨h1, h2, h3⟩
theorem PrX.put {xs : List (LK × Addr × V)} {ys : List (LK × Addr × Value)} (r : PrX xs ys) (k : LK) (b : Addr) {v : V} {u : Value} (rv : RelV v u) : PrX (putX xs k b v) (storedH ys k b u) := by
  have e : (valX xs k).isSome = (atKey ys k).isSome := by rw [(r.val k).isSome_eq, Option.isSome_map]
  unfold putX storedH
  rw [e]
  by_cases q : (atKey ys k).isSome = true
  · rw [if_pos q, if_pos q]; exact r.upd k rv
  · rw [if_neg q, if_neg q]; exact Paired.snoc r ⟨rfl, rfl, rv⟩
theorem valX_none {xs : List (LK × Addr × V)} {k : LK} (h : valX xs k = none) : k ∉ xs.map (·.1) := by
  intro hm
  obtain ⟨x, hx, rfl⟩ := List.mem_map.mp hm
  unfold valX at h
  rw [Option.map_eq_none_iff, List.find?_eq_none] at h
  exact h x hx (decide_eq_true rfl)
theorem putX_keys {xs : List (LK × Addr × V)} {k : LK} {b : Addr} {v : V} (n : (xs.map (·.1)).Nodup) : ((putX xs k b v).map (·.1)).Nodup := by
  unfold putX
  split
  · rename_i h
    have : (xs.map fun x => if x.1 = k then (x.1, x.2.1, v) else x).map (·.1) = xs.map (·.1) := by
      rw [List.map_map]
      apply List.map_congr_left
      intro x _
      show (if x.1 = k then (x.1, x.2.1, v) else x).1 = x.1
      split <;> rfl
    rw [this]
    exact n
  · rename_i h
    rw [List.map_append, List.nodup_append]
    refine ⟨n, by simp, fun a ha c hc e => ?_⟩
    have hn : valX xs k = none := by cases q : valX xs k with | none => rfl | some _ => rw [q] at h; exact (h rfl).elim
    simp at hc
    subst e hc
    exact valX_none hn ha
theorem putX_length {xs : List (LK × Addr × V)} {k : LK} {b : Addr} {v : V} : (putX xs k b v).length ≤ xs.length + 1 := by
  unfold putX
  split <;> simp
theorem leaf_is {P : Program} {w : World} {k : Leaf} {u : Value} (r : RelV (leafV k) u) : (leafKind P w).is k u = true := by
  cases k with
  | none => cases (show u = Value.none from r); rfl
  | num i => obtain ⟨t, rfl⟩ := (show ∃ t, u = Value.int i t from r); exact decide_eq_true rfl
  | text x => obtain ⟨t, rfl⟩ := (show ∃ t, u = Value.str x t from r); show Value.isStrOf x (.str x t) = true; simp [Value.isStrOf, Value.isStr]
theorem leaf_items {P : Program} {w : World} : ∀ {ks : List Leaf} {us : List Value}, Vals (ks.map leafV) us → ItemsAre (leafKind P w) ks us
  | [], _, r => by rw [List.map_nil] at r; cases r; exact .nil
  | k :: ks, _, r => by
    rw [List.map_cons] at r
    cases r with
    | cons h t => exact .cons (leaf_is h) (leaf_items t)
section
variable {K : Kn} {H : Hp} {h : Heap} {a b : Addr}
theorem lkey_of {ks : LK} (ok : HOk K.P K.w H h) (e : H b = some (.tup (ks.map leafV))) : (lkH K).is h ks b := by
  obtain ⟨_, its, r, o, h1, h2, n, h3⟩ := (show ObjOk K.P K.w H h b (.tup (ks.map leafV)) from ok b _ e)
  exact ⟨o, its.toArray, n, h1, h2, h3, by simpa using leaf_items r⟩
def KeysX (H : Hp) (xs : List (LK × Addr × V)) : Prop := ∀ p ∈ xs, H p.2.1 = some (.tup (p.1.map leafV))
theorem dcn_of {xs : List (LK × Addr × V)} (ok : HOk K.P K.w H h) (e : H a = some (dcnO K a xs)) (kx : KeysX H xs) : xs.length ≤ sizeLine ∧ (a == sysModules) = false ∧ (xs.map (·.1)).Nodup ∧ ∃ ys, PrX xs ys ∧ h.DictOfH (lkH K) a ys := by
  obtain ⟨⟨z, y, n, ys, o, es, ep, r, h1, h2, h3, h4⟩, _⟩ := ok a _ e
  refine ⟨z, y, n, ys, r, o, es, ep, h1, h2, h3, h4, fun x hx => ?_, by rw [← PrX.keys r]; exact n⟩
  obtain ⟨j, p, hj, hp, e1, e2, _⟩ := paired_ix' r hx
  rw [← e1, ← e2]
  exact lkey_of ok (kx p (List.mem_of_getElem? hp))
where
  paired_ix' {xs : List (LK × Addr × V)} {ys : List (LK × Addr × Value)} (r : PrX xs ys) {x : LK × Addr × Value} (hx : x ∈ ys) : ∃ (j : Nat) (p : LK × Addr × V), ys[j]? = some x ∧ xs[j]? = some p ∧ p.1 = x.1 ∧ p.2.1 = x.2.1 ∧ RelV p.2.2 x.2.2 := by
    unfold PrX at r
    induction r with
    | nil => cases hx
    | @cons p q ps qs h t ih =>
      rcases List.mem_cons.mp hx with rfl | hx
      · exact ⟨0, p, rfl, rfl, h⟩
      · obtain ⟨j, p, h1, h2, h3⟩ := ih hx
        exact ⟨j + 1, p, h1, h2, h3⟩
theorem dcn_new {H' : Hp} {h' : Heap} {xs : List (LK × Addr × V)} {ys : List (LK × Addr × Value)} (z : xs.length ≤ sizeLine) (hd : (a == sysModules) = false) (n : (xs.map (·.1)).Nodup) (r : PrX xs ys) (dd : h'.DictOfH (lkH K) a ys) : ObjOk K.P K.w H' h' a (dcnO K a xs) := by
  obtain ⟨o, es, ep, h1, h2, h3, h4, _, _⟩ := dd
  refine ⟨⟨z, hd, n, ys, o, es, ep, r, h1, h2, h3, h4⟩, ⟨o, h1⟩, fun g1 g2 ⟨_, _, _, ys', o', es', ep', r', h1', h2', h3', h4'⟩ k => ⟨z, hd, n, ys', o', es', ep', r', k _ h1', h2', h3', h4'⟩⟩
end
def DGx (K : Kn) (H : Hp) (a : Addr) (y : V) (r : Option V) : Prop := (∃ kvs k, Rd H a (.dK kvs) ∧ y = kV k ∧ r = valV kvs k) ∨ ∃ xs k b, H a = some (dcnO K a xs) ∧ KeysX H xs ∧ y = .ref b ∧ H b = some (.tup (k.map leafV)) ∧ r = valX xs k
def DPx (K : Kn) (H : Hp) (a : Addr) (y v : V) (H' : Hp) : Prop := (∃ kvs k, H a = some (.dK kvs) ∧ y = kV k ∧ kvs.length < sizeLine ∧ H' = upd H a (.dK (putK kvs k v))) ∨
  ∃ xs k b, H a = some (dcnO K a xs) ∧ KeysX H xs ∧ y = .ref b ∧ H b = some (.tup (k.map leafV)) ∧ xs.length < sizeLine ∧ H' = upd H a (dcnO K a (putX xs k b v))
section
variable {X : Cx} {pins : List (Addr × Obj)} {σ : L2.St} {H : Hp} {s : Shared} {a : Addr} {y v d : V} {u r : Value} {o : Option V} {A : Around} {E : Value → Shared → Prop}
theorem dx_type (I : Inv X pins σ H s) (g : DGx X.kn H a y o) : s.TypeIs (.ref a) "dict" ∧ (∀ b, Value.ref a = .ref b → ∃ ob, s.heap.get? b = some ob ∧ ob.dict = none) ∧ (a == sysModules) = false := by
  rcases g with ⟨kvs, k, e, _, _⟩ | ⟨xs, k, b, e, kx, _⟩
  · exact isD_at I (.inl ⟨kvs, e⟩)
  · obtain ⟨_, hd, _, ys, _, dd⟩ := dcn_of (K := X.kn) I.hok e kx
    refine ⟨dd.typeIs, fun b q => ?_, hd⟩
    cases q
    obtain ⟨ob, _, _, h1, h2, _⟩ := dd
    exact ⟨ob, h1, h2.2.1⟩
theorem dx_get {Q : Value → Shared → Prop} (hu : A.units + 1 < cLine) (I : Inv X pins σ H s) (g : DGx X.kn H a y (some v)) (ry : RelV y u) (k : ∀ w' s', Inv X pins σ H s' → RelV v w' → Q w' s') : wpAny (model X.prog X.w) A (getItem (.ref a) u) Q E s := by
  rcases g with g | ⟨xs, q, b, e, kx, rfl, eb, l⟩
  · exact d_getItem hu I (.inl g) ry k
  cases (show u = Value.ref b from ry)
  obtain ⟨_, _, _, ys, rel, dd⟩ := dcn_of (K := X.kn) I.hok e kx
  obtain ⟨w', hw, rw'⟩ := RelO.some_of (v := v) (o := (atKey ys q).map (·.2)) (by rw [l]; exact rel.val q)
  obtain ⟨p, hp, hp2⟩ := Option.map_eq_some_iff.mp hw
  refine wpAny_getItem_heap (knd := lkH X.kn) (tupleKind_room_in1 hu) (lkey_of (K := X.kn) I.hok eb) dd hp ?_
  rw [hp2]
  exact k w' _ (I.tok _) rw'
theorem dx_in {Q : Value → Shared → Prop} (hu : A.units + 1 < cLine) (I : Inv X pins σ H s) (g : DGx X.kn H a y o) (ry : RelV y u) (k : ∀ s', Inv X pins σ H s' → Q (.bool o.isSome) s') : wpAny (model X.prog X.w) A (compareOp .In u (.ref a)) Q E s := by
  rcases g with g | ⟨xs, q, b, e, kx, rfl, eb, l⟩
  · exact d_in hu I (.inl g) ry k
  cases (show u = Value.ref b from ry)
  obtain ⟨_, hd, _, ys, rel, dd⟩ := dcn_of (K := X.kn) I.hok e kx
  refine wpAny_in_heap (knd := lkH X.kn) (tupleKind_room_in1 hu) (lkey_of (K := X.kn) I.hok eb) hd dd ?_
  have z := (rel.val q).isSome_eq
  rw [Option.isSome_map] at z
  rw [← z, ← l]
  exact k _ (I.tok _)
theorem dx_store {xs : List (LK × Addr × V)} {q : LK} {b : Addr} {h' : Heap} {t' : Nat} {ys : List (LK × Addr × Value)} (I : Inv X pins σ H s) (e : H a = some (dcnO X.kn a xs)) (rel : PrX xs ys) (n : (xs.map (·.1)).Nodup) (hd : (a == sysModules) = false) (hz : xs.length < sizeLine) (rv : RelV v r)
    (dd : h'.DictOfH (lkH X.kn) a (storedH ys q b r)) (hs : Heap.SameBut a s.heap h') : Inv X pins σ (upd H a (dcnO X.kn a (putX xs q b v))) { s with heap := h', toks := t' } := by
  have hl : (putX xs q b v).length ≤ sizeLine := by have := putX_length (xs := xs) (k := q) (b := b) (v := v); omega
  refine d_write I (by rw [e]; exact True.intro) hs ?_ (dcn_new (K := X.kn) hl hd (putX_keys n) (rel.put q b rv) dd)
  obtain ⟨o, _, _, h1, _⟩ := dd
  exact ⟨o, h1⟩
theorem dx_set {H' : Hp} {Q : Unit → Shared → Prop} (hu : A.units + 1 < cLine) (I : Inv X pins σ H s) (g : DPx X.kn H a y v H') (ry : RelV y u) (rv : RelV v r) (k : ∀ s', Inv X pins σ H' s' → Q () s') : wpAny (model X.prog X.w) A (setItem (.ref a) u r) Q E s := by
  rcases g with g | ⟨xs, q, b, e, kx, rfl, eb, hz, rfl⟩
  · exact d_setItem hu I (.inl g) ry rv k
  cases (show u = Value.ref b from ry)
  obtain ⟨z, hd, n, ys, rel, dd⟩ := dcn_of (K := X.kn) I.hok e kx
  exact wpAny_setItem_heap (knd := lkH X.kn) (hsz := by rw [← rel.length]; exact z) (tupleKind_room_in1 hu) (lkey_of (K := X.kn) I.hok eb) dd fun h' dd' hs => k _ (dx_store I e rel n hd hz rv dd' hs)
end
end L3
namespace L3
open PySem PySem.Spec PyProof.Rows L2
def leafOf : D → Option Leaf
  | .non => some .none
  | .int i => some (.num i)
  | .str x => some (.text x)
  | _ => none
def leavesOf : List D → Option LK
  | [] => some []
  | d :: r => match leafOf d, leavesOf r with
    | some a, some b => some (a :: b)
    | _, _ => none
def lkOf : D → Option LK
  | .tup xs => leavesOf xs
  | _ => none
def valN (kvs : List (LK × D)) (k : LK) : Option D := (kvs.find? fun kv => decide (kv.1 = k)).map (·.2)
def putN (kvs : List (LK × D)) (k : LK) (v : D) : List (LK × D) := if (valN kvs k).isSome then kvs.map (fun kv => if kv.1 = k then (kv.1, v) else kv) else kvs ++ [(k, v)]
inductive Dic where
  | k (kvs : List (Key × D))
  | n (kvs : List (LK × D))
def Dic.get : Dic → D → Option (Option D)
  | .k kvs, y => (keyOf y).map (valD kvs)
  | .n kvs, y => (lkOf y).map (valN kvs)
def Dic.put : Dic → D → D → Option Dic
  | .k kvs, y, v => (keyOf y).map fun q => .k (putD kvs q v)
  | .n kvs, y, v => (lkOf y).map fun q => .n (putN kvs q v)
def Dic.length : Dic → Nat
  | .k kvs => kvs.length
  | .n kvs => kvs.length
def Dic.fz : Dic → D
  | .k kvs => .dct kvs
  | .n kvs => .dcn kvs
def Dic.mo : Dic → MO
  | .k kvs => .dct kvs
  | .n kvs => .dcn kvs
def dicOf (μ : Mu) : D → Option Dic
  | .dct kvs => some (.k kvs)
  | .dcn kvs => some (.n kvs)
  | .ref a => match μ a with
    | some (.dct kvs) => some (.k kvs)
    | some (.dcn kvs) => some (.n kvs)
    | _ => none
  | _ => none
section
variable {K : Kn} {F : Addr → Prop} {H : Hp}
def DicR (K : Kn) (F : Addr → Prop) (H : Hp) (a : Addr) : Dic → Prop
  | .k kvs => ∃ ks, Rd H a (.dK ks) ∧ Rpk K F H kvs ks
  | .n kvs => ∃ ks, H a = some (dcnO K a ks) ∧ Rpn K F H kvs ks
theorem dic_of {μ : Mu} {x : D} {v : V} {c : Dic} (s : Sim0 K F H μ) (r : Rp K F H x v) (h : dicOf μ x = some c) : ∃ a, v = .ref a ∧ DicR K F H a c := by
  cases r with
  | dct f e rs => cases h; exact ⟨_, rfl, _, e, rs⟩
  | dcn f e rs => cases h; exact ⟨_, rfl, _, e, rs⟩
  | ref a =>
    have h' : (match μ a with
      | some (.dct kvs) => some (Dic.k kvs)
      | some (.dcn kvs) => some (Dic.n kvs)
      | _ => none) = some c := h
    split at h'
    · rename_i ys e2
      cases h'
      obtain ⟨_, vs, e3, rs⟩ := s.obj _ _ e2
      exact ⟨_, rfl, vs, .inl e3, rs⟩
    · rename_i ys e2
      cases h'
      obtain ⟨_, vs, e3, rs⟩ := s.obj _ _ e2
      exact ⟨_, rfl, vs, e3, rs⟩
    · cases h'
  | _ => cases h
theorem leaf_ok {x : D} {v : V} {k : Leaf} (r : Rp K F H x v) (h : leafOf x = some k) : v = leafV k := by
  cases r <;> cases h <;> rfl
theorem leaves_ok : ∀ {xs : List D} {vs : List V} {ks : LK}, Rps K F H xs vs → leavesOf xs = some ks → vs = ks.map leafV
  | _, _, _, .nil, h => by cases h; rfl
  | _, _, ks, .cons (d := d) (ds := ds) r t, h => by
    unfold leavesOf at h
    split at h
    · rename_i a b e1 e2
      cases h
      rw [List.map_cons, leaf_ok r e1, leaves_ok t e2]
    · cases h
theorem lk_ok {x : D} {v : V} {k : LK} (r : Rp K F H x v) (h : lkOf x = some k) : ∃ b, v = .ref b ∧ F b ∧ H b = some (.tup (k.map leafV)) := by
  cases r with
  | tup f e rs => exact ⟨_, rfl, f, by rw [← leaves_ok rs h]; exact e⟩
  | _ => cases h
theorem Rpn.keysX : ∀ {ds : List (LK × D)} {vs : List (LK × Addr × V)}, Rpn K F H ds vs → KeysX H vs
  | _, _, .nil => fun _ h => by cases h
  | _, _, .cons f e r t => fun p h => by
    rcases List.mem_cons.mp h with rfl | h
    · exact e
    · exact Rpn.keysX t p h
theorem Rpn.length : ∀ {ds : List (LK × D)} {vs : List (LK × Addr × V)}, Rpn K F H ds vs → ds.length = vs.length
  | _, _, .nil => rfl
  | _, _, .cons _ _ _ t => by rw [List.length_cons, List.length_cons, Rpn.length t]
theorem Rpn.val {k : LK} : ∀ {ds : List (LK × D)} {vs : List (LK × Addr × V)}, Rpn K F H ds vs → (∀ d, valN ds k = some d → ∃ v, valX vs k = some v ∧ Rp K F H d v) ∧ (valN ds k = none → valX vs k = none)
  | _, _, .nil => ⟨fun d h => (by cases h), fun _ => rfl⟩
  | _, _, .cons (k := k') (b := b') (d := d') (v := v') (ds := ds') (vs := vs') f e r t => by
    have ih := Rpn.val (k := k) t
    by_cases e : k' = k
    · have e1 : valN ((k', d') :: ds') k = some d' := by simp [valN, List.find?_cons, e]
      have e2 : valX ((k', b', v') :: vs') k = some v' := by simp [valX, List.find?_cons, e]
      rw [e1, e2]
      exact ⟨fun d h => (by cases h; exact ⟨v', rfl, r⟩), fun h => (by cases h)⟩
    · have e1 : valN ((k', d') :: ds') k = valN ds' k := by simp [valN, List.find?_cons, e]
      have e2 : valX ((k', b', v') :: vs') k = valX vs' k := by simp [valX, List.find?_cons, e]
      rw [e1, e2]
      exact ih
theorem Rpn.append : ∀ {ds es : List (LK × D)} {vs us : List (LK × Addr × V)}, Rpn K F H ds vs → Rpn K F H es us → Rpn K F H (ds ++ es) (vs ++ us)
  | _, _, _, _, .nil, s => s
  | _, _, _, _, .cons f e h r, s => .cons f e h (Rpn.append r s)
theorem Rpn.upd {k : LK} {d : D} {v : V} (h : Rp K F H d v) : ∀ {ds : List (LK × D)} {vs : List (LK × Addr × V)}, Rpn K F H ds vs → Rpn K F H (ds.map fun kv => if kv.1 = k then (kv.1, d) else kv) (vs.map fun x => if x.1 = k then (x.1, x.2.1, v) else x)
  | _, _, .nil => .nil
  | _, _, .cons (k := k') f e r t => by
    rw [List.map_cons, List.map_cons]
    by_cases e' : k' = k
    · simp only [e', if_true]
      exact .cons f (e' ▸ e) h (Rpn.upd h t)
    · simp only [e', if_false]
      exact .cons f e r (Rpn.upd h t)
theorem Rpn.put {k : LK} {b : Addr} {d : D} {v : V} {ds : List (LK × D)} {vs : List (LK × Addr × V)} (r : Rpn K F H ds vs) (fb : F b) (eb : H b = some (.tup (k.map leafV))) (h : Rp K F H d v) : Rpn K F H (putN ds k d) (putX vs k b v) := by
  have e : (valN ds k).isSome = (valX vs k).isSome := by
    cases q : valN ds k with
    | none => rw [(r.val (k := k)).2 q]; rfl
    | some x => obtain ⟨v, e, _⟩ := (r.val (k := k)).1 x q; rw [e]; rfl
  unfold putN putX
  rw [e]
  by_cases q : (valX vs k).isSome = true
  · rw [if_pos q, if_pos q]; exact r.upd h
  · rw [if_neg q, if_neg q]; exact r.append (.cons fb eb h .nil)
def RpO (K : Kn) (F : Addr → Prop) (H : Hp) : Option D → Option V → Prop
  | some d, some v => Rp K F H d v
  | none, none => True
  | _, _ => False
theorem DicR.get {a : Addr} {c : Dic} {y : D} {vy : V} {r : Option D} (h : DicR K F H a c) (ry : Rp K F H y vy) (g : c.get y = some r) : ∃ o, DGx K H a vy o ∧ RpO K F H r o := by
  cases c with
  | k kvs =>
    obtain ⟨ks, e, rs⟩ := h
    unfold Dic.get at g
    obtain ⟨q, eq, rfl⟩ := Option.map_eq_some_iff.mp g
    obtain rfl := keyOf_ok ry eq
    refine ⟨valV ks q, .inl ⟨ks, q, e, rfl, rfl⟩, ?_⟩
    cases z : valD kvs q with
    | none => rw [rs.val.2 z]; exact True.intro
    | some d => obtain ⟨w, ew, rw'⟩ := rs.val.1 d z; rw [ew]; exact rw'
  | n kvs =>
    obtain ⟨ks, e, rs⟩ := h
    unfold Dic.get at g
    obtain ⟨q, eq, rfl⟩ := Option.map_eq_some_iff.mp g
    obtain ⟨b, rfl, fb, eb⟩ := lk_ok ry eq
    refine ⟨valX ks q, .inr ⟨ks, q, b, e, rs.keysX, rfl, eb, rfl⟩, ?_⟩
    cases z : valN kvs q with
    | none => rw [rs.val.2 z]; exact True.intro
    | some d => obtain ⟨w, ew, rw'⟩ := rs.val.1 d z; rw [ew]; exact rw'
end
section
variable {X : Cx} {Z : Zn X.kn} {e a b c o i v kx vx f : Expr} {es : List Expr} {ta tb tc te to ti tv tk tx : TE3} {tr : TA3} {pos p apos cpos : Pos} {x : Str} {k : Nat}
theorem hu_g {A : Around} (hr : RoomG k A) : A.units + 1 < cLine := by have := hr.rm.un; omega
theorem ix_dx (hu : X.A.units + 1 < cLine) : IxR X (fun x y H Q => ∃ a v, x = .ref a ∧ DGx X.kn H a y (some v) ∧ Q v H) := by
  intro value slice pins s σ H x y v u Q I rx ry h hs
  obtain ⟨a, z, rfl, g, q⟩ := h
  obtain rfl : v = Value.ref a := rx
  have hT := (dx_type I g).1
  have go : wpAny (model X.prog X.w) X.A (getItem (.ref a) u) (EP X pins σ Q) X.xe s := dx_get hu I g ry fun w' s3 I3 rw' => ⟨z, H, I3, rw', q⟩
  unfold subscriptTail
  refine wpAny_bind ?_
  rw [getitemInPython_of_ne hT.not_modules]
  refine wpAny_bind (wpAny_specialOf hT PySem.F.slot_dict_getitem.lookup ?_)
  have fin : wpAny (model X.prog X.w) X.A (subscripted slice false (.ref a) u) (fun r s₃ => wpAny (model X.prog X.w) X.A (letTemporaryGo value (.ref a) r >>= fun _ => pure r) (EP X pins σ Q) X.xe s₃) X.xe s := by
    rw [hs]
    exact wpAny_operating (wpAny_mono go (fun r s₃ h₃ => wpAny_bind (wpAny_letTemporaryGo (wpAny_pure h₃))) fun _ _ x => x)
  first
    | exact wpAny_pure (wpAny_bind fin)
    | exact wpAny_bind (wpAny_pure (wpAny_bind fin))
    | exact wpAny_bind fin
def gAt : G2 := fun x y μ R => (∃ z i c, x = .str z ∧ y = .int i ∧ z.length ≤ sizeLine ∧ atI z.cps.toList i = some c ∧ R (.str ⟨#[c]⟩) μ) ∨ (∃ xs i d, y = .int i ∧ seqOf μ x = some xs ∧ atI xs i = some d ∧ R d μ) ∨ (∃ c d, dicOf μ x = some c ∧ c.get y = some (some d) ∧ R d μ)
theorem e_at {j : Nat} (hr : RoomG j X.A) (ha : E3 X Z a ta) (hb : E3 X Z b tb) (hs : PlainIx b := by exact fun _ _ => rfl) : E3 X Z (.Subscript a b pos) (vOp gAt ta tb) := (pe_ix (ix_seq.or (ix_dx (hu_g hr))) ha hb hs).imp fun _ _ _ h => low_op (fun F H μ x y vx vy R Q s rx ry q kk => by
  rcases q with ⟨z, i, c, rfl, rfl, h1, h2, q⟩ | ⟨xs, i, d, rfl, e1, e2, q⟩ | ⟨c, d, e1, e2, q⟩
  · exact .inl (ix_ok F H μ _ _ vx vy R Q s rx ry ⟨c, h1, h2, q⟩ kk)
  · refine .inl ?_
    cases ry
    obtain ⟨p, vs, rfl, sq, rs⟩ := seq_of s rx e1
    obtain ⟨v, e3, r2⟩ := atI_rel rs e2
    rcases sq with sq | sq
    · exact .inl ⟨p, vs, _, v, rfl, rfl, sq, e3, kk F _ H _ μ (Step.refl s) r2 q⟩
    · exact .inr (.inl ⟨p, vs, _, v, rfl, rfl, sq, e3, kk F _ H _ μ (Step.refl s) r2 q⟩)
  · obtain ⟨p, rfl, dr⟩ := dic_of s.raw rx e1
    obtain ⟨ov, g, z⟩ := dr.get ry e2
    cases ov with
    | none => exact z.elim
    | some w => exact .inr ⟨p, w, rfl, g, kk F _ H _ μ (Step.refl s) z q⟩) h
theorem at_q {μ : Mu} {x : D} {xs : List D} {i : Int} {d : D} {R : DK} (e : seqOf μ x = some xs) (h : atI xs i = some d) (q : R d μ) : gAt x (.int i) μ R := .inr (.inl ⟨xs, i, d, rfl, e, h, q⟩)
theorem at_r {μ : Mu} {a : Addr} {xs : List D} {i : Int} {d : D} {R : DK} (e : μ a = some (.lst xs)) (h : atI xs i = some d) (q : R d μ) : gAt (.ref a) (.int i) μ R := at_q (by simp only [seqOf, e]) h q
def gIn (neg : Bool) : G2 := fun x y μ R => (∃ c z, x = .str ⟨#[c]⟩ ∧ y = .str z ∧ R (.bl (if neg then !decide (c ∈ z.cps.toList) else decide (c ∈ z.cps.toList))) μ) ∨
  (∃ xs, seqOf μ y = some xs ∧ flatD x = true ∧ xs.all flatD = true ∧ R (.bl (if neg then !inD x xs else inD x xs)) μ) ∨ (∃ c r, dicOf μ y = some c ∧ c.get x = some r ∧ R (.bl (if neg then !r.isSome else r.isSome)) μ)
theorem op_in_dx (hu : X.A.units + 1 < cLine) : OpR X (compareOp .In) (fun x y H Q => ∃ a o, y = .ref a ∧ DGx X.kn H a x o ∧ Q (.bl o.isSome) H) := by
  intro pins s σ H x y v u Q I rx ry h
  obtain ⟨a, o, rfl, g, q⟩ := h
  obtain rfl : u = Value.ref a := ry
  exact dx_in hu I g rx fun s' I' => ⟨.bl o.isSome, H, I', rfl, q⟩
theorem o_in {j : Nat} (hr : RoomG j X.A) : OpL X Z (compareOp .In) (gIn false) := by
  have hd : OpL X Z (compareOp .In) (fun x y μ R => ∃ c r, dicOf μ y = some c ∧ c.get x = some r ∧ R (.bl r.isSome) μ) := ⟨_, op_in_dx (hu_g hr), fun F H μ x y vx vy R Q s rx ry q kk => by
    obtain ⟨c, r, e1, e2, q⟩ := q
    obtain ⟨p, rfl, dr⟩ := dic_of s.raw ry e1
    obtain ⟨ov, g, z⟩ := dr.get rx e2
    refine ⟨p, ov, rfl, g, ?_⟩
    have : ov.isSome = r.isSome := by
      cases r <;> cases ov <;> first | rfl | exact z.elim
    rw [this]
    exact kk F _ H _ μ (Step.refl s) (.bl _) q⟩
  refine ((o_inS.or o_inL).or hd).imp fun x y μ R h => ?_
  rcases h with ⟨c, z, rfl, rfl, q⟩ | ⟨xs, e, h1, h2, q⟩ | h
  · exact .inl (.inl ⟨c, rfl, q⟩)
  · refine .inl (.inr ?_)
    unfold gInL
    rw [e]
    exact ⟨h1, h2, q⟩
  · exact .inr h
def PSet.or {t u : TSet} (h : PSet X t) (h' : PSet X u) : PSet X (fun o i v H Q => t o i v H Q ∨ u o i v H Q) := fun pins s σ H o i v ov iv w Q I ro ri rv q => q.elim (h pins s σ H o i v ov iv w Q I ro ri rv) (h' pins s σ H o i v ov iv w Q I ro ri rv)
theorem set_dx (hu : X.A.units + 1 < cLine) : PSet X (fun o i v H Q => ∃ a H', o = .ref a ∧ DPx X.kn H a i v H' ∧ Q H') := fun pins s σ H o i v ov iv w Q I ro ri rv q => by
  obtain ⟨a, H', rfl, g, q⟩ := q
  obtain rfl : ov = Value.ref a := ro
  exact dx_set hu I g ri rv fun s' I' => ⟨H', I', q⟩
def gSet : D → D → D → Mu → (Mu → Prop) → Prop := fun o i v μ R => ∃ a, o = .ref a ∧ ((∃ xs k j, i = .int k ∧ μ a = some (.lst xs) ∧ ixN xs.length k = some j ∧ R (mset μ a (.lst (xs.set j v)))) ∨ ∃ c c' : Dic, μ a = some c.mo ∧ c.length < sizeLine ∧ c.put i v = some c' ∧ R (mset μ a c'.mo))
theorem put_dic {F : Addr → Prop} {H : Hp} {μ : Mu} {a : Addr} {c c' : Dic} {i v : D} {vi vv : V} (s : Sim Z F H μ) (h : μ a = some c.mo) (hl : c.length < sizeLine) (e : c.put i v = some c') (ri : Rp X.kn F H i vi) (rv : Rp X.kn F H v vv) :
    ∃ H', DPx X.kn H a vi vv H' ∧ Step Z F H μ F H' (mset μ a c'.mo) := by
  cases c with
  | k kvs =>
    obtain ⟨q, eq, rfl⟩ := Option.map_eq_some_iff.mp (show (keyOf i).map (fun q => Dic.k (putD kvs q v)) = some c' from e)
    obtain ⟨_, ks, e3, rs⟩ := s.obj _ _ h
    obtain rfl := keyOf_ok ri eq
    refine ⟨_, .inl ⟨ks, q, e3, rfl, by rw [← rs.length]; exact hl, rfl⟩, s.putS h fun g' e' => ⟨_, e', (rs.grow g').put (rv.grow g')⟩⟩
  | n kvs =>
    obtain ⟨q, eq, rfl⟩ := Option.map_eq_some_iff.mp (show (lkOf i).map (fun q => Dic.n (putN kvs q v)) = some c' from e)
    obtain ⟨_, ks, e3, rs⟩ := s.obj _ _ h
    obtain ⟨b, rfl, fb, eb⟩ := lk_ok ri eq
    refine ⟨_, .inr ⟨ks, q, b, e3, rs.keysX, rfl, eb, by rw [← rs.length]; exact hl, rfl⟩, s.putS h fun g' e' => ⟨_, e', (rs.grow g').put (g'.mono _ fb) (g'.fix _ _ fb rfl eb) (rv.grow g')⟩⟩
theorem st_any {j : Nat} (hr : RoomG j X.A) : StL X Z gSet := ⟨_, PSet.or set_list (set_dx (hu_g hr)), fun F H μ o i v vo vi vv R Q s ro ri rv q kk => by
  obtain ⟨a, rfl, q⟩ := q
  cases ro
  rcases q with ⟨xs, n, j, rfl, e, hj, q⟩ | ⟨c, c', e, hl, ep, q⟩
  · cases ri
    obtain ⟨_, us, e3, rr⟩ := s.obj _ _ e
    refine .inl ⟨a, us, n, j, rfl, rfl, e3, by rw [← rr.length]; exact hj, ?_⟩
    have g := s.putS (o := .lst (us.set j vv)) (m := .lst (xs.set j v)) e fun g' e' => ⟨_, e', (rr.grow g').set (rv.grow g') j⟩
    exact kk _ _ _ g q
  · obtain ⟨H', g, st⟩ := put_dic s e hl ep ri rv
    exact .inr ⟨a, H', rfl, g, kk _ _ _ st q⟩⟩
theorem set_l {μ : Mu} {b : Addr} {xs : List D} {i : Int} {j : Nat} {v : D} {R : Mu → Prop} (e : μ b = some (.lst xs)) (h : ixN xs.length i = some j) (q : R (mset μ b (.lst (xs.set j v)))) : gSet (.ref b) (.int i) v μ R := ⟨b, rfl, .inl ⟨xs, i, j, rfl, e, h, q⟩⟩
def vGet1 (to tk : TE3) : TE3 := fun δ μ R => to δ μ fun x μ1 => (dicOf μ1 x).isSome = true ∧ tk δ μ1 fun y μ2 => ∃ c r, dicOf μ2 x = some c ∧ c.get y = some r ∧ R (r.getD .non) μ2
def vGet2 (to tk tx : TE3) : TE3 := fun δ μ R => to δ μ fun x μ1 => (dicOf μ1 x).isSome = true ∧ tk δ μ1 fun y μ2 => tx δ μ2 fun z μ3 => ∃ c r, dicOf μ3 x = some c ∧ c.get y = some r ∧ R (r.getD z) μ3
def vDict0N : TE3 := fun _ μ R => ∀ q, μ q = none → R (.ref q) (mset μ q (.dcn []))
end
end L3
namespace L3
open PySem PySem.Spec PyProof.Rows L2
section
variable {K : Kn} {Z : Zn K} {F F' : Addr → Prop} {H H' : Hp} {μ μ' : Mu}
theorem Step.trk1 {p : Addr} {m : MO} (s0 : Sim Z F H μ) (s : Step Z F H μ F' H' μ') (hp : H p = none) (nF : ¬ F' p) (nμ : μ' p = none) (ok : MoOk K F' H' p m) : Step Z F H μ F' H' (mset μ' p m) := by
  refine s0.step s.grow (fun a u h n z => ?_) ⟨s.sim.dom, fun a o h => ?_⟩
  · obtain ⟨n1, h1, f1⟩ := s.fm a u h n z
    exact ⟨by rw [mset_ne (ne_of_none h hp)]; exact n1, h1, f1⟩
  · by_cases q : a = p
    · subst q
      rw [mset_same] at h
      cases h
      exact ⟨nF, ok⟩
    · rw [mset_ne q] at h
      exact s.sim.obj a o h
end
def pairD (kv : Key × D) : D := .tup [keyD kv.1, kv.2]
theorem Rpk.get {K : Kn} {F : Addr → Prop} {H : Hp} : ∀ {ds : List (Key × D)} {vs : List (Key × V)} {i : Nat} {k : Key} {v : V}, Rpk K F H ds vs → vs[i]? = some (k, v) → ∃ d, ds[i]? = some (k, d) ∧ Rp K F H d v
  | _, _, _, _, _, .nil, e => by simp at e
  | _, _, 0, _, _, .cons h _, e => by simp at e; obtain ⟨rfl, rfl⟩ := e; exact ⟨_, rfl, h⟩
  | _, _, i + 1, _, _, .cons _ r, e => by
    obtain ⟨d, e1, h⟩ := Rpk.get (i := i) r (by simpa using e)
    exact ⟨d, by simpa using e1, h⟩
section
variable {X : Cx} {Z : Zn X.kn} {tg e a b c : Expr} {es : List Expr} {te ta tb tc : TE3} {tr : TA3} {pos p apos cpos : Pos} {x : Str}
def iItm (te : TE3) : TI3 := fun δ μ R => te δ μ fun d μ1 => ∃ kvs, d = .dct kvs ∧ R (kvs.map pairD) (fun _ => True) μ1
def iVal (te : TE3) : TI3 := fun δ μ R => te δ μ fun d μ1 => ∃ kvs, d = .dct kvs ∧ R (kvs.map (·.2)) (fun _ => True) μ1
def anyI (R : List D → (Mu → Prop) → Mu → Prop) (μ1 : Mu) : D → Prop
  | .lst xs => R xs (fun _ => True) μ1
  | .scr xs => R xs (fun _ => True) μ1
  | .tup xs => R xs (fun _ => True) μ1
  | .str z => R (signsD z) (fun _ => True) μ1
  | .dct kvs => R (kvs.map fun kv => keyD kv.1) (fun _ => True) μ1
  | .etp _ _ => R [] (fun _ => True) μ1
  | .ref a => ∃ xs, μ1 a = some (.lst xs) ∧ R xs (fun μ => μ a = some (.lst xs)) μ1
  | _ => False
def iAny (te : TE3) : TI3 := fun δ μ R => te δ μ fun d μ1 => anyI R μ1 d
def enumD (ds : List D) : List D := (List.range ds.length).zipWith (fun i d => .tup [.int (i : Nat), d]) ds
def enmI (R : List D → (Mu → Prop) → Mu → Prop) (μ1 : Mu) : List D → Prop
  | [.lst xs] => R (enumD xs) (fun _ => True) μ1
  | [.scr xs] => R (enumD xs) (fun _ => True) μ1
  | [.ref a] => ∃ xs, μ1 a = some (.lst xs) ∧ R (enumD xs) (fun μ => μ a = some (.lst xs)) μ1
  | _ => False
def iEnm (ta : TA3) : TI3 := fun δ μ R => ta δ μ fun ds μ1 => enmI R μ1 ds
theorem enum_len (ds : List D) : (enumD ds).length = ds.length := by simp [enumD]
theorem enum_get {ds : List D} {i : Nat} {d : D} (h : ds[i]? = some d) : (enumD ds)[i]? = some (.tup [.int (i : Nat), d]) := by
  have hi : i < ds.length := (List.getElem?_eq_some_iff.mp h).1
  unfold enumD
  rw [List.getElem?_zipWith, List.getElem?_range hi, h]
theorem ite_ok {F : Addr → Prop} {H : Hp} {μ : Mu} {ds : List D} {Pm : Mu → Prop} {a : Addr} (h : ∀ F1 H1 μ1, Step Z F H μ F1 H1 μ1 → Pm μ1 → ∃ vs, SqL X.K H1 a vs ∧ Rps X.kn F1 H1 ds vs) : ItOk Z F H μ (enumD ds) Pm (Ite X.K a) := by
  refine ⟨fun F1 H1 μ1 i g hp hi => ?_, fun F1 H1 μ1 g hp => ?_, fun F1 H1 μ1 i x H2 g hp hy hi => ?_⟩
  · obtain ⟨vs, sq, rs⟩ := h F1 H1 μ1 g hp
    rw [enum_len] at hi
    obtain ⟨v, ev, _⟩ := rs.get (List.getElem?_eq_getElem hi)
    exact ⟨vs, v, sq, ev⟩
  · obtain ⟨vs, sq, rs⟩ := h F1 H1 μ1 g hp
    exact ⟨vs, sq, by rw [enum_len, rs.length]; exact Nat.le_refl _⟩
  · obtain ⟨vs, sq, rs⟩ := h F1 H1 μ1 g hp
    obtain ⟨T, y, rfl, nT, rfl, hy⟩ := hy
    obtain ⟨d, ed, rd⟩ := rs.back (hy vs sq)
    have g2 := g.sim.frzS (o := .tup [.int (i : Nat), y]) nT
    exact ⟨_, _, g2, enum_get ed, .tup (.inr rfl) upd_same (.cons (.int _) (.cons (rd.st g2) .nil))⟩
theorem i_enum {elts : List Expr} {kk : Nat} {tpos : Pos} (hm : X.mg "enumerate" = none) (ha : A3 X Z [e] tr) (hg : Gl X "enumerate" := by rfl) (hs : starEach [e] X.env = [(false, eval e X.env)] := by rfl) : I3 X Z (.Tuple elts kk tpos) (.Call (.Name "enumerate" p) [e] [] pos) (iEnm tr) := (pi_enum hg hm ha hs).imp fun σ H R3 h => by
  obtain ⟨F, δ, μ, R, s, sl, h, k⟩ := h
  refine ⟨F, δ, μ, _, s, sl, h, fun F1 vs H1 ds μ1 g r1 q1 => ?_⟩
  cases r1 with
  | nil => exact q1.elim
  | cons r t =>
  cases t with
  | cons _ _ => cases r <;> exact (show False from q1).elim
  | nil =>
  cases r with
  | lst f e rs => exact ⟨_, _, rfl, SqL.of e, k F1 H1 _ _ μ1 _ g (ite_ok fun F2 H2 μ2 g2 _ => lst_at (.lst f e rs) g2) q1⟩
  | scr f rs => exact ⟨_, _, rfl, f.sq, k F1 H1 _ _ μ1 _ g (ite_ok fun F2 H2 μ2 g2 _ => scr_at (.scr f rs) g2) q1⟩
  | ref a =>
    obtain ⟨xs, em, q1⟩ := q1
    obtain ⟨_, vs, e3, rs⟩ := g.sim.obj _ _ em
    refine ⟨a, vs, rfl, SqL.of e3, k F1 H1 _ _ μ1 _ g (ite_ok fun F2 H2 μ2 g2 hp => ?_) q1⟩
    obtain ⟨_, vs, e3, rs⟩ := g2.sim.obj _ _ hp
    exact ⟨vs, SqL.of e3, rs⟩
  | _ => exact (show False from q1).elim
def rgC (lo c : Int) (n : Nat) : List D := (List.range n).map fun i => .int (lo + (i : Nat) * c)
def iRgD (ta : TA3) : TI3 := fun δ μ R => ta δ μ fun ds μ1 => match ds with
  | [.int i, .int j, .int c] => c = -1 ∧ (-(2 ^ 62) ≤ i ∧ i < 2 ^ 62 ∧ -(2 ^ 62) ≤ j ∧ j < 2 ^ 62) ∧ R (rgC i (-1) (i - j).toNat) (fun _ => True) μ1
  | _ => False
def vStar (te : TE3) (tr : TA3) : TA3 := fun δ μ R => te δ μ fun x μ1 => ∃ xs, seqOf μ1 x = some xs ∧ tr δ μ1 fun ds μ2 => R (xs ++ ds) μ2
end
end L3
namespace L3
open PySem PySem.Spec PyProof.Rows L2
def GU (X : Cx) (scope : Scope) (tg : Expr) (g : TG3) (vs : List Nat) : Prop := ∃ g2, (∀ (s : Shared) (H : Hp) (C : Addr) (cl : List (Str × Addr)) (fp : List Addr), PG (X.blk s H scope (compEnvC scope cl C X.env) fp) tg g2) ∧ TgL X.kn g2 g vs
def GsU (X : Cx) (scope : Scope) (ts : List Expr) (gs : List TG3) (vs : List Nat) : Prop := ∃ g2, (∀ (s : Shared) (H : Hp) (C : Addr) (cl : List (Str × Addr)) (fp : List Addr), PGs (X.blk s H scope (compEnvC scope cl C X.env) fp) ts g2) ∧ TgsL X.kn g2 gs vs
section
variable {X : Cx} {Z : Zn X.kn} {scope : Scope} {tg : Expr} {ts : List Expr} {x : Str} {pos : Pos} {g : TG3} {gs : List TG3} {vs ws : List Nat}
theorem u_name (i : Nat) (h : ∀ (s : Shared) (H : Hp) (C : Addr) (cl : List (Str × Addr)) (fp : List Addr), PG (X.blk s H scope (compEnvC scope cl C X.env) fp) (.Name x pos) (gName i)) : GU X scope (.Name x pos) (gN i) [i] := ⟨gName i, h, tg_name i⟩
theorem us_nil : GsU X scope [] [] [] := ⟨gNil, fun _ _ _ _ _ => pgs_nil, ⟨fun F H σ δ δ' ds us Q sl r e k => by
  cases r with
  | nil => cases e; exact ⟨rfl, k σ (fun _ _ => rfl) sl⟩
  | cons h t => cases e⟩⟩
theorem us_cons (h1 : GU X scope tg g vs) (h2 : GsU X scope ts gs ws)
    (hs : ∀ (s : Shared) (H : Hp) (C : Addr) (cl : List (Str × Addr)) (fp : List Addr), (assignEach (tg :: ts) (X.blk s H scope (compEnvC scope cl C X.env) fp).env).map (·.2) = assign tg (X.blk s H scope (compEnvC scope cl C X.env) fp).env :: (assignEach ts (X.blk s H scope (compEnvC scope cl C X.env) fp).env).map (·.2) := by intros; rfl) : GsU X scope (tg :: ts) (g :: gs) (vs ++ ws) := by
  obtain ⟨a, ha, la⟩ := h1
  obtain ⟨b, hb, lb⟩ := h2
  refine ⟨gCons a b, fun s H C cl fp => pgs_cons (ha s H C cl fp) (hb s H C cl fp) (hs s H C cl fp), ⟨fun F H σ δ δ' ds us Q sl r e k => ?_⟩⟩
  cases r with
  | nil => cases e
  | @cons d v ds vs2 h t =>
    have e' : (g d δ).bind (fun δ'' => gGo gs ds δ'') = some δ' := e
    cases q : g d δ with
    | none => rw [q] at e'; cases e'
    | some δ1 =>
      rw [q] at e'
      refine ⟨v, vs2, rfl, ?_⟩
      refine la.run F H σ δ δ1 d v _ sl h q fun σ1 w1 sl1 => ?_
      exact lb.run F H σ1 δ1 δ' ds vs2 _ sl1 t e' fun σ2 w2 sl2 => k σ2 (fun us hu => (w2 us fun i hi => hu i (List.mem_append_right _ hi)).trans (w1 us fun i hi => hu i (List.mem_append_left _ hi))) sl2
theorem u_tup {n m : Nat} (hc : X.calm = true) (h : GsU X scope ts gs vs) (hm : gs.length = m := by rfl)
    (hn : ∀ (s : Shared) (H : Hp) (C : Addr) (cl : List (Str × Addr)) (fp : List Addr), (assignEach ts (X.blk s H scope (compEnvC scope cl C X.env) fp).env).length = m := by intros; rfl)
    (hst : ∀ (s : Shared) (H : Hp) (C : Addr) (cl : List (Str × Addr)) (fp : List Addr), (assignEach ts (X.blk s H scope (compEnvC scope cl C X.env) fp).env).findIdx? (·.1) = none := by intros; rfl) : GU X scope (.Tuple ts n pos) (gT gs) vs := by
  obtain ⟨a, ha, la⟩ := h
  exact ⟨_, fun s H C cl fp => (pg_tup (X := X.blk s H scope (compEnvC scope cl C X.env) fp) hc (ha s H C cl fp) (hn s H C cl fp) (hst s H C cl fp)).or (pg_lst (X := X.blk s H scope (compEnvC scope cl C X.env) fp) hc (ha s H C cl fp) (hn s H C cl fp) (hst s H C cl fp)), tl_tup la hm⟩
variable {elt iter kx vx : Expr} {ifs : List Expr} {own : List (Str × Nat)} {wi : TI3} {tt : TT3} {te tk tv : TE3} {j : Nat} {y : Str} {py spos : Pos}
theorem e_lcG (hc : X.calm = true) (hN : X.N.Nodup) (hi : I3 X Z tg iter wi) (ok : BlkOk X.N X.env.scope scope own) (hg : GU X scope tg g vs) (hv : ∀ i ∈ vs, i ∈ own.map (·.2))
    (ht : ∀ (s : Shared) (H : Hp) (C : Addr) (cl : List (Str × Addr)) (fp : List Addr), Ts3 (X.blk s H scope (compEnvC scope cl C X.env) fp) Z ifs tt)
    (he : ∀ (s : Shared) (H : Hp) (C : Addr) (cl : List (Str × Addr)) (fp : List Addr), E3 (X.blk s H scope (compEnvC scope cl C X.env) fp) Z elt te)
    (hs : ∀ x, foldedSetIterable iter X.env x = pure x := by intro _; rfl) : E3 X Z (.ListComp elt [⟨tg, iter, ifs, 0⟩] scope pos) (vLc wi g tt te (own.map (·.2))) := by
  obtain ⟨g2, h2, lg⟩ := hg
  exact e_lc hc hN hi ok lg hv h2 ht he hs
def vLcT (wi : TI3) (g : TG3) (tt : TT3) (te : TE3) (vs : List Nat) : TE3 := fun δ μ R => wi δ μ fun ds Pm μ1 => lcW Pm g tt te (wipe3 δ vs) (fun out μ2 => ∀ q, μ2 q = none → R (.ref q) (mset μ2 q (.lst out))) ds [] μ1
def dic0 (nn : Bool) : Dic := if nn then .n [] else .k []
def dcW (Pm : Mu → Prop) (g : TG3) (tt : TT3) (tk tv : TE3) (δ : St3) (R : Dic → Mu → Prop) : List D → Dic → Mu → Prop
  | [], acc, μ => Pm μ ∧ R acc μ
  | d :: ds, acc, μ => Pm μ ∧ acc.length < sizeLine ∧ match g d δ with
    | some δ' => tt δ' μ fun b μ1 => if b = true then tk δ' μ1 fun y μ2 => tv δ' μ2 fun z μ3 => ∃ acc', acc.put y z = some acc' ∧ dcW Pm g tt tk tv δ R ds acc' μ3 else dcW Pm g tt tk tv δ R ds acc μ1
    | none => False
def vDc (nn tr : Bool) (wi : TI3) (g : TG3) (tt : TT3) (tk tv : TE3) (vs : List Nat) : TE3 := fun δ μ R => wi δ μ fun ds Pm μ1 => dcW Pm g tt tk tv (wipe3 δ vs) (fun out μ2 => if tr then ∀ q, μ2 q = none → R (.ref q) (mset μ2 q out.mo) else R out.fz μ2) ds (dic0 nn) μ1
def DicW (K : Kn) (F : Addr → Prop) (H : Hp) (a : Addr) : Dic → Prop
  | .k kvs => ∃ ks, H a = some (.dK ks) ∧ Rpk K F H kvs ks
  | .n kvs => ∃ ks, H a = some (dcnO K a ks) ∧ Rpn K F H kvs ks
theorem DicW.put {K : Kn} {F : Addr → Prop} {H : Hp} {a : Addr} {c c' : Dic} {i v : D} {vi vv : V} (h : DicW K F H a c) (hl : c.length < sizeLine) (e : c.put i v = some c') (ri : Rp K F H i vi) (rv : Rp K F H v vv) :
    ∃ o, DPx K H a vi vv (upd H a o) ∧ ∀ {F' : Addr → Prop} {H' : Hp}, Grow F H F' H' → H' a = some o → DicW K F' H' a c' := by
  cases c with
  | k kvs =>
    obtain ⟨q, eq, rfl⟩ := Option.map_eq_some_iff.mp (show (keyOf i).map (fun q => Dic.k (putD kvs q v)) = some c' from e)
    obtain ⟨ks, e3, rs⟩ := h
    obtain rfl := keyOf_ok ri eq
    exact ⟨_, .inl ⟨ks, q, e3, rfl, by rw [← rs.length]; exact hl, rfl⟩, fun g' e' => ⟨_, e', (rs.grow g').put (rv.grow g')⟩⟩
  | n kvs =>
    obtain ⟨q, eq, rfl⟩ := Option.map_eq_some_iff.mp (show (lkOf i).map (fun q => Dic.n (putN kvs q v)) = some c' from e)
    obtain ⟨ks, e3, rs⟩ := h
    obtain ⟨b, rfl, fb, eb⟩ := lk_ok ri eq
    exact ⟨_, .inr ⟨ks, q, b, e3, rs.keysX, rfl, eb, by rw [← rs.length]; exact hl, rfl⟩, fun g' e' => ⟨_, e', (rs.grow g').put (g'.mono _ fb) (g'.fix _ _ fb rfl eb) (rv.grow g')⟩⟩
theorem DicW.grow {K : Kn} {F F' : Addr → Prop} {H H' : Hp} {a : Addr} {c : Dic} (h : DicW K F H a c) (g : Grow F H F' H') (e : H' a = H a) : DicW K F' H' a c := by
  cases c with
  | k kvs => obtain ⟨ks, e3, rs⟩ := h; exact ⟨ks, by rw [e]; exact e3, rs.grow g⟩
  | n kvs => obtain ⟨ks, e3, rs⟩ := h; exact ⟨ks, by rw [e]; exact e3, rs.grow g⟩
theorem DicW.some {K : Kn} {F : Addr → Prop} {H : Hp} {a : Addr} {c : Dic} (h : DicW K F H a c) : ∃ o, H a = some o := by
  cases c with
  | k kvs => obtain ⟨ks, e3, rs⟩ := h; exact ⟨_, e3⟩
  | n kvs => obtain ⟨ks, e3, rs⟩ := h; exact ⟨_, e3⟩
end
end L3
namespace L3
open PySem PySem.Spec PyProof.Rows L2
section
variable {X : Cx} {Z : Zn X.kn} {e a b c o : Expr} {es : List Expr} {te ta tb tc to : TE3} {tr : TA3} {pos p apos cpos : Pos} {x y z : Str} {i j l : Nat}
def sPar2 (i j : Nat) (ta : TA3) : TS3 := fun D δ μ => ta δ μ fun ds μ1 => match ds with
  | [v, w] => D.nx ((δ.set i (some v)).set j (some w)) μ1
  | _ => False
def sPar3 (i j l : Nat) (ta : TA3) : TS3 := fun D δ μ => ta δ μ fun ds μ1 => match ds with
  | [u, v, w] => D.nx (((δ.set i (some u)).set j (some v)).set l (some w)) μ1
  | _ => False
def vItems (te : TE3) : TE3 := fun δ μ R => te δ μ fun x μ1 => ∃ kvs, dctOf μ1 x = some kvs ∧ R (.lst (kvs.map pairD)) μ1
def vRev (te : TE3) : TE3 := fun δ μ R => te δ μ fun x μ1 => ∃ xs, rdL μ1 x = some xs ∧ R (.lst xs.reverse) μ1
def vLRg (trk : Bool) (ta : TE3) : TE3 := fun δ μ R => ta δ μ fun x μ1 => ∃ n, x = .int n ∧ 0 ≤ n ∧ n ≤ 16777216 ∧ (if trk then ∀ q, μ1 q = none → R (.ref q) (mset μ1 q (.lst (rgD 0 n.toNat))) else R (.lst (rgD 0 n.toNat)) μ1)
inductive FrSl (μ μ' : Mu) : St3 → St3 → Prop
  | nil : FrSl μ μ' [] []
  | some {d d' : D} {δ δ' : St3} : Fr μ μ' d d' → FrSl μ μ' δ δ' → FrSl μ μ' (some d :: δ) (some d' :: δ')
  | none {o : Option D} {δ δ' : St3} : FrSl μ μ' δ δ' → FrSl μ μ' (o :: δ) (none :: δ')
theorem Sl.frz {K : Kn} {F : Addr → Prop} {H : Hp} {μ μ' : Mu} (s : Sim0 K F H μ) {δ δ' : St3} (f : FrSl μ μ' δ δ') : ∀ {σ : L2.St}, Sl K F H σ δ → Sl K (gone F μ μ') H σ δ' := by
  have key : ∀ {δ δ' : St3}, FrSl μ μ' δ δ' → δ.length = δ'.length ∧ ∀ (i : Nat) (d' : D), δ'[i]? = some (some d') → ∃ d : D, δ[i]? = some (some d) ∧ Fr μ μ' d d' := by
    intro δ δ' f
    induction f with
    | nil => exact ⟨rfl, fun i d' e => by simp at e⟩
    | some h _ ih =>
      refine ⟨by rw [List.length_cons, List.length_cons, ih.1], fun i d' e => ?_⟩
      cases i with
      | zero => simp at e; subst e; exact ⟨_, rfl, h⟩
      | succ i => simpa using ih.2 i d' (by simpa using e)
    | none _ ih =>
      refine ⟨by rw [List.length_cons, List.length_cons, ih.1], fun i d' e => ?_⟩
      cases i with
      | zero => simp at e
      | succ i => simpa using ih.2 i d' (by simpa using e)
  intro σ sl
  obtain ⟨h1, h2⟩ := key f
  refine ⟨by rw [sl.len, h1], fun i d' e => ?_⟩
  obtain ⟨d, e1, fr⟩ := h2 i d' e
  obtain ⟨v, e2, r⟩ := sl.at_ i d e1
  exact ⟨v, e2, Rp.gone s fr r⟩
end
end L3
namespace L3
open PySem PySem.Spec PyProof.Rows L2
section
variable {X : Cx} {Z : Zn X.kn} {e a b c o o2 kx v : Expr} {es : List Expr} {te ta tb tc to to2 tk tv : TE3} {tr : TA3} {pos p apos cpos : Pos} {x y z : Str} {i j l : Nat} {n f f2 : Str}
def sFld2 (n f f2 : Str) (te to to2 : TE3) : TS3 := fun D δ μ => te δ μ fun d μ1 => ∃ d1 d2, d = .tup [d1, d2] ∧ to δ μ1 fun x μ2 => ∃ a fs, x = .ref a ∧ μ2 a = some (.ins n fs) ∧ fs.length < 1000 ∧
  to2 δ (mset μ2 a (.ins n (putFD f d1 fs))) fun x2 μ3 => ∃ a2 fs2, x2 = .ref a2 ∧ μ3 a2 = some (.ins n fs2) ∧ fs2.length < 1000 ∧ D.nx δ (mset μ3 a2 (.ins n (putFD f2 d2 fs2)))
def vDispT (trs : List (TE3 × TE3)) : TE3 := fun δ μ R => vPairs trs δ μ fun ps μ1 => ∃ kvs, keysOf ps = some kvs ∧ kvs.length ≤ 15 ∧ ∀ q, μ1 q = none → R (.ref q) (mset μ1 q (.dct (mergeD [] kvs)))
theorem e_dispT {keys : List (Option Expr)} {values : List Expr} {trs : List (TE3 × TE3)} (h : Ps3 X Z pos keys values trs) (hall : keys.all (·.isSome) = true := by rfl) (hl : keys.length = values.length := by rfl) (h0 : keys ≠ [] := by simp) (h15 : keys.length ≤ 15 := by simp) :
    E3 X Z (.Dict keys values pos) (vDispT trs) := (pe_disp h hall hl h0 h15).imp fun σ H Q h => by
  obtain ⟨F, δ, μ, R, s, sl, h, k⟩ := h
  intro p hp
  have g := s.newS (o := .dK []) hp
  have nF : ¬ F p := fun f => by
    obtain ⟨u, hu⟩ := s.dom p f
    rw [hp] at hu
    cases hu
  refine low_pairs g.sim (sl.st g) h fun F1 vs H1 ds μ1 g1 r1 q1 => ?_
  obtain ⟨n1, e1, f1⟩ := g1.fm p _ upd_same (s.free hp) nF
  obtain ⟨kvs, ek, hz, q1⟩ := q1
  obtain ⟨ks, rfl, rk⟩ := r1.keys ek
  refine ⟨e1, ks, rfl, by rw [← rk.length]; exact hz, ?_⟩
  have gg := (g.trans g1).priv (o := .dK (mergeK [] ks)) s hp f1 n1
  have gp := (g1.sim.raw.priv (o := .dK (mergeK [] ks)) f1 n1).1
  have g2 := gg.trk1 (m := .dct (mergeD [] kvs)) s hp f1 n1 ⟨_, upd_same, (Rpk.merge rk .nil).grow gp⟩
  exact k _ _ _ _ _ g2 (.ref p) (q1 p n1)
end
def Src.own : Src → Bool
  | .dfl _ => false
  | _ => true
theorem picks_own {α : Type} {z : α} {us ws ds ds' : List α} : ∀ {os : List Src}, os.all Src.own = true → picks z os us ws ds = picks z os us ws ds'
  | [], _ => rfl
  | o :: os, h => by
    rw [List.all_cons, Bool.and_eq_true] at h
    unfold picks
    rw [List.map_cons, List.map_cons]
    congr 1
    · cases o with
      | dfl _ => cases h.1
      | _ => rfl
    · exact picks_own h.2
theorem Bd3.drop {K : PySem.W.Frag} {fd : FuncData} {ps : List Str} {n : Nat} {ks : List Str} {os : List Src} {dfl : List V} (h : Bd3 K fd ps n ks os dfl) (ho : os.all Src.own = true := by rfl) : Bd3 K fd ps n ks os [] := by
  obtain ⟨hl, ds, rd, hb⟩ := h
  exact ⟨hl, [], .nil, fun s us ws X l1 l2 => by rw [picks_own (ds' := ds) ho]; exact hb s us ws X l1 l2⟩
section
variable {X : Cx} {Z : Zn X.kn} {X0 : CXT} {e o : Expr} {es : List Expr} {tr : TA3} {to : TE3} {pos apos : Pos} {k : Nat} {sp : Sp3} {lsp : Sp} {E : XK} {j : Nat} {n m : Str}
def vMetA (n m : Str) (cnt : Nat) (sp : Sp3) (to : TE3) (tr : TA3) : TE3 := fun δ μ R => to δ μ fun x μ1 => ∃ fs, insOf μ1 n x = some fs ∧ fs.lookup m = none ∧ tr δ μ1 fun ds μ2 => ds.length = cnt ∧ sp (x :: ds) μ2 R
end
end L3
namespace L3
open PySem PySem.Spec PyProof.Rows L2
inductive Eqs (μ : Mu) : Nat → D → D → Bool → Prop
  | flat {n : Nat} {x y : D} : flatD x = true → flatD y = true → Eqs μ n x y (eqD x y)
  | lstR {n : Nat} {x y : D} {xs ys : List D} {e same : Nat → Bool} : lstOf μ x = some xs → lstOf μ y = some ys → xs.length = ys.length → (∀ j a b, xs[j]? = some a → ys[j]? = some b → same j = false → Eqs μ n a b (e j)) →
      (∀ j a b, xs[j]? = some a → ys[j]? = some b → same j = true → (∃ p, a = .ref p ∧ b = .ref p) ∧ e j = true) → Eqs μ (n + 1) x y ((List.range xs.length).all e)
  | len {n : Nat} {x y : D} {xs ys : List D} : lstOf μ x = some xs → lstOf μ y = some ys → xs.length ≠ ys.length → Eqs μ (n + 1) x y false
  | tup {n : Nat} {xs ys : List D} {e : Nat → Bool} : (∀ j a b, xs[j]? = some a → ys[j]? = some b → Eqs μ n a b (e j)) → Eqs μ (n + 1) (.tup xs) (.tup ys) ((List.range (min xs.length ys.length)).all e && xs.length == ys.length)
  | dct {n : Nat} {x y : D} {ks ls : List (Key × D)} {e : Key → Bool} : dctOf μ x = some ks → dctOf μ y = some ls → (∀ k a b, valD ks k = some a → valD ls k = some b → Eqs μ n a b (e k)) → Eqs μ (n + 1) x y (ks.length == ls.length && ks.all fun p => (valD ls p.1).isSome && e p.1)
theorem Eqs.lst {μ : Mu} {n : Nat} {x y : D} {xs ys : List D} {e : Nat → Bool} (h1 : lstOf μ x = some xs) (h2 : lstOf μ y = some ys) (h3 : xs.length = ys.length) (h4 : ∀ j a b, xs[j]? = some a → ys[j]? = some b → Eqs μ n a b (e j)) : Eqs μ (n + 1) x y ((List.range xs.length).all e) :=
  .lstR (same := fun _ => false) h1 h2 h3 (fun j a b ha hb _ => h4 j a b ha hb) (fun _ _ _ _ _ z => by cases z)
section
variable {K : Kn} {Z : Zn K} {F : Addr → Prop} {H : Hp} {μ : Mu}
theorem eqD_self {x : D} (h : flatD x = true) : eqD x x = true := by
  cases x <;> first | rfl | (cases h; done) | simp [eqD]
theorem flat_inj {x y : D} {v : V} (r : Rp K F H x v) (q : Rp K F H y v) (h : flatD x = true) (h' : flatD y = true) : x = y := by
  cases r <;> first | (cases h; done) | (cases q <;> first | rfl | (cases h'; done))
theorem rd_dK {p : Addr} {vs us : List (Key × V)} (h : Rd H p (.dK vs)) (h' : Rd H p (.dK us)) : vs = us := by
  rcases h with h | ⟨o, h⟩ <;> rcases h' with h' | ⟨o', h'⟩ <;> rw [h] at h' <;> cases h' <;> rfl
theorem Rpk.val' {ds : List (Key × D)} {vs : List (Key × V)} {k : Key} {d : D} (r : Rpk K F H ds vs) (h : valD ds k = some d) : ∃ v, valV vs k = some v ∧ Rp K F H d v := (Rpk.val (k := k) r).1 d h
theorem Rpk.some {ds : List (Key × D)} {vs : List (Key × V)} (r : Rpk K F H ds vs) (k : Key) : (valD ds k).isSome = (valV vs k).isSome := by
  obtain ⟨h1, h2⟩ := Rpk.val (k := k) r
  cases e : valD ds k with
  | none => rw [h2 e]; rfl
  | some d => obtain ⟨v, e2, _⟩ := h1 d e; rw [e2]; rfl
theorem valD_mem {ds : List (Key × D)} {p : Key × D} (h : p ∈ ds) : ∃ d, valD ds p.1 = some d := by
  unfold valD
  cases e : ds.find? fun kv => decide (kv.1 = p.1) with
  | none => rw [List.find?_eq_none] at e; exact absurd (by simp) (e p h)
  | some q => exact ⟨q.2, rfl⟩
theorem Eqs.same (s : Sim Z F H μ) {n : Nat} {x y : D} {b : Bool} (h : Eqs μ n x y b) : ∀ {v : V}, Rp K F H x v → Rp K F H y v → b = true := by
  induction h with
  | flat hx hy => intro v r q; rw [flat_inj r q hx hy]; exact eqD_self hy
  | @lstR n x y xs ys e same ex ey hl _ hs ih =>
    intro v r q
    obtain ⟨p, vs, rfl, e1, r1⟩ := lst_of s r ex
    obtain ⟨p2, us, e0, e2, r2⟩ := lst_of s q ey
    cases e0
    rw [e1] at e2
    cases e2
    refine List.all_eq_true.mpr fun j hj => ?_
    rw [List.mem_range] at hj
    obtain ⟨w, e3, r3⟩ := r1.get (List.getElem?_eq_getElem hj)
    obtain ⟨w2, e4, r4⟩ := r2.get (List.getElem?_eq_getElem (hl ▸ hj))
    rw [e3] at e4
    cases e4
    cases z : same j with
    | true => exact (hs j _ _ (List.getElem?_eq_getElem hj) (List.getElem?_eq_getElem (hl ▸ hj)) z).2
    | false => exact ih j _ _ (List.getElem?_eq_getElem hj) (List.getElem?_eq_getElem (hl ▸ hj)) z r3 r4
  | len ex ey hl =>
    intro v r q
    obtain ⟨p, vs, rfl, e1, r1⟩ := lst_of s r ex
    obtain ⟨p2, us, e0, e2, r2⟩ := lst_of s q ey
    cases e0
    rw [e1] at e2
    cases e2
    exact absurd (r1.length.trans r2.length.symm) hl
  | @tup n xs ys e _ ih =>
    intro v r q
    cases r with
    | tup f e1 r1 =>
      cases q with
      | tup f2 e2 r2 =>
        rw [e1] at e2
        cases e2
        have hl : xs.length = ys.length := r1.length.trans r2.length.symm
        rw [Bool.and_eq_true]
        refine ⟨List.all_eq_true.mpr fun j hj => ?_, by simp [hl]⟩
        rw [List.mem_range] at hj
        have j1 : j < xs.length := by omega
        have j2 : j < ys.length := by omega
        obtain ⟨w, e3, r3⟩ := r1.get (List.getElem?_eq_getElem j1)
        obtain ⟨w2, e4, r4⟩ := r2.get (List.getElem?_eq_getElem j2)
        rw [e3] at e4
        cases e4
        exact ih j _ _ (List.getElem?_eq_getElem j1) (List.getElem?_eq_getElem j2) r3 r4
  | @dct n x y ks ls e ex ey _ ih =>
    intro v r q
    obtain ⟨p, vs, rfl, e1, r1⟩ := dct_of s r ex
    obtain ⟨p2, us, e0, e2, r2⟩ := dct_of s q ey
    cases e0
    have := rd_dK e1 e2
    subst this
    rw [Bool.and_eq_true]
    refine ⟨by simp [r1.length, r2.length], List.all_eq_true.mpr fun kd hk => ?_⟩
    obtain ⟨d, hd⟩ := valD_mem hk
    obtain ⟨w, e3, r3⟩ := r1.val' hd
    have hs : (valD ls kd.1).isSome = true := by rw [r2.some, e3]; rfl
    obtain ⟨d2, hd2⟩ := Option.isSome_iff_exists.mp hs
    obtain ⟨w2, e4, r4⟩ := r2.val' hd2
    rw [e3] at e4
    cases e4
    rw [hs, Bool.true_and]
    exact ih kd.1 d d2 hd hd2 r3 r4
end
section
variable {X : Cx} {Z : Zn X.kn} {F : Addr → Prop} {H : Hp} {μ : Mu} {pins : List (Addr × Obj)} {s : Shared} {σ : L2.St}
theorem Inv.dic (I : Inv X pins σ H s) {p : Addr} {vs : List (Key × V)} (h : Rd H p (.dK vs)) : (p == sysModules) = false ∧ ∃ us, KV vs us ∧ s.heap.DictOf (mixKind X.prog X.w) p us := by
  rcases h with h | ⟨o, h⟩
  · obtain ⟨_, y, us, r, d⟩ := (show ObjOk X.prog X.w H s.heap p (.dK vs) from I.hok p _ h)
    exact ⟨y, us, r, d⟩
  · obtain ⟨_, _, y, us, r, d⟩ := (show ObjOk X.prog X.w H s.heap p (.frz o (.dK vs)) from I.hok p _ h)
    exact ⟨y, us, r, d⟩
end
end L3
namespace L3
open PySem PySem.Spec PyProof.Rows L2
section
variable {X : Cx} {Z : Zn X.kn}
def vDZip (trk : Bool) (ta : TA3) : TE3 := fun δ μ R => ta δ μ fun ds μ1 => ∃ (x y : D) (ks : List Key) (ys : List D), ds = [x, y] ∧ rdL μ1 x = some (ks.map keyD) ∧ seqOf μ1 y = some ys ∧
  (if trk then ∀ q, μ1 q = none → R (.ref q) (mset μ1 q (.dct (mergeD [] (ks.zip ys)))) else R (.dct (mergeD [] (ks.zip ys))) μ1)
end
end L3
namespace PySem
structure XNew (B newId : String) : Prop where
  ends : newId.endsWith ".__new__" = true
  owner : newId.dropRight 8 = B
  entry : entryFor table newId = some Builtin.«BaseException.__new__»
  split : splitId newId = some (B, "__new__")
  kind : builtinKind newId = some .builtinFn
  row : Manifest.signature? newId = some ⟨.any, B, B, .cls, [⟨"args", .varPos, false⟩, ⟨"kwargs", .varKw, false⟩]⟩
  canon : Manifest.canonical newId = Manifest.canonical "BaseException.__new__"
  quiet : newId.startsWith "lifetime." = false
  star : (B != "*") = true
structure XIni (B initId : String) : Prop where
  plain : plainId initId = true
  entry : entryFor table initId = some Builtin.«BaseException.__init__»
  split : splitId initId = some (B, "__init__")
  kind : builtinKind initId = some .slot
  row : Manifest.signature? initId = some ⟨.positional, "*", B, .self, [⟨"args", .varPos, false⟩]⟩
  star : (B != "*") = true
theorem XNew.of {B newId initId : String} {bm : List Value} (F : ExcBaseFacts B newId initId bm) : XNew B newId := ⟨F.ends, F.owner, F.entry, F.newSplit, F.newKind, F.newRow, F.canon, F.quiet, F.noStar⟩
theorem XIni.of {B newId initId : String} {bm : List Value} (F : ExcBaseFacts B newId initId bm) : XIni B initId := ⟨F.init.plain, F.initEntry, F.initSplit, F.initKind, F.initRow, F.noStar⟩
theorem xini_KeyError : XIni "KeyError" "KeyError.__init__" := ⟨by decide +kernel, entryFor_alias (id' := "BaseException.__init__") (by rw [fastTable_eq_tree]; kernel_rfl) (by first | rfl | decide +kernel) (by decide +kernel) (by rw [fastTable_eq_tree]; kernel_rfl), by kernel_rfl, by kernel_rfl, by kernel_rfl, by decide +kernel⟩
namespace XO
open Builtin Builtin.ObjectAttr PySem.HandSPX
section
variable {prog : Program} {w : World} {A : Around} {E : Value → Shared → Prop} {R : Result → Shared → Prop} {h : Heap} {g : Array GenState} {d : Drawn} {t : Nat} {os : OsState}
variable {nm q : Str} {C N : Addr} {bs bm : List Value} {hdct : Bool} {sn : List Str} {sub : List Value} {ab : Bool} {col : Option Bool} {dd : Option Addr} {k0 k1 k2 k3 k5 : Option Value} {B newId initId : String} {rest : List Value}
theorem chk_new (F : XNew B newId) (hB : bm.contains (.type B) = true) {Q : Unit → Shared → Prop} (hC : h.get? C = some (excClassObj nm q C N bs bm hdct sn sub ab col dd k0 k1 k2 k3 k5 newId)) (hq : Q () ⟨h, g, d, t, os⟩) :
    wpAny (model prog w) A (checkBuiltinCall newId ⟨.ref C :: rest, []⟩) Q E ⟨h, g, d, t, os⟩ := by
  have has : (Value.ref C :: bm).contains (.type B) = true := by rw [List.contains_cons, hB, Bool.or_true]
  have st := F.star
  simp only [checkBuiltinCall, F.kind, F.split, F.row]
  repeat (first | refine wpAny_loadPart_at hC ?_ | (refine wpAny_isSubtype_exc hC ?_; rw [has]) | refine wpAny_staticBase_exc hC ?_ | refine wpAny_madeBy_exc hC ?_ | simp only [bne_self_eq_false, Bool.false_eq_true, if_false] | wp_step)
  exact hq
theorem chk_ini (F : XIni B initId) (hB : bm.contains (.type B) = true) {e : Addr} {oe : Obj} {Q : Unit → Shared → Prop} (hC : h.get? C = some (excClassObj nm q C N bs bm hdct sn sub ab col dd k0 k1 k2 k3 k5 newId)) (he : h.get? e = some oe) (hcl : oe.cls = .ref C)
    (hq : Q () ⟨h, g, d, t, os⟩) : wpAny (model prog w) A (checkBuiltinCall initId ⟨.ref e :: rest, []⟩) Q E ⟨h, g, d, t, os⟩ := by
  have has : (Value.ref C :: bm).contains (.type B) = true := by rw [List.contains_cons, hB, Bool.or_true]
  have st := F.star
  simp only [checkBuiltinCall, F.kind, F.split, F.row]
  repeat (first | (with_reducible refine wpAny_loadPart_at he ?_; rw [hcl]) | with_reducible refine wpAny_loadPart_at hC ?_ | (with_reducible refine wpAny_isSubtype_exc hC ?_; rw [has]) | wp_step)
  refine wpAny_onRaise ?_
  rw [show ∀ (x y : String) (n : Nat), Bind.check ⟨.positional, "*", B, .self, [⟨"args", .varPos, false⟩]⟩ x y n (List.map (fun z => z.fst) ({ pos := Value.ref e :: rest } : Args).kw) = pure () from fun x y n => check_star_args _ _ _ _ _ _]
  exact wpAny_pure hq
theorem go_new (F : XNew B newId) (hB : bm.contains (.type B) = true) (hA : bm.contains (.type "AttributeError") = false) (hN : bm.contains (.type "NameError") = false) (hC : h.get? C = some (excClassObj nm q C N bs bm hdct sn sub ab col dd k0 k1 k2 k3 k5 newId))
    (hq : R (.ok (.ret (.ref (h.objs.size + 1)))) ⟨(h.push (W.kdv_tup rest)).push (excO C h.objs.size), g, d, t, os⟩) (hz : rest.length ≤ sizeLine) :
    codeAny (model prog w) A (.builtin newId ⟨.ref C :: rest, []⟩) R ⟨h, g, d, t, os⟩ := by
  have en := F.ends
  have c1 : (Value.ref C :: bm).contains (.type B) = true := by rw [List.contains_cons, hB, Bool.or_true]
  have c2 : (Value.ref C :: bm).contains (.type "AttributeError") = false := by rw [List.contains_cons, hA]; rfl
  have c3 : (Value.ref C :: bm).contains (.type "NameError") = false := by rw [List.contains_cons, hN]; rfl
  refine codeAny_builtinAt F.entry ?_
  unfold Builtin.«BaseException.__new__»
  refine wpAt_bind (show wpAt _ _ _ (stack >>= _) _ _ _ from wpAt_bind (wpAt_stack fun p below => wpAt_of_wpAny ?_))
  wp_walk
  refine wpAt_of_wpAny ?_
  rw [F.owner]
  repeat (first | with_reducible refine wpAny_madeHere_exc F.canon hC ?_ | with_reducible refine wpAny_loadPart_at hC ?_ | (with_reducible refine wpAny_isSubtype_exc hC ?_; first | rw [c1] | rw [c2] | rw [c3]) | wp_step)
  show R _ _
  rw [Heap.size_push]
  exact hq
theorem go_call (F : XNew B newId) (hB : bm.contains (.type B) = true) (hA : bm.contains (.type "AttributeError") = false) (hN : bm.contains (.type "NameError") = false) {fI : Addr} {Q : Fin → Shared → Prop} (hC : h.get? C = some (excClassObj nm q C N bs bm hdct sn sub ab col dd k0 k1 k2 k3 k5 newId))
    (hi : W.Looks (model prog w) h (typeLookup (.ref C) "__init__") (some (.ref fI))) (hb : ∀ self, W.Looks (model prog w) h (bindSpecial (.ref fI) self) (.ref fI, [self])) (hz : rest.length ≤ sizeLine)
    (hq : codeAny (model prog w) A (.call (.ref fI) ⟨.ref (h.objs.size + 1) :: rest, []⟩) (fun r s' => match r with | .ok (.ret v) => v = .none ∧ Q (.done (.ret (.ref (h.objs.size + 1)))) s' | .ok _ => False | .error e => E e s')
      ⟨(h.push (W.kdv_tup rest)).push (excO C h.objs.size), g, d, t, os⟩) : wpAny (model prog w) A (Builtin.«type.__call__» ⟨.ref C :: rest, []⟩) Q E ⟨h, g, d, t, os⟩ := by
  repeat (first | with_reducible refine wpAny_loadPart_at hC ?_ | with_reducible refine wpAny_madeBy_exc hC ?_ | wp_step)
  refine codeAny_call_builtin_code (Code.quiet_builtin _ F.quiet) (chk_new F hB hC (go_new F hB hA hN hC ?_ hz))
  show wpAny _ _ _ _ _ _
  have kp : ∀ b o, h.get? b = some o → ((h.push (W.kdv_tup rest)).push (excO C h.objs.size)).get? b = some o := fun b o e => Heap.get?_push_of_some _ (Heap.get?_push_of_some _ e)
  have c2 := kp _ _ hC
  have at1 : ((h.push (W.kdv_tup rest)).push (excO C h.objs.size)).get? (h.objs.size + 1) = some (excO C h.objs.size) := by heap_get
  have self : (Value.ref C :: bm).contains (.ref C) = true := by simp
  have i1 := hi.keeps kp
  have b1 := (hb (.ref (h.objs.size + 1))).keeps kp
  unfold isInstance
  repeat (first | with_reducible refine wpAny_loadPart_at at1 ?_ | (with_reducible refine wpAny_isSubtype_exc c2 ?_; rw [self]) | wp_step)
  refine (show wpAny _ _ (typeLookup (.ref C) _) _ _ _ from i1.at (wpAny_holding (wpAny_bind (b1.at (wpAny_bind (wpAny_call (codeAny_mono hq fun r s' z => ?_)))))))
  rcases r with e | (v | _ | _ | _) <;> first | exact z | exact z.elim | skip
  obtain ⟨rfl, z⟩ := z
  first
    | exact wpAny_pure (wpAny_pure z)
    | (wp_walk; exact z)
theorem go_made (F : XNew B newId) (hB : bm.contains (.type B) = true) (hA : bm.contains (.type "AttributeError") = false) (hN : bm.contains (.type "NameError") = false) {fI : Addr} (hC : h.get? C = some (excClassObj nm q C N bs bm hdct sn sub ab col dd k0 k1 k2 k3 k5 newId))
    (hi : W.Looks (model prog w) h (typeLookup (.ref C) "__init__") (some (.ref fI))) (hb : ∀ self, W.Looks (model prog w) h (bindSpecial (.ref fI) self) (.ref fI, [self])) (hz : rest.length ≤ sizeLine)
    (hq : codeAny (model prog w) (A.under (.builtin "type.__call__" ⟨.ref C :: rest, []⟩)) (.call (.ref fI) ⟨.ref (h.objs.size + 1) :: rest, []⟩) (W.InitBack (h.objs.size + 1) R) ⟨(h.push (W.kdv_tup rest)).push (excO C h.objs.size), g, d, t, os⟩) :
    codeAny (model prog w) A (.call (.ref C) ⟨rest, []⟩) R ⟨h, g, d, t, os⟩ := by
  have f1 := tc_lookup
  have f2 := tc_bind (.ref C)
  have ty : (⟨h, g, d, t, os⟩ : Shared).TypeIs (.ref C) "type" := ⟨_, hC, rfl⟩
  refine codeAny_of_tree (show wpAny _ _ (callAny (.ref C) _) _ _ _ from ?_)
  repeat (any_goals (first | assumption | with_reducible refine wpAny_loadPart_at hC ?_ | wp_step))
  refine ⟨rfl, codeAny_call_builtin_at (Code.quiet_builtin _ (by decide +kernel)) entry_typeCall (wpAny_check_type_call_sub hC (go_call F hB hA hN hC hi hb hz (codeAny_mono hq fun r s' z => ?_)))⟩
  rcases r with e | (v | _ | _ | _) <;> exact z
theorem go_ini (F : XIni B initId) (hB : bm.contains (.type B) = true) {e t0 : Addr} (hC : h.get? C = some (excClassObj nm q C N bs bm hdct sn sub ab col dd k0 k1 k2 k3 k5 newId)) (he : h.get? e = some (excO C t0)) (hz : rest.length ≤ sizeLine)
    (hq : ∀ h' t1, (∀ b o, b ≠ e → h.get? b = some o → h'.get? b = some o) → h'.get? e = some (excO C t1) → R (.ok (.ret .none)) ⟨h', g, d, t, os⟩) : codeAny (model prog w) A (.call (.builtin initId) ⟨.ref e :: rest, []⟩) R ⟨h, g, d, t, os⟩ := by
  refine codeAny_call_builtin F.plain F.entry (chk_ini F hB hC he rfl ?_)
  wp_walk
  exact hq _ h.objs.size (fun b o hb ho => by rw [Heap.get?_update_other _ _ (Ne.symm hb)]; exact Heap.get?_push_of_some _ ho) (by rw [Heap.get?_update_self _ (Heap.get?_push_of_some _ he) rfl]; rfl)
end
end XO
end PySem
namespace PySem.XO
open Builtin Builtin.ObjectAttr PySem.HandSPX
section
variable {prog : Program} {w : World} {A : Around} {E : Value → Shared → Prop} {R : Result → Shared → Prop} {hp : Heap} {g : Array GenState} {d : Drawn} {t : Nat} {os : OsState}
theorem first_field {K : W.Frag} {name : Str} {tk : Tok} {v : Value} {x C : Addr} {fv : Array Value} {cd : ClassData} (X : K.In hp) (hx : hp.get? x = some { cls := .ref C, data := .fields fv }) (hcd : W.clsIn K C = some cd) (ne : cd.mro.isEmpty = false)
    (hob : cd.mro.contains (.type "object") = true) (pass : refuseLoop (.ref x) "__setattr__" cd.mro = pure ()) (hh : cd.hasDict = true) (ha : W.findIn K (.ref C) name = some none)
    (hq : ∀ h' tk' dx, (∀ b o, b ≠ x → hp.get? b = some o → h'.get? b = some o) → hp.objs.size ≤ dx → dx ≠ x → h'.get? x = some { cls := .ref C, dict := some dx, data := .fields fv } → h'.Ns1 dx (fun y => if y = name then some v else none) → R (.ok (.ret .none)) ⟨h', g, d, tk', os⟩) :
    codeAny (model prog w) A (.call (.builtin "object.__setattr__") ⟨[.ref x, .str name tk, v], []⟩) R ⟨hp, g, d, t, os⟩ := by
  have J : W.InstAt hp x { cls := .ref C, data := .fields fv } C none := ⟨hx, rfl, rfl, trivial⟩
  have SO := F.store_object
  have nx : x ≠ hp.objs.size := Nat.ne_of_lt (Heap.lt_size hx)
  have sb : W.Looks (model prog w) hp (isInstance (.ref x) (.type "object")) true := J.type.andThen (W.looks_mroIn X (by unfold W.mroIn; rw [hcd, Option.bind_some, if_neg (by rw [ne]; decide), hob]))
  refine codeAny_call_builtin SO.slot.plain SO.entry (@W.check_slot (model prog w) _ _ ⟨hp, g, d, t, os⟩ "object.__setattr__" "object" "__setattr__" (.ref x) [.str name tk, v] [] _ SO.kind SO.split sb (SO.args (.ref x) (.str name tk) v) ?_)
  have mr : W.Looks (model prog w) hp (mroOf (.ref C)) cd.mro := (W.looks_clsIn X hcd).andThen .now
  have no : W.Looks (model prog w) hp (storeTaker? none) none := .now
  have cl : W.Looks (model prog w) hp (classData C) cd := W.looks_clsIn X hcd
  rw [W.osa_eq, refuse_eq]
  refine wpAny_bind (wpAny_bind (J.type.at (wpAny_bind (mr.at ?_))))
  rw [pass]
  refine wpAny_pure (wpAny_bind (J.type.at (wpAny_bind ((W.looks_findIn X ha).at (wpAny_bind (no.at (show wpAny _ _ (storeInOwnDict (.ref x) (.ref C) (.str name tk) name v false) _ _ _ from ?_)))))))
  obtain ⟨nm, bs, mro, ns, qn, hd, sn, sb, ab, col, del⟩ := cd
  dsimp only at hh
  subst hh
  unfold storeInOwnDict ownDictForStores
  repeat (first | with_reducible refine store_in_new ?_ ?_ | with_reducible refine wpAny_loadPart_at hx ?_ | with_reducible refine cl.at ?_ | wp_step)
  · exact ⟨_, #[], _, (Heap.get?_update_ne _ _ _ _ nx.symm).trans (Heap.get?_push_at rfl rfl), rfl, fun e he => absurd he (by simp), fun _ => rfl⟩
  · intro h' tk' hn' hs
    have hx2 : (hp.push { cls := .type "dict", data := .dict #[] }).get? x = some { cls := .ref C, data := .fields fv } := Heap.get?_push_of_some _ hx
    exact hq h' tk' hp.objs.size (fun b o hb ho => (hs.2 b (Nat.ne_of_lt (Heap.lt_size ho))).trans ((Heap.get?_update_ne _ _ _ _ hb).trans (Heap.get?_push_of_some _ ho))) (Nat.le_refl _) nx.symm ((hs.2 x nx).trans (Heap.get?_update_self _ hx2 rfl)) hn'
end
end PySem.XO
namespace L2
open PySem PySem.Spec PyProof.Rows PySem.XO
structure OexG (K : PySem.W.Frag) (C : Addr) (bm : List Value) : Prop where
  cls : ∃ nm q N bs sn sub ab col dd k0 k1 k2 k3 k5 B newId, K.lookup C = some (excClassObj nm q C N bs bm true sn sub ab col dd k0 k1 k2 k3 k5 newId) ∧ XNew B newId ∧ bm.contains (.type B) = true
  noA : bm.contains (.type "AttributeError") = false
  noN : bm.contains (.type "NameError") = false
  ob : bm.contains (.type "object") = true
  pass : ∀ self, refuseLoop self "__setattr__" bm = pure ()
  sa : PySem.W.findIn K (.ref C) "__setattr__" = some (some (.builtin "object.__setattr__"))
  exC : PySem.W.subIn K (.ref C) (.type "BaseException") = some true
  tyC : PySem.W.typeIn K (.ref C) = some (.type "type")
  kC : PySem.W.keepIn K (.ref C) = true
section
variable {X : Cx} {pins : List (Addr × Obj)} {σ : St} {H : Hp} {s : Shared} {a C dx : Addr} {f : Str} {y : V} {u : Value} {bm : List Value} {E : Value → Shared → Prop} {A : Around}
theorem xst_new {Q : Unit → Shared → Prop} (T : OexG X.K C bm) (I : Inv X pins σ H s) (e : H a = some (exo a C none)) (hno : PySem.W.findIn X.K (.ref C) f = some none) (ry : RelV y u)
    (h : ∀ dx s', H dx = none → dx ≠ a → Inv X pins σ (upd (upd H dx (exd dx [(f, y)])) a (exo a C (some dx))) s' → Q () s') : wpAny (model X.prog X.w) A (setAttr (.ref a) f u) Q E s := by
  obtain ⟨nm, q, N, bs, sn, sub, ab, col, dd, k0, k1, k2, k3, k5, B, newId, hC, _, _⟩ := T.cls
  have hcl : PySem.W.clsIn X.K C = some { name := nm, bases := bs, mro := .ref C :: bm, ns := N, qualname := q, hasDict := true, slotNames := sn, subclasses := sub, abstract := ab, collection := col, hasDel := false } := by unfold PySem.W.clsIn; rw [hC] <;> rfl
  obtain ⟨t1, ho⟩ := exo_at I.hok e
  obtain ⟨hp, g, dr, t, os⟩ := s
  refine PySem.W.set_plain I.kIn (ox := { cls := .ref C, dict := none, data := .fields #[.ref t1, .none, .none, .none, .bool false, .none] }) (od := none) ⟨ho, rfl, rfl, trivial⟩ T.sa ?_
  refine first_field I.kIn ho hcl rfl (by rw [List.contains_cons, T.ob, Bool.or_true]) (by rw [refuseLoop_ref]; exact T.pass _) rfl hno (fun h' tk' dx k dn dne hx hn => ?_)
  have hnd : H dx = none := I.hok.fresh dn
  have nd : ∀ {b : Addr} {o : Obj}, hp.get? b = some o → b ≠ dx := fun {b o} q => Nat.ne_of_lt (Nat.lt_of_lt_of_le (Heap.lt_size q) dn)
  have na : ∀ {b : Addr}, H b = none → b ≠ a := fun {b} n z => by
    rw [z, e] at n
    cases n
  have Un1 : Un X.fs [] H (upd (upd H dx (exd dx [(f, y)])) a (exo a C (some dx))) hp h' :=
    ⟨fun b o q n _ _ => k b o (na n) q, fun b o q n _ _ => ⟨o.slots, k b o (na n) q⟩, fun b o q n _ => by rw [upd_ne (na n), upd_ne (nd q)]; exact n, fun b o q _ => by
      by_cases hb : b = a
      · exact ⟨_, by rw [hb]; exact hx⟩
      · exact ⟨o, k b o hb q⟩, fun b xs q => by rw [upd_ne (at_ne e q exo_tup), upd_ne (ne_of_none q hnd)]; exact q, fun b o v q => by rw [upd_ne (at_ne e q exo_frz), upd_ne (ne_of_none q hnd)]; exact q,
      fun b ps q => ⟨#[], by rw [upd_ne (at_ne e q exo_tbl), upd_ne (ne_of_none q hnd), q]; simp⟩⟩
  refine h dx _ hnd dne (I.un (t' := tk') Un1 fun b o q => ?_)
  by_cases hb : b = a
  · subst hb
    rw [upd_same] at q
    cases q
    exact exo_ok hx
  · rw [upd_ne hb] at q
    by_cases hd : b = dx
    · subst hd
      rw [upd_same] at q
      cases q
      exact exd_ok hn (relO_put (fs := []) ry fun g => True.intro)
    · rw [upd_ne hd] at q
      refine (I.hok b o q).stay (fun c v hc z => k c v ?_ z) (fun c hc => by rw [upd_ne (at_ne e hc exo_own), upd_ne (ne_of_none hc hnd)]; exact hc) (fun c xs hc => by rw [upd_ne (at_ne e hc exo_tup), upd_ne (ne_of_none hc hnd)]; exact hc)
      rcases hc with hc | hc
      · rw [hc]; exact hb
      · exact at_ne e hc exo_own
theorem xini_ok {us : List Value} {Q : Value → Shared → Prop} {Bi initId : String} (T : OexG X.K C bm) (FI : XIni Bi initId) (hBi : bm.contains (.type Bi) = true) (I : Inv X pins σ H s) (e : H a = some (exo a C none)) (hl : us.length ≤ sizeLine) (h : ∀ s', Inv X pins σ H s' → Q .none s') :
    wpAny (model X.prog X.w) A (call (.builtin initId) (.ref a :: us)) Q E s := by
  obtain ⟨nm, q, N, bs, sn, sub, ab, col, dd, k0, k1, k2, k3, k5, B, newId, hC, _, _⟩ := T.cls
  obtain ⟨t1, ho⟩ := exo_at I.hok e
  obtain ⟨hp, g, dr, t, os⟩ := s
  refine wpAny_call (go_ini FI hBi (I.kIn _ _ hC) ho hl fun h' t2 k hx => ?_)
  have J := I.write (t' := t) (x := a) (e := a) (o := exo a C none) (by rw [e]; exact True.intro) (.inl rfl) k ⟨_, hx⟩ (exo_ok hx)
  have eu : upd H a (exo a C none) = H := by
    funext b
    by_cases hb : b = a
    · rw [hb, upd_same, e]
    · rw [upd_ne hb]
  rw [eu] at J
  exact h _ J
end
def tXini (K : PySem.W.Frag) (Bi : String) (ta : TA) : TE := fun σ H Q => ta σ H fun vs H1 => ∃ (a C : Addr) (bm : List Value) (ws : List V), vs = .ref a :: ws ∧ ws.length ≤ 1000 ∧ OexG K C bm ∧ bm.contains (.type Bi) = true ∧ H1 a = some (exo a C none) ∧ Q .non H1
structure XBase (K : PySem.W.Frag) (mg : Str → Option Value) (x : Str) (Bi initId : String) : Prop where
  ex : ∃ CB, mg x = some (.ref CB) ∧ PySem.W.specialIn K (.ref CB) "__getattribute__" = some (some (.builtin "type.__getattribute__")) ∧ PySem.W.readsIn K CB (.type "type") = true ∧ PySem.W.findCls K (.ref CB) (.type "type") "__init__" = some (.val (.builtin initId))
  hand : PySem.W.handedIn (.builtin initId) = true
  ini : XIni Bi initId
section
variable {X : Cx} {o e : Expr} {es : List Expr} {to te : TE} {ta : TA} {f x : Str} {p p' p1 p2 pos : Pos} {Bi initId : String} {bm : List Value}
theorem pe_xini {pl : Sem Bool} (T : XBase X.K X.mg x Bi initId) (hg : Gl X x) (ha : PA X (e :: es) ta) (hdb : (x == ("__debug__" : Str)) = false := by decide)
    (hc : eval (.Call (.Attribute (.Name x p1) "__init__" p2) (e :: es) [] pos) X.env = (do
      let ov ← eval (.Name x p1) X.env
      standAt p2.atName
      let (f, first) ← holding [ov] (getMethod ov "__init__" pl)
      callWith pos f first (backTo pos (starEach (e :: es) X.env)) (backToKw pos (keywordEach [] X.env))) := by rfl)
    (he : starEach (e :: es) X.env = (false, eval e X.env) :: starEach es X.env := by rfl) (hpl : (backTo pos (starEach es X.env)).any (·.1) = false := by rfl) :
    PE X (.Call (.Attribute (.Name x p1) "__init__" p2) (e :: es) [] pos) (tXini X.K Bi ta) := by
  obtain ⟨CB, hm, h1, h2, h3⟩ := T.ex
  refine ⟨fun pins s σ H Q I h => ?_⟩
  refine PySem.W.methodCall_KW (ld_glob I hg hm ?_ hdb) hc
  refine PySem.W.method_cls I.kIn h1 (PySem.W.cls_value I.kIn h2 h3 T.hand ?_)
  show wpAny _ _ (callWith pos (Value.builtin initId) [] (backTo pos (starEach (e :: es) X.env)) []) _ _ _
  refine PyProof.Rows.callWith_method1 (thn (ha.run pos pins _ σ H _ (I.tok _) h) fun us s1 ⟨vs, H1, I1, r1, a, C, bm, ws, ev, hl, T1, hB, ea, q⟩ => ?_) he hpl
  subst ev
  cases r1 with
  | @cons _ u0 _ ur ra rw' =>
    obtain rfl : u0 = Value.ref a := ra
    exact xini_ok T1 T.ini hB I1 ea (by rw [← Paired.length rw', sizeLine_eq]; omega) fun s' J => ⟨.non, H1, J, rfl, q⟩
def tXst (K : PySem.W.Frag) (f : Str) (to te : TE) : TS := fun D σ H => te σ H fun y H1 => to σ H1 fun x H2 => ∃ (a C : Addr) (bm : List Value), x = .ref a ∧ OexG K C bm ∧ PySem.W.findIn K (.ref C) f = some none ∧ H2 a = some (exo a C none) ∧
  ∀ dx, H2 dx = none → dx ≠ a → D.nx σ (upd (upd H2 dx (exd dx [(f, y)])) a (exo a C (some dx)))
theorem ps_xst (ho : PE X o to) (he : PE X e te) (hs : swapsWith e (some (.Attribute o f p')) pos.line X.env = pure false := by rfl) : PS X (.Assign [.Attribute o f p'] e pos) (tXst X.K f to te) := by
  refine ⟨fun pins s σ H D I h => ?_⟩
  refine plainObj_wpAny_Assign_Attribute (thn (he.run pins s σ H _ I h) fun v s1 ⟨y, H1, I1, r1, q1⟩ => thn (ho.run pins s1 σ H1 _ I1 q1) fun u s2 ⟨x, H2, I2, r2, a, C, bm, ex, T, hno, ea, q⟩ => ?_) hs
  subst ex
  obtain rfl : u = Value.ref a := r2
  exact xst_new T I2 ea hno r1 fun dx s' n ne J => ⟨σ, _, J, q dx n ne⟩
def spXI (C : Addr) (f : Str) : Sp := fun vs H Q _ => ∃ (a : Addr) (v : V), vs = [.ref a, v] ∧ H a = some (exo a C none) ∧ ∀ dx, H dx = none → dx ≠ a → Q .non (upd (upd H dx (exd dx [(f, v)])) a (exo a C (some dx)))
structure XMk (P : Program) (w : World) (K : PySem.W.Frag) (mg : Str → Option Value) (base : Heap) (k : Nat) (x f : Str) : Prop where
  ex : ∃ (C fI : Addr) (bm : List Value) (fd : FuncData) (ps : List Str), PySem.W.nsIn K mainGlobals x = some (some (.ref C)) ∧ mg x = some (.ref C) ∧ OexG K C bm ∧ PySem.W.findIn K (.ref C) "__init__" = some (some (.ref fI)) ∧ PySem.W.typeIn K (.ref fI) = some (.type "function") ∧
    (∀ (s : Shared) (u v : Value), K.In s.heap → BindsTo s fd ⟨[u, v], []⟩ (ps.zip [u, v])) ∧ L3.FnG P w K mg base CX0 k fI fd ps (spXI C f)
def spXI0 (C : Addr) : Sp := fun vs H Q _ => ∃ a : Addr, vs = [.ref a] ∧ H a = some (exo a C none) ∧ Q .non H
structure XMk0 (P : Program) (w : World) (K : PySem.W.Frag) (mg : Str → Option Value) (base : Heap) (k : Nat) (x : Str) : Prop where
  ex : ∃ (C fI : Addr) (bm : List Value) (fd : FuncData) (ps : List Str), PySem.W.nsIn K mainGlobals x = some (some (.ref C)) ∧ mg x = some (.ref C) ∧ OexG K C bm ∧ PySem.W.findIn K (.ref C) "__init__" = some (some (.ref fI)) ∧ PySem.W.typeIn K (.ref fI) = some (.type "function") ∧
    (∀ (s : Shared) (u : Value), K.In s.heap → BindsTo s fd ⟨[u], []⟩ (ps.zip [u])) ∧ L3.FnG P w K mg base CX0 k fI fd ps (spXI0 C)
end
end L2
namespace L3
open PySem PySem.Spec PyProof.Rows L2
abbrev XK3 := Str → List (Str × D) → Mu → Prop
abbrev XR := Str → List (Str × D) → St3 → Mu → Prop
abbrev Spx := List D → Mu → DK → XK3 → Prop
def XdA (H : Hp) : Option Addr → List (Str × V) → Prop
  | some d, gs => H d = some (.xd gs)
  | none, gs => gs = []
structure Xz (X : Cx) (Z : Zn X.kn) where
  W : WX
  tk : Takes X W
  rx : XR
  ok : ∀ F H μ σ δ C dd n fs gs, Sim Z F H μ → Sl X.kn F H σ δ → clsA X.kn n C → XdA H dd gs → Rpf X.kn F H fs gs → rx n fs δ μ → W (.ref C) dd σ H
section
variable {X : Cx} {Z : Zn X.kn} {e o : Expr} {es : List Expr} {te to : TE3} {tr tk : TA3} {x f : Str} {p pos pos2 : Pos} {k j n np : Nat}
def sRaise (rx : XR) (n f : Str) (te : TE3) : TS3 := fun _ δ μ => te δ μ fun d μ1 => rx n [(f, d)] δ μ1
end
end L3
namespace L3
open PySem PySem.Spec PyProof.Rows L2
abbrev Spx.calm (sp : Spx) : Sp3 := fun ds μ R => sp ds μ R fun _ _ _ => False
def vCalX (rx : XR) (n m : Nat) (os : List Src) (dfl : List D) (sp : Spx) (tr tk : TA3) : TE3 := fun δ μ R => tr δ μ fun ds μ1 => tk δ μ1 fun zs μ2 => ds.length = n ∧ zs.length = m ∧ sp (picks .non os ds zs dfl) μ2 R fun c fs μ3 => rx c fs δ μ3
def vMakX (rx : XR) (n : Str) (cnt m : Nat) (os : List Src) (dfl : List D) (sp : Spx) (tr tk : TA3) : TE3 := fun δ μ R => tr δ μ fun ds μ1 => tk δ μ1 fun zs μ2 => ds.length = cnt ∧ zs.length = m ∧
  ∀ q, μ2 q = none → sp (picks .non os (.ref q :: ds) zs dfl) (mset μ2 q (.ins n [])) (fun d μ3 => d = .non ∧ fin R (.ref q) μ3) fun c fs μ3 => rx c fs δ μ3
end L3
namespace L3
open PySem PySem.Spec PyProof.Rows L2
abbrev HTs := Addr → Value → Option Addr → TS
inductive HsOk (X : Cx) : List ExceptHandler → List (Value × Option Nat × HTs) → Prop
  | nil : HsOk X [] []
  | plain {x : Str} {c : Value} {ts : HTs} {b : Stmt} {su : List Stmt} {p q : Pos} {hs : List ExceptHandler} {l : List (Value × Option Nat × HTs)} (hc : Names X x c)
      (go : ∀ (a : Addr) (o : Obj) (cls : Value) (d : Option Addr) (pn : List (Addr × Obj)), Zc cls d o → (∃ vs, o.data = .fields vs) → PSs (X.suite a ((a, o) :: pn)) (b :: su) (ts a cls d)) (r : HsOk X hs l) :
      HsOk X (.ExceptHandler (some (.Name x p)) none (b :: su) q :: hs) ((c, none, ts) :: l)
  | named {x n : Str} {i : Nat} {c : Value} {ts : HTs} {b : Stmt} {su : List Stmt} {p q : Pos} {hs : List ExceptHandler} {l : List (Value × Option Nat × HTs)} (hc : Names X x c) (hi : X.N[i]? = some n) (hk : X.env.kindOf n = some .local)
      (go : ∀ (a : Addr) (o : Obj) (cls : Value) (d : Option Addr) (pn : List (Addr × Obj)), Zc cls d o → (∃ vs, o.data = .fields vs) → PSs (X.suite a ((a, o) :: pn)) (b :: su) (ts a cls d)) (r : HsOk X hs l) :
      HsOk X (.ExceptHandler (some (.Name x p)) (some n) (b :: su) q :: hs) ((c, some i, ts) :: l)
end L3
namespace L3
open PySem PySem.Spec PyProof.Rows L2
section
variable {K : Kn} {F : Addr → Prop} {H : Hp} {μ : Mu}
theorem Sim0.xd_free {gs : List (Str × V)} {dd : Addr} (s : Sim0 K F H μ) (hd : H dd = some (.xd gs)) : μ dd = none := by
  cases e : μ dd with
  | none => rfl
  | some o =>
    exfalso
    obtain ⟨_, m⟩ := s.obj dd o e
    cases o with
    | lst xs => obtain ⟨vs, e, r⟩ := m; rw [hd] at e; cases e
    | dct kvs => obtain ⟨vs, e, r⟩ := m; rw [hd] at e; cases e
    | dcn kvs => obtain ⟨vs, e, r⟩ := m; rw [hd] at e; cases e
    | dlk od ks kvs => obtain ⟨e, r⟩ := m; rw [hd] at e; cases e
    | ins n fs => obtain ⟨C, dx, vs, c, e, r⟩ := m; rw [hd] at e; cases e
    | tbl qq => obtain ⟨vs, e, r⟩ := m; rw [hd] at e; cases e
def Zn.exc (Z : Zn K) (dd : Option Addr) (gs : List (Str × V)) (fs : List (Str × D)) : Zn K where
  his := fun F H μ => Z.his F H μ ∧ (∀ d, dd = some d → μ d = none) ∧ XdA H dd gs ∧ Rpf K F H fs gs
  mono := fun {F H μ F' H' μ'} g m z h => by
    obtain ⟨h1, h2, h3, h4⟩ := h
    cases dd with
    | none => exact ⟨Z.mono g m z h1, fun d e => (by cases e), h3, h4.grow g⟩
    | some dd =>
    have h2 := h2 dd rfl
    have h3 : H dd = some (.xd gs) := h3
    refine ⟨Z.mono g m z h1, fun d e => ?_, ?_, h4.grow g⟩
    · cases e
      by_cases f : F dd
      · exact z.xd_free (g.fix dd _ f rfl h3)
      · exact (m dd _ h3 h2 f).1
    · show H' dd = some (.xd gs)
      by_cases f : F dd
      · exact g.fix dd _ f rfl h3
      · exact (m dd _ h3 h2 f).2.1
end
abbrev H3 := List Str × List Str × Option Nat × (Addr → Str → List (Str × D) → TS3)
structure Hc3 (K : PySem.W.Frag) (mg : Str → Option Value) (x : Str) (ys ns : List Str) : Prop where
  ex : ∃ c : Value, (mg x = some c ∨ (mg x = none ∧ bootBuiltins x = some c ∧ x ≠ "__name__")) ∧ (∀ n C, ys.contains n = true → PySem.W.nsIn K mainGlobals n = some (some (.ref C)) → PySem.W.exmOne K (.ref C) c = some true) ∧
    ∀ n C, ns.contains n = true → PySem.W.nsIn K mainGlobals n = some (some (.ref C)) → PySem.W.exmOne K (.ref C) c = some false
def SuOk (X : Cx) (Z : Zn X.kn) (su : List Stmt) (ys : List Str) (ts : Addr → Str → List (Str × D) → TS3) : Prop :=
  ∀ (a : Addr) (o : Obj) (C : Addr) (dd : Option Addr) (pn : List (Addr × Obj)) (n : Str) (fs : List (Str × D)) (gs : List (Str × V)), Zc (.ref C) dd o → (∃ vs, o.data = .fields vs) → clsA X.kn n C → ys.contains n = true →
    Ss3 (X.suite a ((a, o) :: pn)) (Z.exc dd gs fs) su (ts a n fs)
inductive Hs3 (X : Cx) (Z : Zn X.kn) : List ExceptHandler → List H3 → Prop
  | nil : Hs3 X Z [] []
  | plain {x : Str} {ys ns : List Str} {ts : Addr → Str → List (Str × D) → TS3} {b : Stmt} {su : List Stmt} {p q : Pos} {hs : List ExceptHandler} {l : List H3} (hg : Gl X x ∧ (x == ("__debug__" : Str)) = false) (hc : Hc3 X.K X.mg x ys ns) (go : SuOk X Z (b :: su) ys ts) (r : Hs3 X Z hs l) :
      Hs3 X Z (.ExceptHandler (some (.Name x p)) none (b :: su) q :: hs) ((ys, ns, none, ts) :: l)
  | named {x n : Str} {i : Nat} {ys ns : List Str} {ts : Addr → Str → List (Str × D) → TS3} {b : Stmt} {su : List Stmt} {p q : Pos} {hs : List ExceptHandler} {l : List H3} (hg : Gl X x ∧ (x == ("__debug__" : Str)) = false) (hc : Hc3 X.K X.mg x ys ns) (hi : X.N[i]? = some n ∧ X.env.kindOf n = some .local) (go : SuOk X Z (b :: su) ys ts) (r : Hs3 X Z hs l) :
      Hs3 X Z (.ExceptHandler (some (.Name x p)) (some n) (b :: su) q :: hs) ((ys, ns, some i, ts) :: l)
section
variable {X : Cx} {Z : Zn X.kn} {body : List Stmt} {h0 : ExceptHandler} {hs : List ExceptHandler} {l : List H3} {pos : Pos} {tb : XR → TS3}
def Xz.no (X : Cx) (Z : Zn X.kn) : Xz X Z := ⟨fun _ _ _ _ => False, takes_none5, fun _ _ _ _ => False, fun _ _ _ _ _ _ _ _ _ _ _ _ _ _ _ h => h⟩
structure Xf3 (K : PySem.W.Frag) (n f : Str) : Prop where
  ex : ∀ C, PySem.W.nsIn K mainGlobals n = some (some (.ref C)) → XfC K C ∧ PySem.W.findIn K (.ref C) f = some none
end
end L3
namespace L3
open PySem PySem.Spec PyProof.Rows L2 PySem.XO
section
variable {P : Program} {w : World} {K : PySem.W.Frag} {mg : Str → Option Value} {base : Heap}
theorem xinit_fn {x1 x2 qual fld txt : Str} {st : Stmt} {f C : Addr} {fd : FuncData} {bm : List Value} {Bi : String} (F : Def3 K "__init__" qual st [] [] f fd) (S : FnScope [x1, x2] [x1, x2] (defScope st)) (O : OexG K C bm) (hno : PySem.W.findIn K (.ref C) fld = some none) (hBi : bm.contains (.type Bi) = true)
    (hb : ∀ (cdv : Value) (A : Around) (fs : List Env) (s : Shared) (H : Hp) (E : XK), PSs (cxOf CX0 P w K mg base [x1, x2] qual (defScope st) f cdv A fs s H E) (defBody st) (tSeq (tDrop (tXini K Bi (tCons (tVar 0) (tCons (tC (.str txt)) tNil)))) (tXst K fld (tVar 0) (tVar 1)))) :
    FnG P w K mg base CX0 1 f fd [x1, x2] (spXI C fld) := by
  obtain ⟨oc, od, dV, kV, doc, pm, an, cdv, ct, osl, rfl, lk, cd, _⟩ := F.ex
  refine fng_of lk cd S (fun _ _ _ _ h => ?_) fun A fs s H xs Q E hr h => ⟨_, hb cdv A fs s H E, ?_⟩
  · obtain ⟨a, v, rfl, _⟩ := h; rfl
  · obtain ⟨a, v, rfl, ha, q⟩ := h
    exact ⟨.ref a, rfl, a, C, bm, [.str txt], rfl, by simp, O, hBi, ha, v, rfl, .ref a, rfl, a, C, bm, rfl, O, hno, ha, fun dx h1 h2 => q dx h1 h2⟩
theorem xmk_of {x f : Str} {C fI : Addr} {bm : List Value} {fd : FuncData} {x1 x2 : Str} (at_ : PySem.W.nsIn K mainGlobals x = some (some (.ref C))) (hm : mg x = some (.ref C)) (O : OexG K C bm) (iC : PySem.W.findIn K (.ref C) "__init__" = some (some (.ref fI)))
    (tI : PySem.W.typeIn K (.ref fI) = some (.type "function")) (hb : Bd3 K fd [x1, x2] 2 [] (allPos 2) []) (G : FnG P w K mg base CX0 1 fI fd [x1, x2] (spXI C f)) : XMk P w K mg base 1 x f := by
  obtain ⟨_, dv, rd, hb⟩ := hb
  cases rd
  exact ⟨C, fI, bm, fd, [x1, x2], at_, hm, O, iC, tI, fun s u v k => hb s [u, v] [] k rfl rfl, G⟩
theorem xinit0_fn {x1 qual txt : Str} {st : Stmt} {f C : Addr} {fd : FuncData} {bm : List Value} {Bi : String} (F : Def3 K "__init__" qual st [] [] f fd) (S : FnScope [x1] [x1] (defScope st)) (O : OexG K C bm) (hBi : bm.contains (.type Bi) = true)
    (hb : ∀ (cdv : Value) (A : Around) (fs : List Env) (s : Shared) (H : Hp) (E : XK), PSs (cxOf CX0 P w K mg base [x1] qual (defScope st) f cdv A fs s H E) (defBody st) (tDrop (tXini K Bi (tCons (tVar 0) (tCons (tC (.str txt)) tNil))))) :
    FnG P w K mg base CX0 1 f fd [x1] (spXI0 C) := by
  obtain ⟨oc, od, dV, kV, doc, pm, an, cdv, ct, osl, rfl, lk, cd, _⟩ := F.ex
  refine fng_of lk cd S (fun _ _ _ _ h => ?_) fun A fs s H xs Q E hr h => ⟨_, hb cdv A fs s H E, ?_⟩
  · obtain ⟨a, rfl, _⟩ := h; rfl
  · obtain ⟨a, rfl, ha, q⟩ := h
    exact ⟨.ref a, rfl, a, C, bm, [.str txt], rfl, by simp, O, hBi, ha, q⟩
theorem xmk0_of {x : Str} {C fI : Addr} {bm : List Value} {fd : FuncData} {x1 : Str} (at_ : PySem.W.nsIn K mainGlobals x = some (some (.ref C))) (hm : mg x = some (.ref C)) (O : OexG K C bm) (iC : PySem.W.findIn K (.ref C) "__init__" = some (some (.ref fI)))
    (tI : PySem.W.typeIn K (.ref fI) = some (.type "function")) (hb : Bd3 K fd [x1] 1 [] (allPos 1) []) (G : FnG P w K mg base CX0 1 fI fd [x1] (spXI0 C)) : XMk0 P w K mg base 1 x := by
  obtain ⟨_, dv, rd, hb⟩ := hb
  cases rd
  exact ⟨C, fI, bm, fd, [x1], at_, hm, O, iC, tI, fun s u k => hb s [u] [] k rfl rfl, G⟩
open Builtin Builtin.ObjectAttr in
theorem pass_own {self : Value} {C : Addr} {l : List Value} (h : refuseLoop self "__setattr__" l = pure ()) : refuseLoop self "__setattr__" (.ref C :: l) = pure () := by rw [refuseLoop_ref]; exact h
end
end L3
namespace L3
open PySem PySem.Spec PyProof.Rows L2
section
variable {X : Cx} {Z : Zn X.kn} {e o : Expr} {es : List Expr} {tr : TA3} {to : TE3} {x n m : Str} {p pos apos : Pos} {k j nn : Nat} {spx : Spx}
def vCallX (rx : XR) (n : Nat) (sp : Spx) (tr : TA3) : TE3 := fun δ μ R => tr δ μ fun ds μ1 => ds.length = n ∧ sp ds μ1 R fun c fs μ3 => rx c fs δ μ3
def vMetAX (rx : XR) (n m : Str) (cnt : Nat) (sp : Spx) (to : TE3) (tr : TA3) : TE3 := fun δ μ R => to δ μ fun x μ1 => ∃ fs, insOf μ1 n x = some fs ∧ fs.lookup m = none ∧ tr δ μ1 fun ds μ2 => ds.length = cnt ∧ sp (x :: ds) μ2 R fun c fs μ3 => rx c fs δ μ3
end
end L3
namespace PySem.XO
open Builtin Builtin.ObjectAttr PySem.HandSPX
section
variable {prog : Program} {w : World} {A : Around} {E : Value → Shared → Prop} {R : Result → Shared → Prop} {h : Heap} {g : Array GenState} {d : Drawn} {t : Nat} {os : OsState}
variable {nm q : Str} {C N : Addr} {bs bm : List Value} {hdct : Bool} {sn : List Str} {sub : List Value} {ab : Bool} {col : Option Bool} {dd : Option Addr} {k0 k1 k2 k3 k5 : Option Value} {B newId initId : String} {rest : List Value}
theorem go_callV (F : XNew B newId) (hB : bm.contains (.type B) = true) (hA : bm.contains (.type "AttributeError") = false) (hN : bm.contains (.type "NameError") = false) {fI : Value} {Q : Fin → Shared → Prop} (hC : h.get? C = some (excClassObj nm q C N bs bm hdct sn sub ab col dd k0 k1 k2 k3 k5 newId))
    (hi : W.Looks (model prog w) h (typeLookup (.ref C) "__init__") (some fI)) (hb : ∀ self, W.Looks (model prog w) h (bindSpecial fI self) (fI, [self])) (hz : rest.length ≤ sizeLine)
    (hq : codeAny (model prog w) A (.call fI ⟨.ref (h.objs.size + 1) :: rest, []⟩) (fun r s' => match r with | .ok (.ret v) => v = .none ∧ Q (.done (.ret (.ref (h.objs.size + 1)))) s' | .ok _ => False | .error e => E e s')
      ⟨(h.push (W.kdv_tup rest)).push (excO C h.objs.size), g, d, t, os⟩) : wpAny (model prog w) A (Builtin.«type.__call__» ⟨.ref C :: rest, []⟩) Q E ⟨h, g, d, t, os⟩ := by
  repeat (first | with_reducible refine wpAny_loadPart_at hC ?_ | with_reducible refine wpAny_madeBy_exc hC ?_ | wp_step)
  refine codeAny_call_builtin_code (Code.quiet_builtin _ F.quiet) (chk_new F hB hC (go_new F hB hA hN hC ?_ hz))
  show wpAny _ _ _ _ _ _
  have kp : ∀ b o, h.get? b = some o → ((h.push (W.kdv_tup rest)).push (excO C h.objs.size)).get? b = some o := fun b o e => Heap.get?_push_of_some _ (Heap.get?_push_of_some _ e)
  have c2 := kp _ _ hC
  have at1 : ((h.push (W.kdv_tup rest)).push (excO C h.objs.size)).get? (h.objs.size + 1) = some (excO C h.objs.size) := by heap_get
  have self : (Value.ref C :: bm).contains (.ref C) = true := by simp
  have i1 := hi.keeps kp
  have b1 := (hb (.ref (h.objs.size + 1))).keeps kp
  unfold isInstance
  repeat (first | with_reducible refine wpAny_loadPart_at at1 ?_ | (with_reducible refine wpAny_isSubtype_exc c2 ?_; rw [self]) | wp_step)
  refine (show wpAny _ _ (typeLookup (.ref C) _) _ _ _ from i1.at (wpAny_holding (wpAny_bind (b1.at (wpAny_bind (wpAny_call (codeAny_mono hq fun r s' z => ?_)))))))
  rcases r with e | (v | _ | _ | _) <;> first | exact z | exact z.elim | skip
  obtain ⟨rfl, z⟩ := z
  first
    | exact wpAny_pure (wpAny_pure z)
    | (wp_walk; exact z)
theorem go_madeV (F : XNew B newId) (hB : bm.contains (.type B) = true) (hA : bm.contains (.type "AttributeError") = false) (hN : bm.contains (.type "NameError") = false) {fI : Value} (hC : h.get? C = some (excClassObj nm q C N bs bm hdct sn sub ab col dd k0 k1 k2 k3 k5 newId))
    (hi : W.Looks (model prog w) h (typeLookup (.ref C) "__init__") (some fI)) (hb : ∀ self, W.Looks (model prog w) h (bindSpecial fI self) (fI, [self])) (hz : rest.length ≤ sizeLine)
    (hq : codeAny (model prog w) (A.under (.builtin "type.__call__" ⟨.ref C :: rest, []⟩)) (.call fI ⟨.ref (h.objs.size + 1) :: rest, []⟩) (W.InitBack (h.objs.size + 1) R) ⟨(h.push (W.kdv_tup rest)).push (excO C h.objs.size), g, d, t, os⟩) :
    codeAny (model prog w) A (.call (.ref C) ⟨rest, []⟩) R ⟨h, g, d, t, os⟩ := by
  have f1 := tc_lookup
  have f2 := tc_bind (.ref C)
  have ty : (⟨h, g, d, t, os⟩ : Shared).TypeIs (.ref C) "type" := ⟨_, hC, rfl⟩
  refine codeAny_of_tree (show wpAny _ _ (callAny (.ref C) _) _ _ _ from ?_)
  repeat (any_goals (first | assumption | with_reducible refine wpAny_loadPart_at hC ?_ | wp_step))
  refine ⟨rfl, codeAny_call_builtin_at (Code.quiet_builtin _ (by decide +kernel)) entry_typeCall (wpAny_check_type_call_sub hC (go_callV F hB hA hN hC hi hb hz (codeAny_mono hq fun r s' z => ?_)))⟩
  rcases r with e | (v | _ | _ | _) <;> exact z
end
end PySem.XO
namespace L2
open PySem PySem.Spec PyProof.Rows PySem.XO
section
variable {X : Cx} {pins : List (Addr × Obj)} {σ : St} {H : Hp} {s : Shared}
theorem exo_inst {a C : Addr} {od : Option Addr} (I : Inv X pins σ H s) (ea : H a = some (exo a C od)) (hd : ∀ dx, od = some dx → ∃ gs, H dx = some (exd dx gs)) : ∃ ox oo, PySem.W.InstAt s.heap a ox C oo := by
  obtain ⟨t1, ho⟩ := exo_at I.hok ea
  cases od with
  | none => exact ⟨_, none, ho, rfl, rfl, True.intro⟩
  | some dx =>
    obtain ⟨gs, ed⟩ := hd dx rfl
    obtain ⟨mA, hns, _⟩ := exd_at I.hok ed
    obtain ⟨od, h1, _⟩ := lookIn_ns hns
    exact ⟨_, some od, ho, rfl, rfl, h1⟩
theorem ExcC.some {K : PySem.W.Frag} {D : Addr} (c : ExcC K D) : (PySem.W.clsIn K D).isSome = true := by
  have h := c.hd
  unfold PySem.W.hasDictIn at h
  cases e : PySem.W.clsIn K D with
  | none => rw [e] at h; cases h
  | some _ => rfl
def rIsX (K : PySem.W.Frag) : List V → Hp → VK → Prop := fun xs H Q => ∃ (a C : Addr) (od : Option Addr) (c : V) (cv : Value) (b : Bool), xs = [.ref a, c] ∧ H a = some (exo a C od) ∧ (∀ dx, od = some dx → ∃ gs, H dx = some (exd dx gs)) ∧ ExcC K C ∧ ClsV c cv ∧ PySem.W.kitOne K (.ref C) cv = some b ∧ Q (.bl b) H
theorem call_isX : CallR X (.builtin "isinstance") (rIsX X.K) := by
  intro pins s σ H xs us Q I r h
  obtain ⟨a, C, od, c, cv, b, rfl, ea, hd, xc, k, e, q⟩ := h
  obtain ⟨u1, u2, rfl, r1, r2⟩ := vals2 r
  have e2 := k.eq r2
  subst e2
  obtain rfl : u1 = Value.ref a := r1
  obtain ⟨ox, oo, J⟩ := exo_inst I ea hd
  exact PySem.W.kia_one (PySem.W.kitx_exc xc.some xc.hg xc.hk xc.hs xc.ha xc.hn xc.ht xc.hm) I.kIn J e (fun z => nomatch z) fun tk => ⟨.bl b, H, I.tok tk, rfl, q⟩
def tExf (K : PySem.W.Frag) (f : Str) (te : TE) : TE := fun σ H Q => te σ H fun x H1 => ∃ (a C dx : Addr) (gs : List (Str × V)) (v : V), x = .ref a ∧ H1 a = some (exo a C (some dx)) ∧ H1 dx = some (exd dx gs) ∧ XfC K C ∧ PySem.W.findIn K (.ref C) f = some none ∧ gs.lookup f = some v ∧ Q v H1
theorem pe_exf {e : Expr} {te : TE} {pos : Pos} {n : Str} (he : PE X e te) (hb : attributeBase e n X.env (eval e X.env) = eval e X.env := by rfl) : PE X (.Attribute e n pos) (tExf X.K n te) := by
  refine ⟨fun pins s σ H Q I h => ?_⟩
  refine attr_of hb (thn (he.run pins s σ H _ I h) fun u s1 hh => ?_)
  obtain ⟨x, H1, I1, rx, a, C, dx, gs, v, ex, ea, ed, T, hno, l, q⟩ := hh
  subst ex
  obtain rfl : u = Value.ref a := rx
  obtain ⟨t1, ho⟩ := exo_at I1.hok ea
  obtain ⟨mA, hns, hr⟩ := exd_at I1.hok ed
  obtain ⟨od, hod, hl⟩ := lookIn_ns hns
  obtain ⟨u, hu, ru⟩ := RelO.some_of (v := v) (o := mA n) (by rw [← l]; exact hr n)
  have J : PySem.W.InstAt s1.heap a { cls := .ref C, dict := some dx, data := .fields #[.ref t1, .none, .none, .none, .bool false, .none] } C (some od) := ⟨ho, rfl, rfl, hod⟩
  exact HandSPX.exc_get I1.kIn J T.ga T.gg T.exC (PySem.W.findObj_own T.hdC hno rfl (by rw [hl, hu])) (handed_of ru) ⟨v, H1, I1.tok _, ru, q⟩
theorem run_newX {k : Nat} {x f : Str} {v : V} {u : Value} {Q : VK} (M : XMk X.prog X.w X.K X.mg X.base k x f) (hr : L3.RoomG (k + 1) X.A) (I1 : Inv X pins σ H s) (ru : RelV v u) {C : Addr} (hC0 : PySem.W.nsIn X.K mainGlobals x = some (some (.ref C)))
    (q1 : ∀ a d, H a = none → H d = none → d ≠ a → Q (.ref a) (upd (upd H d (exd d [(f, v)])) a (exo a C (some d)))) : wpAny (model X.prog X.w) X.A (call (.ref C) [u]) (EP X pins σ Q) X.xe s := by
  obtain ⟨C', fI, bm, fd, ps, hns, hm, T, iC, tI, hb, F1⟩ := M.ex
  obtain rfl : C' = C := by rw [hns] at hC0; cases hC0; rfl
  obtain ⟨nm, q, N, bs, sn, sub, ab, col, dd, k0, k1, k2, k3, k5, B, newId, hC, FN, hB⟩ := T.cls
  obtain ⟨hp, g, dr, tk, os⟩ := s
  have hsz : hp.objs.size ≤ hp.objs.size + 1 := Nat.le_succ _
  have hn : H (hp.objs.size + 1) = none := I1.hok.fresh hsz
  have kk : ∀ b o, hp.get? b = some o → ((hp.push (PySem.W.kdv_tup [u])).push (PySem.HandSPX.excO C' hp.objs.size)).get? b = some o := fun b o e => Heap.get?_push_of_some _ (Heap.get?_push_of_some _ e)
  have hget : ((hp.push (PySem.W.kdv_tup [u])).push (PySem.HandSPX.excO C' hp.objs.size)).get? (hp.objs.size + 1) = some (PySem.HandSPX.excO C' hp.objs.size) := by heap_get
  have I2 : Inv X pins σ (upd H (hp.objs.size + 1) (exo (hp.objs.size + 1) C' none)) ⟨(hp.push (PySem.W.kdv_tup [u])).push (PySem.HandSPX.excO C' hp.objs.size), g, dr, tk, os⟩ :=
    I1.laid (t' := tk) (a := hp.objs.size + 1) (o := exo (hp.objs.size + 1) C' none) (h' := (hp.push (PySem.W.kdv_tup [u])).push (PySem.HandSPX.excO C' hp.objs.size)) kk hsz (exo_ok hget)
  have r2 : Vals [V.ref (hp.objs.size + 1), v] [Value.ref (hp.objs.size + 1), u] := .cons rfl (.cons ru .nil)
  have gd : (X.A.under (.builtin "type.__call__" ⟨[.ref C', u], []⟩)).guards = some [] := by
    have : (X.A.under (.builtin "type.__call__" ⟨[.ref C', u], []⟩)).guards = X.A.guards := by
      first | rfl | simp [Around.under, Code.guards, Code.isGuard, guardIds, pushGuards]
    rw [this]; exact hr.gd
  have hsp : spXI C' f [.ref (hp.objs.size + 1), v] (upd H (hp.objs.size + 1) (exo (hp.objs.size + 1) C' none)) (fun z H2 => z = .non ∧ Q (.ref (hp.objs.size + 1)) H2) (fun _ _ _ => False) := by
    refine ⟨_, v, rfl, upd_same, fun dx h1 h2 => ⟨rfl, ?_⟩⟩
    have h3 : H dx = none := by rw [upd_ne h2] at h1; exact h1
    have eH : upd (upd (upd H (hp.objs.size + 1) (exo (hp.objs.size + 1) C' none)) dx (exd dx [(f, v)])) (hp.objs.size + 1) (exo (hp.objs.size + 1) C' (some dx)) = upd (upd H dx (exd dx [(f, v)])) (hp.objs.size + 1) (exo (hp.objs.size + 1) C' (some dx)) := by
      funext b
      by_cases b1 : b = hp.objs.size + 1
      · subst b1; rw [upd_same, upd_same]
      · rw [upd_ne b1, upd_ne b1]
        by_cases b2 : b = dx
        · subst b2; rw [upd_same, upd_same]
        · rw [upd_ne b2, upd_ne b2, upd_ne b1]
    rw [eH]
    exact q1 _ dx hn h3 h2
  refine wpAny_call (go_made FN hB T.noA T.noN (I1.kIn _ _ hC) (PySem.W.looks_findIn I1.kIn iC) (fun self => PySem.W.bind_fn I1.kIn self tI) (by rw [sizeLine_eq]; show 1 ≤ _; decide)
    (codeAny_mono (F1.go _ X.stack _ _ ⟨[Value.ref (hp.objs.size + 1), u], []⟩ [Value.ref (hp.objs.size + 1), u] _ _ (fun _ _ _ => False) ⟨hr.rm.make C' [u] [], gd⟩ (I2.env0.make C' [u] []) (hb _ _ _ I2.kIn) r2 hsp) fun r s' hq' => ?_))
  match r, hq' with
  | .error er, hq' => exact hq'.elim
  | .ok (.ret z), hq' =>
    obtain ⟨y, H2, J2, rv, ey, q2⟩ := I2.after hq'
    subst ey
    exact ⟨rv, .ref (hp.objs.size + 1), H2, J2, rfl, q2⟩
end
end L2
namespace L2
open PySem PySem.Spec PyProof.Rows PySem.XO
section
variable {X : Cx} {pins : List (Addr × Obj)} {σ : St} {H : Hp} {s : Shared}
theorem run_newX0 {k : Nat} {x : Str} {Q : VK} (M : XMk0 X.prog X.w X.K X.mg X.base k x) (hr : L3.RoomG (k + 1) X.A) (I1 : Inv X pins σ H s) {C : Addr} (hC0 : PySem.W.nsIn X.K mainGlobals x = some (some (.ref C)))
    (q1 : ∀ a, H a = none → Q (.ref a) (upd H a (exo a C none))) : wpAny (model X.prog X.w) X.A (call (.ref C) []) (EP X pins σ Q) X.xe s := by
  obtain ⟨C', fI, bm, fd, ps, hns, hm, T, iC, tI, hb, F1⟩ := M.ex
  obtain rfl : C' = C := by rw [hns] at hC0; cases hC0; rfl
  obtain ⟨nm, q, N, bs, sn, sub, ab, col, dd, k0, k1, k2, k3, k5, B, newId, hC, FN, hB⟩ := T.cls
  obtain ⟨hp, g, dr, tk, os⟩ := s
  have hsz : hp.objs.size ≤ hp.objs.size + 1 := Nat.le_succ _
  have hn : H (hp.objs.size + 1) = none := I1.hok.fresh hsz
  have kk : ∀ b o, hp.get? b = some o → ((hp.push (PySem.W.kdv_tup [])).push (PySem.HandSPX.excO C' hp.objs.size)).get? b = some o := fun b o e => Heap.get?_push_of_some _ (Heap.get?_push_of_some _ e)
  have hget : ((hp.push (PySem.W.kdv_tup [])).push (PySem.HandSPX.excO C' hp.objs.size)).get? (hp.objs.size + 1) = some (PySem.HandSPX.excO C' hp.objs.size) := by heap_get
  have I2 : Inv X pins σ (upd H (hp.objs.size + 1) (exo (hp.objs.size + 1) C' none)) ⟨(hp.push (PySem.W.kdv_tup [])).push (PySem.HandSPX.excO C' hp.objs.size), g, dr, tk, os⟩ :=
    I1.laid (t' := tk) (a := hp.objs.size + 1) (o := exo (hp.objs.size + 1) C' none) (h' := (hp.push (PySem.W.kdv_tup [])).push (PySem.HandSPX.excO C' hp.objs.size)) kk hsz (exo_ok hget)
  have r2 : Vals [V.ref (hp.objs.size + 1)] [Value.ref (hp.objs.size + 1)] := .cons rfl .nil
  have gd : (X.A.under (.builtin "type.__call__" ⟨[.ref C'], []⟩)).guards = some [] := by
    have : (X.A.under (.builtin "type.__call__" ⟨[.ref C'], []⟩)).guards = X.A.guards := by
      first | rfl | simp [Around.under, Code.guards, Code.isGuard, guardIds, pushGuards]
    rw [this]; exact hr.gd
  have hsp : spXI0 C' [.ref (hp.objs.size + 1)] (upd H (hp.objs.size + 1) (exo (hp.objs.size + 1) C' none)) (fun z H2 => z = .non ∧ Q (.ref (hp.objs.size + 1)) H2) (fun _ _ _ => False) := ⟨_, rfl, upd_same, rfl, q1 _ hn⟩
  refine wpAny_call (go_made FN hB T.noA T.noN (I1.kIn _ _ hC) (PySem.W.looks_findIn I1.kIn iC) (fun self => PySem.W.bind_fn I1.kIn self tI) (by rw [sizeLine_eq]; show 0 ≤ _; decide)
    (codeAny_mono (F1.go _ X.stack _ _ ⟨[Value.ref (hp.objs.size + 1)], []⟩ [Value.ref (hp.objs.size + 1)] _ _ (fun _ _ _ => False) ⟨hr.rm.make C' [] [], gd⟩ (I2.env0.make C' [] []) (hb _ _ I2.kIn) r2 hsp) fun r s' hq' => ?_))
  match r, hq' with
  | .error er, hq' => exact hq'.elim
  | .ok (.ret z), hq' =>
    obtain ⟨y, H2, J2, rv, ey, q2⟩ := I2.after hq'
    subst ey
    exact ⟨rv, .ref (hp.objs.size + 1), H2, J2, rfl, q2⟩
structure XMkB (K : PySem.W.Frag) (mg : Str → Option Value) (x : Str) : Prop where
  ex : ∃ (C : Addr) (bm : List Value) (Bi initId : String), PySem.W.nsIn K mainGlobals x = some (some (.ref C)) ∧ mg x = some (.ref C) ∧ OexG K C bm ∧ PySem.W.findIn K (.ref C) "__init__" = some (some (.builtin initId)) ∧ XIni Bi initId ∧ bm.contains (.type Bi) = true ∧ ∀ self, bindSpecial (.builtin initId) self = pure (.builtin initId, [self])
theorem run_newB {x : Str} {us : List Value} {Q : VK} (M : XMkB X.K X.mg x) (hl : us.length ≤ 1000) (I1 : Inv X pins σ H s) {C : Addr} (hC0 : PySem.W.nsIn X.K mainGlobals x = some (some (.ref C)))
    (q1 : ∀ a, H a = none → Q (.ref a) (upd H a (exo a C none))) : wpAny (model X.prog X.w) X.A (call (.ref C) us) (EP X pins σ Q) X.xe s := by
  obtain ⟨C', bm, Bi, initId, hns, hm, T, iC, FI, hBi, hbind⟩ := M.ex
  obtain rfl : C' = C := by rw [hns] at hC0; cases hC0; rfl
  obtain ⟨nm, q, N, bs, sn, sub, ab, col, dd, k0, k1, k2, k3, k5, B, newId, hC, FN, hB⟩ := T.cls
  obtain ⟨hp, g, dr, tk, os⟩ := s
  have hz : us.length ≤ sizeLine := by rw [sizeLine_eq]; omega
  have hsz : hp.objs.size ≤ hp.objs.size + 1 := Nat.le_succ _
  have hn : H (hp.objs.size + 1) = none := I1.hok.fresh hsz
  have kk : ∀ b o, hp.get? b = some o → ((hp.push (PySem.W.kdv_tup us)).push (PySem.HandSPX.excO C' hp.objs.size)).get? b = some o := fun b o e => Heap.get?_push_of_some _ (Heap.get?_push_of_some _ e)
  have hget : ((hp.push (PySem.W.kdv_tup us)).push (PySem.HandSPX.excO C' hp.objs.size)).get? (hp.objs.size + 1) = some (PySem.HandSPX.excO C' hp.objs.size) := by heap_get
  have hC1 := I1.kIn _ _ hC
  refine wpAny_call (go_madeV FN hB T.noA T.noN hC1 (PySem.W.looks_findIn I1.kIn iC) (fun self => by rw [hbind]; exact .now) hz ?_)
  refine go_ini FI hBi (kk _ _ hC1) hget hz fun h' t1 k hx => ?_
  have kk2 : ∀ b o, hp.get? b = some o → h'.get? b = some o := fun b o e => k b o (Nat.ne_of_lt (Nat.lt_of_lt_of_le (Heap.lt_size e) hsz)) (kk b o e)
  exact ⟨rfl, .ref (hp.objs.size + 1), _, I1.laid (t' := tk) (a := hp.objs.size + 1) (o := exo (hp.objs.size + 1) C' none) (h' := h') kk2 hsz (exo_ok hx), rfl, q1 _ hn⟩
end
end L2
namespace L3
open PySem PySem.Spec PyProof.Rows L2 PySem.XO
section
variable {X : Cx} {Z : Zn X.kn} {e : Expr} {es : List Expr} {te : TE3} {tr : TA3} {x f : Str} {p pos : Pos} {k j : Nat} {ns : List Str}
structure Xc3 (K : PySem.W.Frag) (n : Str) : Prop where
  ex : ∀ C, PySem.W.nsIn K mainGlobals n = some (some (.ref C)) → ExcC K C
def isXk (K : PySem.W.Frag) (n : Str) (c : D) (b : Bool) : Prop := match c with
  | .ty m => ∀ C, PySem.W.nsIn K mainGlobals n = some (some (.ref C)) → PySem.W.kitOne K (.ref C) (.type m) = some b
  | .cls m => ∀ C Cm, PySem.W.nsIn K mainGlobals n = some (some (.ref C)) → PySem.W.nsIn K mainGlobals m = some (some (.ref Cm)) → PySem.W.kitOne K (.ref C) (.ref Cm) = some b
  | _ => False
def gIsX (tb : Str → D → Option Bool) : GA := fun ds μ R => gIsi ds μ R ∨ ∃ n fs c b, ds = [.exc n fs, c] ∧ tb n c = some b ∧ R (.bl b) μ
theorem exc_at {K : Kn} {F : Addr → Prop} {H : Hp} {n : Str} {fs : List (Str × D)} {v : V} (r : Rp K F H (.exc n fs) v) : ∃ a C od, v = .ref a ∧ clsA K n C ∧ H a = some (exo a C od) ∧ ∀ dx, od = some dx → ∃ gs, H dx = some (exd dx gs) ∧ Rpf K F H fs gs := by
  cases r with
  | exc c f1 f2 h1 h2 rf => exact ⟨_, _, _, rfl, c, h1, fun dx e => by cases e; exact ⟨_, h2, rf⟩⟩
  | exc0 c f1 h1 => exact ⟨_, _, _, rfl, c, h1, fun dx e => by cases e⟩
theorem c_isX {tb : Str → D → Option Bool} (h : ∀ n c b, tb n c = some b → Xc3 X.K n ∧ isXk X.K n c b) : CallL X Z (.builtin "isinstance") (gIsX tb) := by
  obtain ⟨r, hr, hf⟩ := c_isi (X := X) (Z := Z)
  refine ⟨_, hr.or call_isX, fun F H μ ds vs R Q s rs q kk => ?_⟩
  rcases q with q | ⟨n, fs, c, b, rfl, et, q⟩
  · exact .inl (hf F H μ ds vs R Q s rs q kk)
  · right
    obtain ⟨xc, ik⟩ := h n c b et
    cases rs with
    | cons r1 t =>
      cases t with
      | cons r2 t =>
        cases t
        obtain ⟨a, C, od, rfl, ca, ea, hd⟩ := exc_at r1
        have fin := kk F (.bl b) H (.bl b) μ (Step.refl s) (.bl b) q
        have hd' : ∀ dx, od = some dx → ∃ gs, H dx = some (exd dx gs) := fun dx e => let ⟨gs, h1, _⟩ := hd dx e; ⟨gs, h1⟩
        cases c with
        | ty m =>
          cases r2
          exact ⟨a, C, od, _, .type m, b, rfl, ea, hd', xc.ex C ca, .ty m, ik C ca, fin⟩
        | cls m =>
          cases r2 with
          | cls cm => exact ⟨a, C, od, _, .ref _, b, rfl, ea, hd', xc.ex C ca, .own _, ik C _ ca cm, fin⟩
        | _ => exact ik.elim
def vExf (ns : List Str) (f : Str) (te : TE3) : TE3 := fun δ μ R => te δ μ fun d μ1 => ∃ n fs v, d = .exc n fs ∧ n ∈ ns ∧ fs.lookup f = some v ∧ R v μ1
theorem e_exf (h : ∀ n ∈ ns, Xf3 X.K n f) (he : E3 X Z e te) (hb : attributeBase e f X.env (eval e X.env) = eval e X.env := by rfl) : E3 X Z (.Attribute e f pos) (vExf ns f te) :=
  (pe_exf he hb).imp fun σ H Q q => by
    obtain ⟨F, δ, μ, R, sm, sl, q, kk⟩ := q
    refine ⟨F, δ, μ, _, sm, sl, q, fun F1 v H1 d μ1 g r ⟨n, fs, w, ed, hn, hl, q⟩ => ?_⟩
    subst ed
    cases r with
    | exc0 _ _ _ => cases hl
    | @exc _ C _ gs a dx ca _ _ ea ed hf =>
      obtain ⟨u, hu, ru⟩ := hf.val.1 w hl
      exact ⟨a, C, dx, gs, u, rfl, ea, ed, ((h n hn).ex C ca).1, ((h n hn).ex C ca).2, hu, kk F1 u H1 w μ1 g ru q⟩
def vMkX (x f : Str) (tr : TA3) : TE3 := fun δ μ R => tr δ μ fun ds μ1 => ∃ d, ds = [d] ∧ R (.exc x [(f, d)]) μ1
theorem e_mkX (M : XMk X.prog X.w X.K X.mg X.base k x f) (hr : RoomG j X.A) (ha : A3 X Z [e] tr) (hk : k + 1 ≤ j := by decide) (hg : Gl X x := by rfl) (hd : (x == ("__debug__" : Str)) = false := by decide)
    (hs : starEach [e] X.env = (false, eval e X.env) :: starEach [] X.env := by rfl) (hpl : (backTo pos (starEach [] X.env)).any (·.1) = false := by rfl) : E3 X Z (.Call (.Name x p) [e] [] pos) (vMkX x f tr) := by
  obtain ⟨C, fI, bm, fd, ps, hns, hm, T, _⟩ := M.ex
  refine ⟨fun pins s σ H Q I h => ?_⟩
  refine wpAny_Call_Name_kw (ld_glob I hg hm ?_ hd)
  obtain ⟨F, δ, μ, R, sm, sl, h, kk⟩ := h
  refine PySem.W.callWith_K (h₀ := X.base) I.ok.mod.kin T.kC (thn (ha.run pos pins s σ H _ I (got sm sl h))
    fun us s1 ⟨vs, H1, I1, r, F1, ds, μ1, g, r1, d, ed, q1⟩ => ⟨I1.kIn, ?_⟩) hs hpl
  subst ed
  cases r1 with
  | @cons _ v _ _ rv t =>
    cases t
    obtain ⟨u, rfl, ru⟩ := r.one
    refine run_newX M (hr.mono hk) I1 ru hns fun a dx ha hdx ne => ?_
    have g1 := g.sim.frzS (o := exd dx [(f, v)]) hdx
    have ha1 : upd H1 dx (exd dx [(f, v)]) a = none := by rw [upd_ne (Ne.symm ne)]; exact ha
    have g2 := g1.sim.frzS (o := exo a C (some dx)) ha1
    have gg := g1.trans g2
    refine kk _ _ _ (.exc x [(f, d)]) μ1 (g.trans gg) (.exc (dx := dx) (gs := [(f, v)]) hns (.inr rfl) (.inl (.inr rfl)) upd_same (by rw [upd_ne ne, upd_same]) (.cons (rv.st gg) .nil)) q1
def vMkX0 (x : Str) : TE3 := fun _ μ R => R (.exc x []) μ
theorem e_mkX0 (M : XMk0 X.prog X.w X.K X.mg X.base k x) (hr : RoomG j X.A) (hk : k + 1 ≤ j := by decide) (hg : Gl X x := by rfl) (hd : (x == ("__debug__" : Str)) = false := by decide) : E3 X Z (.Call (.Name x p) [] [] pos) (vMkX0 x) := by
  obtain ⟨C, fI, bm, fd, ps, hns, hm, T, _⟩ := M.ex
  refine ⟨fun pins s σ H Q I h => ?_⟩
  refine wpAny_Call_Name_kw (ld_glob I hg hm ?_ hd)
  obtain ⟨F, δ, μ, R, sm, sl, h, kk⟩ := h
  refine PySem.W.callWith_K0 I.kIn T.kC ?_
  refine run_newX0 M (hr.mono hk) I hns fun a ha => ?_
  have g1 := sm.frzS (o := exo a C none) ha
  exact kk _ _ _ (.exc x []) μ g1 (.exc0 hns (.inr rfl) upd_same) h
def vMkXB (x : Str) (tr : TA3) : TE3 := fun δ μ R => tr δ μ fun ds μ1 => ds.length = 1 ∧ R (.exc x []) μ1
theorem e_mkXB (M : XMkB X.K X.mg x) (ha : A3 X Z [e] tr) (hg : Gl X x := by rfl) (hd : (x == ("__debug__" : Str)) = false := by decide)
    (hs : starEach [e] X.env = (false, eval e X.env) :: starEach [] X.env := by rfl) (hpl : (backTo pos (starEach [] X.env)).any (·.1) = false := by rfl) : E3 X Z (.Call (.Name x p) [e] [] pos) (vMkXB x tr) := by
  obtain ⟨C, bm, Bi, initId, hns, hm, T, _⟩ := M.ex
  refine ⟨fun pins s σ H Q I h => ?_⟩
  refine wpAny_Call_Name_kw (ld_glob I hg hm ?_ hd)
  obtain ⟨F, δ, μ, R, sm, sl, h, kk⟩ := h
  refine PySem.W.callWith_K (h₀ := X.base) I.ok.mod.kin T.kC (thn (ha.run pos pins s σ H _ I (got sm sl h))
    fun us s1 ⟨vs, H1, I1, r, F1, ds, μ1, g, r1, ed, q1⟩ => ⟨I1.kIn, ?_⟩) hs hpl
  have e1 := r1.length
  have e2 := r.length
  refine run_newB M (by show us.length ≤ 1000; omega) I1 hns fun a ha => ?_
  have g1 := g.sim.frzS (o := exo a C none) ha
  exact kk _ _ _ (.exc x []) μ1 (g.trans g1) (.exc0 hns (.inr rfl) upd_same) q1
end
end L3
namespace L3
open PySem PySem.Spec PyProof.Rows L2 PySem.XO
abbrev XT := List (Str × List Str × List String)
def isT (T : XT) (ts : List String) (n : Str) (c : D) : Option Bool := match T.lookup n with
  | none => none
  | some (ow, bt) => match c with
    | .cls m => if (T.lookup m).isSome then some (ow.contains m) else none
    | .ty t => if ts.contains t then some (bt.contains t) else none
    | _ => none
def nsC (K : PySem.W.Frag) (n : Str) : Option Addr := match PySem.W.nsIn K mainGlobals n with
  | some (some (.ref C)) => some C
  | _ => none
theorem nsC_eq {K : PySem.W.Frag} {n : Str} {C : Addr} (h : PySem.W.nsIn K mainGlobals n = some (some (.ref C))) : nsC K n = some C := by unfold nsC; rw [h]
theorem nsC_of {K : PySem.W.Frag} {n : Str} {C : Addr} (h : nsC K n = some C) : PySem.W.nsIn K mainGlobals n = some (some (.ref C)) := by
  unfold nsC at h
  split at h
  · rename_i e; cases h; exact e
  · cases h
def excB (K : PySem.W.Frag) (C : Addr) : Bool := xfB K C && (decide (PySem.W.findIn K (.ref C) "__class__" = some (some (.builtin "object.__class__"))) && (decide (PySem.W.specialIn K (.builtin "object.__class__") "__get__" = some (some (.builtin "getset_descriptor.__get__"))) && (decide (PySem.W.takesIn K (.builtin "object.__class__") = some true) && decide (PySem.W.mroIn K C (.type "object") = some true))))
theorem excB_ok {K : PySem.W.Frag} {C : Addr} (h : excB K C = true) : ExcC K C := by
  unfold excB at h
  simp only [Bool.and_eq_true, decide_eq_true_eq] at h
  obtain ⟨h1, h2, h3, h4, h5⟩ := h
  have x := xfB_ok h1
  exact ⟨x.ga, x.gg, x.exC, x.hdC, h2, h3, h4, h5⟩
def isxB (T : XT) (ts : List String) (K : PySem.W.Frag) : Bool := T.all fun p => match nsC K p.1 with
  | none => false
  | some C => excB K C && (T.all (fun q => match nsC K q.1 with
      | none => false
      | some Cm => PySem.W.kitOne K (.ref C) (.ref Cm) == some (p.2.1.contains q.1)) && ts.all fun t => PySem.W.kitOne K (.ref C) (.type t) == some (p.2.2.contains t))
theorem lookup_mem {α β : Type} [BEq α] [LawfulBEq α] {l : List (α × β)} {a : α} {b : β} (h : l.lookup a = some b) : (a, b) ∈ l := by
  induction l with
  | nil => cases h
  | cons p r ih =>
    obtain ⟨x, y⟩ := p
    by_cases e : a = x
    · subst e
      rw [List.lookup_cons_self] at h
      cases h
      exact List.mem_cons_self
    · rw [List.lookup_cons, beq_false_of_ne e] at h
      exact List.mem_cons_of_mem _ (ih h)
theorem isx_of {T : XT} {ts : List String} {K : PySem.W.Frag} (h : isxB T ts K = true) : ∀ n c b, isT T ts n c = some b → Xc3 K n ∧ isXk K n c b := by
  intro n c b e
  unfold isT at e
  split at e
  · cases e
  · rename_i ow bt el
    have h1 := List.all_eq_true.mp h _ (lookup_mem el)
    dsimp only at h1
    split at h1
    · cases h1
    · rename_i C hC
      simp only [Bool.and_eq_true] at h1
      obtain ⟨h1, h2, h3⟩ := h1
      refine ⟨⟨fun C' hC' => ?_⟩, ?_⟩
      · have := nsC_eq hC'
        rw [hC] at this
        cases this
        exact excB_ok h1
      · split at e
        · rename_i m
          split at e
          · rename_i hm
            cases e
            obtain ⟨pm, em⟩ := Option.isSome_iff_exists.mp hm
            have h4 := List.all_eq_true.mp h2 _ (lookup_mem em)
            dsimp only at h4
            intro C' Cm' hC' hCm'
            rw [nsC_eq hCm'] at h4
            have := nsC_eq hC'
            rw [hC] at this
            cases this
            exact beq_iff_eq.mp h4
          · cases e
        · rename_i t
          split at e
          · rename_i ht
            cases e
            have h4 := List.all_eq_true.mp h3 _ (List.contains_iff_mem.mp ht)
            intro C' hC'
            have := nsC_eq hC'
            rw [hC] at this
            cases this
            exact beq_iff_eq.mp h4
          · cases e
        · cases e
def xfsB (f : Str) (ns : List Str) (K : PySem.W.Frag) : Bool := ns.all fun n => match nsC K n with
  | none => false
  | some C => xfB K C && decide (PySem.W.findIn K (.ref C) f = some none)
theorem xfs_of {f : Str} {ns : List Str} {K : PySem.W.Frag} (h : xfsB f ns K = true) : ∀ n ∈ ns, Xf3 K n f := fun n hn => by
  have h1 := List.all_eq_true.mp h n hn
  split at h1
  · cases h1
  · rename_i C hC
    simp only [Bool.and_eq_true, decide_eq_true_eq] at h1
    refine ⟨fun C' hC' => ?_⟩
    have := nsC_eq hC'
    rw [hC] at this
    cases this
    exact ⟨xfB_ok h1.1, h1.2⟩
def Cxn (K : PySem.W.Frag) (mg : Str → Option Value) (ns : List Str) : Prop := ∀ n ∈ ns, ∃ C, PySem.W.nsIn K mainGlobals n = some (some (.ref C)) ∧ mg n = some (.ref C)
def cxnB (ns : List Str) (K : PySem.W.Frag) : Bool := ns.all fun n => (nsC K n).isSome
theorem cxn_of {K : PySem.W.Frag} {h : Heap} {mg : Str → Option Value} {ns : List Str} (X : K.In h) (G : h.Ns mainGlobals mg) (b : cxnB ns K = true) : Cxn K mg ns := fun n hn => by
  have h1 := List.all_eq_true.mp b n hn
  obtain ⟨C, hC⟩ := Option.isSome_iff_exists.mp h1
  exact ⟨C, nsC_of hC, PySem.W.mg_of X G (nsC_of hC)⟩
theorem e_gclsX {X : Cx} {Z : Zn X.kn} {ns : List Str} {x : Str} {pos : Pos} (h : Cxn X.K X.mg ns) (hx : x ∈ ns) (hg : Gl X x := by rfl) (hd : (x == ("__debug__" : Str)) = false := by decide) : E3 X Z (.Name x pos) (vC (.cls x)) := by
  obtain ⟨C, h1, h2⟩ := h x hx
  exact (pe_glob (v := .ref C) hg h2 rfl hd).imp fun σ H Q q => by
    obtain ⟨F, δ, μ, R, sm, sl, q, kk⟩ := q
    exact kk F (.ref C) H (.cls x) μ (Step.refl sm) (.cls h1) q
theorem bs_V (self : Value) : bindSpecial (.builtin "ValueError.__init__") self = pure (.builtin "ValueError.__init__", [self]) := by kernel_rfl
theorem bs_K (self : Value) : bindSpecial (.builtin "KeyError.__init__") self = pure (.builtin "KeyError.__init__", [self]) := by kernel_rfl
theorem bs_L (self : Value) : bindSpecial (.builtin "LookupError.__init__") self = pure (.builtin "LookupError.__init__", [self]) := by kernel_rfl
end L3
namespace C1
open PySem PySem.Spec L2 L3
section
open PySem PySem.Spec L2 L3
def tsX : List String := ["ValueError", "KeyError", "LookupError", "IndexError"]
def xtB : XT := [(("PlanError" : Str), [("PlanError" : Str)], ["ValueError"]),
  (("MissingError" : Str), [("MissingError" : Str)], ["KeyError", "LookupError"]),
  (("StateError" : Str), [("StateError" : Str)], ["LookupError"]),
  (("InvalidInteger" : Str), [("InvalidInteger" : Str), ("PlanError" : Str)], ["ValueError"]),
  (("InvalidName" : Str), [("InvalidName" : Str), ("PlanError" : Str)], ["ValueError"]),
  (("Duplicate" : Str), [("Duplicate" : Str), ("PlanError" : Str)], ["ValueError"]),
  (("InvalidEvents" : Str), [("InvalidEvents" : Str), ("PlanError" : Str)], ["ValueError"]),
  (("InvalidTies" : Str), [("InvalidTies" : Str), ("PlanError" : Str)], ["ValueError"]),
  (("InvalidTie" : Str), [("InvalidTie" : Str), ("PlanError" : Str)], ["ValueError"]),
  (("InvalidLimits" : Str), [("InvalidLimits" : Str), ("PlanError" : Str)], ["ValueError"]),
  (("Ring" : Str), [("Ring" : Str), ("PlanError" : Str)], ["ValueError"]),
  (("InvalidPlan" : Str), [("InvalidPlan" : Str), ("PlanError" : Str)], ["ValueError"]),
  (("UnlikeEvents" : Str), [("UnlikeEvents" : Str), ("PlanError" : Str)], ["ValueError"]),
  (("InvalidText" : Str), [("InvalidText" : Str), ("PlanError" : Str)], ["ValueError"]),
  (("InvalidCounts" : Str), [("InvalidCounts" : Str), ("PlanError" : Str)], ["ValueError"]),
  (("InvalidRun" : Str), [("InvalidRun" : Str), ("PlanError" : Str)], ["ValueError"]),
  (("InvalidStock" : Str), [("InvalidStock" : Str), ("PlanError" : Str)], ["ValueError"]),
  (("InvalidAmounts" : Str), [("InvalidAmounts" : Str), ("PlanError" : Str)], ["ValueError"]),
  (("InvalidBounds" : Str), [("InvalidBounds" : Str), ("PlanError" : Str)], ["ValueError"]),
  (("InvalidNames" : Str), [("InvalidNames" : Str), ("PlanError" : Str)], ["ValueError"]),
  (("InvalidCommand" : Str), [("InvalidCommand" : Str), ("PlanError" : Str)], ["ValueError"]),
  (("InvalidCommands" : Str), [("InvalidCommands" : Str), ("PlanError" : Str)], ["ValueError"]),
  (("TooMany" : Str), [("TooMany" : Str), ("PlanError" : Str)], ["ValueError"]),
  (("InvalidLog" : Str), [("InvalidLog" : Str), ("PlanError" : Str)], ["ValueError"]),
  (("InvalidLogs" : Str), [("InvalidLogs" : Str), ("PlanError" : Str)], ["ValueError"]),
  (("InvalidEntry" : Str), [("InvalidEntry" : Str), ("PlanError" : Str)], ["ValueError"]),
  (("UnknownEvent" : Str), [("UnknownEvent" : Str), ("MissingError" : Str)], ["KeyError", "LookupError"]),
  (("NoTie" : Str), [("NoTie" : Str), ("MissingError" : Str)], ["KeyError", "LookupError"]),
  (("NoEntry" : Str), [("NoEntry" : Str), ("MissingError" : Str)], ["KeyError", "LookupError"]),
  (("Barred" : Str), [("Barred" : Str), ("StateError" : Str)], ["LookupError"]),
  (("NotMoment" : Str), [("NotMoment" : Str), ("StateError" : Str)], ["LookupError"]),
  (("NotBehind" : Str), [("NotBehind" : Str), ("StateError" : Str)], ["LookupError"]),
  (("TooLong" : Str), [("TooLong" : Str), ("StateError" : Str)], ["LookupError"]),
  (("Endless" : Str), [("Endless" : Str), ("StateError" : Str)], ["LookupError"]),
  (("NotPossible" : Str), [("NotPossible" : Str), ("StateError" : Str)], ["LookupError"]),
  (("Misfit" : Str), [("Misfit" : Str), ("StateError" : Str)], ["LookupError"]),
  (("NotSafe" : Str), [("NotSafe" : Str), ("StateError" : Str)], ["LookupError"]),
  (("NoRun" : Str), [("NoRun" : Str), ("StateError" : Str)], ["LookupError"]),
  (("NothingToUndo" : Str), [("NothingToUndo" : Str), ("StateError" : Str)], ["LookupError"]),
  (("NothingToRedo" : Str), [("NothingToRedo" : Str), ("StateError" : Str)], ["LookupError"])]
def xns_bound : List Str := [("TooMany" : Str)]
def xns_event : List Str := [("Endless" : Str)]
def xns_index : List Str := [("NoTie" : Str), ("Barred" : Str), ("Misfit" : Str), ("NotSafe" : Str)]
def xns_members : List Str := [("Ring" : Str), ("UnlikeEvents" : Str)]
def xns_name : List Str := [("Duplicate" : Str), ("UnknownEvent" : Str), ("NoEntry" : Str)]
def xns_total : List Str := [("TooLong" : Str)]
def xns_value : List Str := [("InvalidInteger" : Str), ("InvalidName" : Str), ("InvalidEvents" : Str), ("InvalidTies" : Str), ("InvalidTie" : Str), ("InvalidLimits" : Str), ("InvalidPlan" : Str), ("InvalidText" : Str), ("InvalidCounts" : Str), ("InvalidRun" : Str), ("InvalidStock" : Str), ("InvalidAmounts" : Str), ("InvalidBounds" : Str), ("InvalidNames" : Str), ("InvalidCommand" : Str), ("InvalidCommands" : Str), ("InvalidLog" : Str), ("InvalidLogs" : Str), ("InvalidEntry" : Str), ("NotMoment" : Str), ("NotBehind" : Str)]
def xcnB : List Str := [("PlanError" : Str), ("MissingError" : Str), ("StateError" : Str), ("InvalidInteger" : Str), ("InvalidName" : Str), ("Duplicate" : Str), ("InvalidEvents" : Str), ("InvalidTies" : Str), ("InvalidTie" : Str), ("InvalidLimits" : Str), ("Ring" : Str), ("InvalidPlan" : Str), ("UnlikeEvents" : Str), ("InvalidText" : Str), ("InvalidCounts" : Str), ("InvalidRun" : Str), ("InvalidStock" : Str), ("InvalidAmounts" : Str), ("InvalidBounds" : Str), ("InvalidNames" : Str), ("InvalidCommand" : Str), ("InvalidCommands" : Str), ("TooMany" : Str), ("InvalidLog" : Str), ("InvalidLogs" : Str), ("InvalidEntry" : Str), ("UnknownEvent" : Str), ("NoTie" : Str), ("NoEntry" : Str), ("Barred" : Str), ("NotMoment" : Str), ("NotBehind" : Str), ("TooLong" : Str), ("Endless" : Str), ("NotPossible" : Str), ("Misfit" : Str), ("NotSafe" : Str), ("NoRun" : Str), ("NothingToUndo" : Str), ("NothingToRedo" : Str)]
end
end C1
namespace K03
open PySem PySem.Spec L2 L3 C1
def topS (j : Nat) : Stmt := (PySem.Challenge.pw_pileups_k03_errors_and_their_fields).main.body.getD j (Stmt.Pass ⟨0, 0, 0, 0⟩)
def faB0 : List (Fb) := [fun K => decide (PySem.W.nsIn K mainGlobals "Barred" = some (some (.ref (He.ga K "Barred")))),
  fun K => decide (PySem.W.nsIn K mainGlobals "Duplicate" = some (some (.ref (He.ga K "Duplicate")))),
  fun K => decide (PySem.W.nsIn K mainGlobals "Endless" = some (some (.ref (He.ga K "Endless")))),
  fun K => decide (PySem.W.nsIn K mainGlobals "InvalidAmounts" = some (some (.ref (He.ga K "InvalidAmounts")))),
  fun K => decide (PySem.W.nsIn K mainGlobals "InvalidBounds" = some (some (.ref (He.ga K "InvalidBounds")))),
  fun K => decide (PySem.W.nsIn K mainGlobals "InvalidCommand" = some (some (.ref (He.ga K "InvalidCommand")))),
  fun K => decide (PySem.W.nsIn K mainGlobals "InvalidCommands" = some (some (.ref (He.ga K "InvalidCommands")))),
  fun K => decide (PySem.W.nsIn K mainGlobals "InvalidCounts" = some (some (.ref (He.ga K "InvalidCounts")))),
  fun K => decide (PySem.W.nsIn K mainGlobals "InvalidEntry" = some (some (.ref (He.ga K "InvalidEntry")))),
  fun K => decide (PySem.W.nsIn K mainGlobals "InvalidEvents" = some (some (.ref (He.ga K "InvalidEvents")))),
  fun K => decide (PySem.W.nsIn K mainGlobals "InvalidInteger" = some (some (.ref (He.ga K "InvalidInteger")))),
  fun K => decide (PySem.W.nsIn K mainGlobals "InvalidLimits" = some (some (.ref (He.ga K "InvalidLimits")))),
  fun K => decide (PySem.W.nsIn K mainGlobals "InvalidLog" = some (some (.ref (He.ga K "InvalidLog")))),
  fun K => decide (PySem.W.nsIn K mainGlobals "InvalidLogs" = some (some (.ref (He.ga K "InvalidLogs")))),
  fun K => decide (PySem.W.nsIn K mainGlobals "InvalidName" = some (some (.ref (He.ga K "InvalidName")))),
  fun K => decide (PySem.W.nsIn K mainGlobals "InvalidNames" = some (some (.ref (He.ga K "InvalidNames")))),
  fun K => decide (PySem.W.nsIn K mainGlobals "InvalidPlan" = some (some (.ref (He.ga K "InvalidPlan")))),
  fun K => decide (PySem.W.nsIn K mainGlobals "InvalidRun" = some (some (.ref (He.ga K "InvalidRun")))),
  fun K => decide (PySem.W.nsIn K mainGlobals "InvalidStock" = some (some (.ref (He.ga K "InvalidStock")))),
  fun K => decide (PySem.W.nsIn K mainGlobals "InvalidText" = some (some (.ref (He.ga K "InvalidText")))),
  fun K => decide (PySem.W.nsIn K mainGlobals "InvalidTie" = some (some (.ref (He.ga K "InvalidTie")))),
  fun K => decide (PySem.W.nsIn K mainGlobals "InvalidTies" = some (some (.ref (He.ga K "InvalidTies")))),
  fun K => decide (PySem.W.nsIn K mainGlobals "Misfit" = some (some (.ref (He.ga K "Misfit")))),
  fun K => decide (PySem.W.nsIn K mainGlobals "MissingError" = some (some (.ref (He.ga K "MissingError")))),
  fun K => decide (PySem.W.nsIn K mainGlobals "NoEntry" = some (some (.ref (He.ga K "NoEntry")))),
  fun K => decide (PySem.W.nsIn K mainGlobals "NoRun" = some (some (.ref (He.ga K "NoRun")))),
  fun K => decide (PySem.W.nsIn K mainGlobals "NoTie" = some (some (.ref (He.ga K "NoTie")))),
  fun K => decide (PySem.W.nsIn K mainGlobals "NotBehind" = some (some (.ref (He.ga K "NotBehind")))),
  fun K => decide (PySem.W.nsIn K mainGlobals "NotMoment" = some (some (.ref (He.ga K "NotMoment")))),
  fun K => decide (PySem.W.nsIn K mainGlobals "NotPossible" = some (some (.ref (He.ga K "NotPossible"))))]
def faB1 : List (Fb) := [fun K => decide (PySem.W.nsIn K mainGlobals "NotSafe" = some (some (.ref (He.ga K "NotSafe")))),
  fun K => decide (PySem.W.nsIn K mainGlobals "NothingToRedo" = some (some (.ref (He.ga K "NothingToRedo")))),
  fun K => decide (PySem.W.nsIn K mainGlobals "NothingToUndo" = some (some (.ref (He.ga K "NothingToUndo")))),
  fun K => decide (PySem.W.nsIn K mainGlobals "PlanError" = some (some (.ref (He.ga K "PlanError")))),
  fun K => decide (PySem.W.nsIn K mainGlobals "Ring" = some (some (.ref (He.ga K "Ring")))),
  fun K => decide (PySem.W.nsIn K mainGlobals "StateError" = some (some (.ref (He.ga K "StateError")))),
  fun K => decide (PySem.W.nsIn K mainGlobals "TooLong" = some (some (.ref (He.ga K "TooLong")))),
  fun K => decide (PySem.W.nsIn K mainGlobals "TooMany" = some (some (.ref (He.ga K "TooMany")))),
  fun K => decide (PySem.W.nsIn K mainGlobals "UnknownEvent" = some (some (.ref (He.ga K "UnknownEvent")))),
  fun K => decide (PySem.W.nsIn K mainGlobals "UnlikeEvents" = some (some (.ref (He.ga K "UnlikeEvents")))),
  fun K => decide (PySem.W.specialIn K (.ref (He.ga K "MissingError")) "__getattribute__" = some (some (.builtin "type.__getattribute__"))),
  fun K => PySem.W.readsIn K (He.ga K "MissingError") (.type "type"),
  fun K => valB (PySem.W.findCls K (.ref (He.ga K "MissingError")) (.type "type") "__init__") (.builtin "KeyError.__init__"),
  fun K => decide (PySem.W.specialIn K (.ref (He.ga K "PlanError")) "__getattribute__" = some (some (.builtin "type.__getattribute__"))),
  fun K => PySem.W.readsIn K (He.ga K "PlanError") (.type "type"),
  fun K => valB (PySem.W.findCls K (.ref (He.ga K "PlanError")) (.type "type") "__init__") (.builtin "ValueError.__init__"),
  fun K => decide (PySem.W.specialIn K (.ref (He.ga K "StateError")) "__getattribute__" = some (some (.builtin "type.__getattribute__"))),
  fun K => PySem.W.readsIn K (He.ga K "StateError") (.type "type"),
  fun K => valB (PySem.W.findCls K (.ref (He.ga K "StateError")) (.type "type") "__init__") (.builtin "LookupError.__init__"),
  fun K => xlB K (He.ga K "MissingError") [.type "KeyError", .type "LookupError", .type "Exception", .type "BaseException", .type "object"] "LookupError.__new__",
  fun K => decide (PySem.W.findIn K (.ref (He.ga K "MissingError")) "__setattr__" = some (some (.builtin "object.__setattr__"))),
  fun K => decide (PySem.W.typeIn K (.ref (He.ga K "MissingError")) = some (.type "type")),
  fun K => PySem.W.keepIn K (.ref (He.ga K "MissingError")),
  fun K => decide (PySem.W.findIn K (.ref (He.ga K "MissingError")) "__init__" = some (some (.builtin "KeyError.__init__"))),
  fun K => xlB K (He.ga K "PlanError") [.type "ValueError", .type "Exception", .type "BaseException", .type "object"] "ValueError.__new__",
  fun K => decide (PySem.W.findIn K (.ref (He.ga K "PlanError")) "__setattr__" = some (some (.builtin "object.__setattr__"))),
  fun K => decide (PySem.W.typeIn K (.ref (He.ga K "PlanError")) = some (.type "type")),
  fun K => PySem.W.keepIn K (.ref (He.ga K "PlanError")),
  fun K => decide (PySem.W.findIn K (.ref (He.ga K "PlanError")) "__init__" = some (some (.builtin "ValueError.__init__"))),
  fun K => xlB K (He.ga K "StateError") [.type "LookupError", .type "Exception", .type "BaseException", .type "object"] "LookupError.__new__"]
def faB2 : List (Fb) := [fun K => decide (PySem.W.findIn K (.ref (He.ga K "StateError")) "__setattr__" = some (some (.builtin "object.__setattr__"))),
  fun K => decide (PySem.W.typeIn K (.ref (He.ga K "StateError")) = some (.type "type")),
  fun K => PySem.W.keepIn K (.ref (He.ga K "StateError")),
  fun K => decide (PySem.W.findIn K (.ref (He.ga K "StateError")) "__init__" = some (some (.builtin "LookupError.__init__"))),
  fun K => cxnB xcnB K,
  fun K => isxB xtB tsX K,
  fun K => xfsB "bound" xns_bound K,
  fun K => xfsB "event" xns_event K,
  fun K => xfsB "index" xns_index K,
  fun K => xfsB "members" xns_members K,
  fun K => xfsB "name" xns_name K,
  fun K => xfsB "total" xns_total K,
  fun K => xfsB "value" xns_value K,
  fun K => decide (PySem.W.subIn K (.ref (He.ga K "Barred")) (.type "BaseException") = some true),
  fun K => decide (PySem.W.subIn K (.ref (He.ga K "Duplicate")) (.type "BaseException") = some true),
  fun K => decide (PySem.W.subIn K (.ref (He.ga K "Endless")) (.type "BaseException") = some true),
  fun K => decide (PySem.W.subIn K (.ref (He.ga K "InvalidAmounts")) (.type "BaseException") = some true),
  fun K => decide (PySem.W.subIn K (.ref (He.ga K "InvalidBounds")) (.type "BaseException") = some true),
  fun K => decide (PySem.W.subIn K (.ref (He.ga K "InvalidCommand")) (.type "BaseException") = some true),
  fun K => decide (PySem.W.subIn K (.ref (He.ga K "InvalidCommands")) (.type "BaseException") = some true),
  fun K => decide (PySem.W.subIn K (.ref (He.ga K "InvalidCounts")) (.type "BaseException") = some true),
  fun K => decide (PySem.W.subIn K (.ref (He.ga K "InvalidEntry")) (.type "BaseException") = some true),
  fun K => decide (PySem.W.subIn K (.ref (He.ga K "InvalidEvents")) (.type "BaseException") = some true),
  fun K => decide (PySem.W.subIn K (.ref (He.ga K "InvalidInteger")) (.type "BaseException") = some true),
  fun K => decide (PySem.W.subIn K (.ref (He.ga K "InvalidLimits")) (.type "BaseException") = some true),
  fun K => decide (PySem.W.subIn K (.ref (He.ga K "InvalidLog")) (.type "BaseException") = some true),
  fun K => decide (PySem.W.subIn K (.ref (He.ga K "InvalidLogs")) (.type "BaseException") = some true),
  fun K => decide (PySem.W.subIn K (.ref (He.ga K "InvalidName")) (.type "BaseException") = some true),
  fun K => decide (PySem.W.subIn K (.ref (He.ga K "InvalidNames")) (.type "BaseException") = some true),
  fun K => decide (PySem.W.subIn K (.ref (He.ga K "InvalidPlan")) (.type "BaseException") = some true)]
def faB3 : List (Fb) := [fun K => decide (PySem.W.subIn K (.ref (He.ga K "InvalidRun")) (.type "BaseException") = some true),
  fun K => decide (PySem.W.subIn K (.ref (He.ga K "InvalidStock")) (.type "BaseException") = some true),
  fun K => decide (PySem.W.subIn K (.ref (He.ga K "InvalidText")) (.type "BaseException") = some true),
  fun K => decide (PySem.W.subIn K (.ref (He.ga K "InvalidTie")) (.type "BaseException") = some true),
  fun K => decide (PySem.W.subIn K (.ref (He.ga K "InvalidTies")) (.type "BaseException") = some true),
  fun K => decide (PySem.W.subIn K (.ref (He.ga K "Misfit")) (.type "BaseException") = some true),
  fun K => decide (PySem.W.subIn K (.ref (He.ga K "MissingError")) (.type "BaseException") = some true),
  fun K => decide (PySem.W.subIn K (.ref (He.ga K "NoEntry")) (.type "BaseException") = some true),
  fun K => decide (PySem.W.subIn K (.ref (He.ga K "NoRun")) (.type "BaseException") = some true),
  fun K => decide (PySem.W.subIn K (.ref (He.ga K "NoTie")) (.type "BaseException") = some true),
  fun K => decide (PySem.W.subIn K (.ref (He.ga K "NotBehind")) (.type "BaseException") = some true),
  fun K => decide (PySem.W.subIn K (.ref (He.ga K "NotMoment")) (.type "BaseException") = some true),
  fun K => decide (PySem.W.subIn K (.ref (He.ga K "NotPossible")) (.type "BaseException") = some true),
  fun K => decide (PySem.W.subIn K (.ref (He.ga K "NotSafe")) (.type "BaseException") = some true),
  fun K => decide (PySem.W.subIn K (.ref (He.ga K "NothingToRedo")) (.type "BaseException") = some true),
  fun K => decide (PySem.W.subIn K (.ref (He.ga K "NothingToUndo")) (.type "BaseException") = some true),
  fun K => decide (PySem.W.subIn K (.ref (He.ga K "PlanError")) (.type "BaseException") = some true),
  fun K => decide (PySem.W.subIn K (.ref (He.ga K "Ring")) (.type "BaseException") = some true),
  fun K => decide (PySem.W.subIn K (.ref (He.ga K "StateError")) (.type "BaseException") = some true),
  fun K => decide (PySem.W.subIn K (.ref (He.ga K "TooLong")) (.type "BaseException") = some true),
  fun K => decide (PySem.W.subIn K (.ref (He.ga K "TooMany")) (.type "BaseException") = some true),
  fun K => decide (PySem.W.subIn K (.ref (He.ga K "UnknownEvent")) (.type "BaseException") = some true),
  fun K => decide (PySem.W.subIn K (.ref (He.ga K "UnlikeEvents")) (.type "BaseException") = some true),
  fun K => xlB K (He.ga K "Barred") [.ref (He.ga K "StateError"), .type "LookupError", .type "Exception", .type "BaseException", .type "object"] "LookupError.__new__",
  fun K => decide (PySem.W.findIn K (.ref (He.ga K "Barred")) "__setattr__" = some (some (.builtin "object.__setattr__"))),
  fun K => decide (PySem.W.typeIn K (.ref (He.ga K "Barred")) = some (.type "type")),
  fun K => PySem.W.keepIn K (.ref (He.ga K "Barred")),
  fun K => decide (PySem.W.findIn K (.ref (He.ga K "Barred")) "__init__" = some (some (.ref (He.ma K (He.ga K "Barred") "__init__")))),
  fun K => decide (PySem.W.typeIn K (.ref (He.ma K (He.ga K "Barred") "__init__")) = some (.type "function")),
  fun K => decide (PySem.W.findIn K (.ref (He.ga K "Barred")) "index" = some none)]
def faB4 : List (Fb) := [fun K => xlB K (He.ga K "Duplicate") [.ref (He.ga K "PlanError"), .type "ValueError", .type "Exception", .type "BaseException", .type "object"] "ValueError.__new__",
  fun K => decide (PySem.W.findIn K (.ref (He.ga K "Duplicate")) "__setattr__" = some (some (.builtin "object.__setattr__"))),
  fun K => decide (PySem.W.typeIn K (.ref (He.ga K "Duplicate")) = some (.type "type")),
  fun K => PySem.W.keepIn K (.ref (He.ga K "Duplicate")),
  fun K => decide (PySem.W.findIn K (.ref (He.ga K "Duplicate")) "__init__" = some (some (.ref (He.ma K (He.ga K "Duplicate") "__init__")))),
  fun K => decide (PySem.W.typeIn K (.ref (He.ma K (He.ga K "Duplicate") "__init__")) = some (.type "function")),
  fun K => decide (PySem.W.findIn K (.ref (He.ga K "Duplicate")) "name" = some none),
  fun K => xlB K (He.ga K "Endless") [.ref (He.ga K "StateError"), .type "LookupError", .type "Exception", .type "BaseException", .type "object"] "LookupError.__new__",
  fun K => decide (PySem.W.findIn K (.ref (He.ga K "Endless")) "__setattr__" = some (some (.builtin "object.__setattr__"))),
  fun K => decide (PySem.W.typeIn K (.ref (He.ga K "Endless")) = some (.type "type")),
  fun K => PySem.W.keepIn K (.ref (He.ga K "Endless")),
  fun K => decide (PySem.W.findIn K (.ref (He.ga K "Endless")) "__init__" = some (some (.ref (He.ma K (He.ga K "Endless") "__init__")))),
  fun K => decide (PySem.W.typeIn K (.ref (He.ma K (He.ga K "Endless") "__init__")) = some (.type "function")),
  fun K => decide (PySem.W.findIn K (.ref (He.ga K "Endless")) "event" = some none),
  fun K => xlB K (He.ga K "InvalidAmounts") [.ref (He.ga K "PlanError"), .type "ValueError", .type "Exception", .type "BaseException", .type "object"] "ValueError.__new__",
  fun K => decide (PySem.W.findIn K (.ref (He.ga K "InvalidAmounts")) "__setattr__" = some (some (.builtin "object.__setattr__"))),
  fun K => decide (PySem.W.typeIn K (.ref (He.ga K "InvalidAmounts")) = some (.type "type")),
  fun K => PySem.W.keepIn K (.ref (He.ga K "InvalidAmounts")),
  fun K => decide (PySem.W.findIn K (.ref (He.ga K "InvalidAmounts")) "__init__" = some (some (.ref (He.ma K (He.ga K "InvalidAmounts") "__init__")))),
  fun K => decide (PySem.W.typeIn K (.ref (He.ma K (He.ga K "InvalidAmounts") "__init__")) = some (.type "function")),
  fun K => decide (PySem.W.findIn K (.ref (He.ga K "InvalidAmounts")) "value" = some none),
  fun K => xlB K (He.ga K "InvalidBounds") [.ref (He.ga K "PlanError"), .type "ValueError", .type "Exception", .type "BaseException", .type "object"] "ValueError.__new__",
  fun K => decide (PySem.W.findIn K (.ref (He.ga K "InvalidBounds")) "__setattr__" = some (some (.builtin "object.__setattr__"))),
  fun K => decide (PySem.W.typeIn K (.ref (He.ga K "InvalidBounds")) = some (.type "type")),
  fun K => PySem.W.keepIn K (.ref (He.ga K "InvalidBounds")),
  fun K => decide (PySem.W.findIn K (.ref (He.ga K "InvalidBounds")) "__init__" = some (some (.ref (He.ma K (He.ga K "InvalidBounds") "__init__")))),
  fun K => decide (PySem.W.typeIn K (.ref (He.ma K (He.ga K "InvalidBounds") "__init__")) = some (.type "function")),
  fun K => decide (PySem.W.findIn K (.ref (He.ga K "InvalidBounds")) "value" = some none),
  fun K => xlB K (He.ga K "InvalidCommand") [.ref (He.ga K "PlanError"), .type "ValueError", .type "Exception", .type "BaseException", .type "object"] "ValueError.__new__",
  fun K => decide (PySem.W.findIn K (.ref (He.ga K "InvalidCommand")) "__setattr__" = some (some (.builtin "object.__setattr__")))]
def faB5 : List (Fb) := [fun K => decide (PySem.W.typeIn K (.ref (He.ga K "InvalidCommand")) = some (.type "type")),
  fun K => PySem.W.keepIn K (.ref (He.ga K "InvalidCommand")),
  fun K => decide (PySem.W.findIn K (.ref (He.ga K "InvalidCommand")) "__init__" = some (some (.ref (He.ma K (He.ga K "InvalidCommand") "__init__")))),
  fun K => decide (PySem.W.typeIn K (.ref (He.ma K (He.ga K "InvalidCommand") "__init__")) = some (.type "function")),
  fun K => decide (PySem.W.findIn K (.ref (He.ga K "InvalidCommand")) "value" = some none),
  fun K => xlB K (He.ga K "InvalidCommands") [.ref (He.ga K "PlanError"), .type "ValueError", .type "Exception", .type "BaseException", .type "object"] "ValueError.__new__",
  fun K => decide (PySem.W.findIn K (.ref (He.ga K "InvalidCommands")) "__setattr__" = some (some (.builtin "object.__setattr__"))),
  fun K => decide (PySem.W.typeIn K (.ref (He.ga K "InvalidCommands")) = some (.type "type")),
  fun K => PySem.W.keepIn K (.ref (He.ga K "InvalidCommands")),
  fun K => decide (PySem.W.findIn K (.ref (He.ga K "InvalidCommands")) "__init__" = some (some (.ref (He.ma K (He.ga K "InvalidCommands") "__init__")))),
  fun K => decide (PySem.W.typeIn K (.ref (He.ma K (He.ga K "InvalidCommands") "__init__")) = some (.type "function")),
  fun K => decide (PySem.W.findIn K (.ref (He.ga K "InvalidCommands")) "value" = some none),
  fun K => xlB K (He.ga K "InvalidCounts") [.ref (He.ga K "PlanError"), .type "ValueError", .type "Exception", .type "BaseException", .type "object"] "ValueError.__new__",
  fun K => decide (PySem.W.findIn K (.ref (He.ga K "InvalidCounts")) "__setattr__" = some (some (.builtin "object.__setattr__"))),
  fun K => decide (PySem.W.typeIn K (.ref (He.ga K "InvalidCounts")) = some (.type "type")),
  fun K => PySem.W.keepIn K (.ref (He.ga K "InvalidCounts")),
  fun K => decide (PySem.W.findIn K (.ref (He.ga K "InvalidCounts")) "__init__" = some (some (.ref (He.ma K (He.ga K "InvalidCounts") "__init__")))),
  fun K => decide (PySem.W.typeIn K (.ref (He.ma K (He.ga K "InvalidCounts") "__init__")) = some (.type "function")),
  fun K => decide (PySem.W.findIn K (.ref (He.ga K "InvalidCounts")) "value" = some none),
  fun K => xlB K (He.ga K "InvalidEntry") [.ref (He.ga K "PlanError"), .type "ValueError", .type "Exception", .type "BaseException", .type "object"] "ValueError.__new__",
  fun K => decide (PySem.W.findIn K (.ref (He.ga K "InvalidEntry")) "__setattr__" = some (some (.builtin "object.__setattr__"))),
  fun K => decide (PySem.W.typeIn K (.ref (He.ga K "InvalidEntry")) = some (.type "type")),
  fun K => PySem.W.keepIn K (.ref (He.ga K "InvalidEntry")),
  fun K => decide (PySem.W.findIn K (.ref (He.ga K "InvalidEntry")) "__init__" = some (some (.ref (He.ma K (He.ga K "InvalidEntry") "__init__")))),
  fun K => decide (PySem.W.typeIn K (.ref (He.ma K (He.ga K "InvalidEntry") "__init__")) = some (.type "function")),
  fun K => decide (PySem.W.findIn K (.ref (He.ga K "InvalidEntry")) "value" = some none),
  fun K => xlB K (He.ga K "InvalidEvents") [.ref (He.ga K "PlanError"), .type "ValueError", .type "Exception", .type "BaseException", .type "object"] "ValueError.__new__",
  fun K => decide (PySem.W.findIn K (.ref (He.ga K "InvalidEvents")) "__setattr__" = some (some (.builtin "object.__setattr__"))),
  fun K => decide (PySem.W.typeIn K (.ref (He.ga K "InvalidEvents")) = some (.type "type")),
  fun K => PySem.W.keepIn K (.ref (He.ga K "InvalidEvents"))]
def faB6 : List (Fb) := [fun K => decide (PySem.W.findIn K (.ref (He.ga K "InvalidEvents")) "__init__" = some (some (.ref (He.ma K (He.ga K "InvalidEvents") "__init__")))),
  fun K => decide (PySem.W.typeIn K (.ref (He.ma K (He.ga K "InvalidEvents") "__init__")) = some (.type "function")),
  fun K => decide (PySem.W.findIn K (.ref (He.ga K "InvalidEvents")) "value" = some none),
  fun K => xlB K (He.ga K "InvalidInteger") [.ref (He.ga K "PlanError"), .type "ValueError", .type "Exception", .type "BaseException", .type "object"] "ValueError.__new__",
  fun K => decide (PySem.W.findIn K (.ref (He.ga K "InvalidInteger")) "__setattr__" = some (some (.builtin "object.__setattr__"))),
  fun K => decide (PySem.W.typeIn K (.ref (He.ga K "InvalidInteger")) = some (.type "type")),
  fun K => PySem.W.keepIn K (.ref (He.ga K "InvalidInteger")),
  fun K => decide (PySem.W.findIn K (.ref (He.ga K "InvalidInteger")) "__init__" = some (some (.ref (He.ma K (He.ga K "InvalidInteger") "__init__")))),
  fun K => decide (PySem.W.typeIn K (.ref (He.ma K (He.ga K "InvalidInteger") "__init__")) = some (.type "function")),
  fun K => decide (PySem.W.findIn K (.ref (He.ga K "InvalidInteger")) "value" = some none),
  fun K => xlB K (He.ga K "InvalidLimits") [.ref (He.ga K "PlanError"), .type "ValueError", .type "Exception", .type "BaseException", .type "object"] "ValueError.__new__",
  fun K => decide (PySem.W.findIn K (.ref (He.ga K "InvalidLimits")) "__setattr__" = some (some (.builtin "object.__setattr__"))),
  fun K => decide (PySem.W.typeIn K (.ref (He.ga K "InvalidLimits")) = some (.type "type")),
  fun K => PySem.W.keepIn K (.ref (He.ga K "InvalidLimits")),
  fun K => decide (PySem.W.findIn K (.ref (He.ga K "InvalidLimits")) "__init__" = some (some (.ref (He.ma K (He.ga K "InvalidLimits") "__init__")))),
  fun K => decide (PySem.W.typeIn K (.ref (He.ma K (He.ga K "InvalidLimits") "__init__")) = some (.type "function")),
  fun K => decide (PySem.W.findIn K (.ref (He.ga K "InvalidLimits")) "value" = some none),
  fun K => xlB K (He.ga K "InvalidLog") [.ref (He.ga K "PlanError"), .type "ValueError", .type "Exception", .type "BaseException", .type "object"] "ValueError.__new__",
  fun K => decide (PySem.W.findIn K (.ref (He.ga K "InvalidLog")) "__setattr__" = some (some (.builtin "object.__setattr__"))),
  fun K => decide (PySem.W.typeIn K (.ref (He.ga K "InvalidLog")) = some (.type "type")),
  fun K => PySem.W.keepIn K (.ref (He.ga K "InvalidLog")),
  fun K => decide (PySem.W.findIn K (.ref (He.ga K "InvalidLog")) "__init__" = some (some (.ref (He.ma K (He.ga K "InvalidLog") "__init__")))),
  fun K => decide (PySem.W.typeIn K (.ref (He.ma K (He.ga K "InvalidLog") "__init__")) = some (.type "function")),
  fun K => decide (PySem.W.findIn K (.ref (He.ga K "InvalidLog")) "value" = some none),
  fun K => xlB K (He.ga K "InvalidLogs") [.ref (He.ga K "PlanError"), .type "ValueError", .type "Exception", .type "BaseException", .type "object"] "ValueError.__new__",
  fun K => decide (PySem.W.findIn K (.ref (He.ga K "InvalidLogs")) "__setattr__" = some (some (.builtin "object.__setattr__"))),
  fun K => decide (PySem.W.typeIn K (.ref (He.ga K "InvalidLogs")) = some (.type "type")),
  fun K => PySem.W.keepIn K (.ref (He.ga K "InvalidLogs")),
  fun K => decide (PySem.W.findIn K (.ref (He.ga K "InvalidLogs")) "__init__" = some (some (.ref (He.ma K (He.ga K "InvalidLogs") "__init__")))),
  fun K => decide (PySem.W.typeIn K (.ref (He.ma K (He.ga K "InvalidLogs") "__init__")) = some (.type "function"))]
def faB7 : List (Fb) := [fun K => decide (PySem.W.findIn K (.ref (He.ga K "InvalidLogs")) "value" = some none),
  fun K => xlB K (He.ga K "InvalidName") [.ref (He.ga K "PlanError"), .type "ValueError", .type "Exception", .type "BaseException", .type "object"] "ValueError.__new__",
  fun K => decide (PySem.W.findIn K (.ref (He.ga K "InvalidName")) "__setattr__" = some (some (.builtin "object.__setattr__"))),
  fun K => decide (PySem.W.typeIn K (.ref (He.ga K "InvalidName")) = some (.type "type")),
  fun K => PySem.W.keepIn K (.ref (He.ga K "InvalidName")),
  fun K => decide (PySem.W.findIn K (.ref (He.ga K "InvalidName")) "__init__" = some (some (.ref (He.ma K (He.ga K "InvalidName") "__init__")))),
  fun K => decide (PySem.W.typeIn K (.ref (He.ma K (He.ga K "InvalidName") "__init__")) = some (.type "function")),
  fun K => decide (PySem.W.findIn K (.ref (He.ga K "InvalidName")) "value" = some none),
  fun K => xlB K (He.ga K "InvalidNames") [.ref (He.ga K "PlanError"), .type "ValueError", .type "Exception", .type "BaseException", .type "object"] "ValueError.__new__",
  fun K => decide (PySem.W.findIn K (.ref (He.ga K "InvalidNames")) "__setattr__" = some (some (.builtin "object.__setattr__"))),
  fun K => decide (PySem.W.typeIn K (.ref (He.ga K "InvalidNames")) = some (.type "type")),
  fun K => PySem.W.keepIn K (.ref (He.ga K "InvalidNames")),
  fun K => decide (PySem.W.findIn K (.ref (He.ga K "InvalidNames")) "__init__" = some (some (.ref (He.ma K (He.ga K "InvalidNames") "__init__")))),
  fun K => decide (PySem.W.typeIn K (.ref (He.ma K (He.ga K "InvalidNames") "__init__")) = some (.type "function")),
  fun K => decide (PySem.W.findIn K (.ref (He.ga K "InvalidNames")) "value" = some none),
  fun K => xlB K (He.ga K "InvalidPlan") [.ref (He.ga K "PlanError"), .type "ValueError", .type "Exception", .type "BaseException", .type "object"] "ValueError.__new__",
  fun K => decide (PySem.W.findIn K (.ref (He.ga K "InvalidPlan")) "__setattr__" = some (some (.builtin "object.__setattr__"))),
  fun K => decide (PySem.W.typeIn K (.ref (He.ga K "InvalidPlan")) = some (.type "type")),
  fun K => PySem.W.keepIn K (.ref (He.ga K "InvalidPlan")),
  fun K => decide (PySem.W.findIn K (.ref (He.ga K "InvalidPlan")) "__init__" = some (some (.ref (He.ma K (He.ga K "InvalidPlan") "__init__")))),
  fun K => decide (PySem.W.typeIn K (.ref (He.ma K (He.ga K "InvalidPlan") "__init__")) = some (.type "function")),
  fun K => decide (PySem.W.findIn K (.ref (He.ga K "InvalidPlan")) "value" = some none),
  fun K => xlB K (He.ga K "InvalidRun") [.ref (He.ga K "PlanError"), .type "ValueError", .type "Exception", .type "BaseException", .type "object"] "ValueError.__new__",
  fun K => decide (PySem.W.findIn K (.ref (He.ga K "InvalidRun")) "__setattr__" = some (some (.builtin "object.__setattr__"))),
  fun K => decide (PySem.W.typeIn K (.ref (He.ga K "InvalidRun")) = some (.type "type")),
  fun K => PySem.W.keepIn K (.ref (He.ga K "InvalidRun")),
  fun K => decide (PySem.W.findIn K (.ref (He.ga K "InvalidRun")) "__init__" = some (some (.ref (He.ma K (He.ga K "InvalidRun") "__init__")))),
  fun K => decide (PySem.W.typeIn K (.ref (He.ma K (He.ga K "InvalidRun") "__init__")) = some (.type "function")),
  fun K => decide (PySem.W.findIn K (.ref (He.ga K "InvalidRun")) "value" = some none),
  fun K => xlB K (He.ga K "InvalidStock") [.ref (He.ga K "PlanError"), .type "ValueError", .type "Exception", .type "BaseException", .type "object"] "ValueError.__new__"]
def faB8 : List (Fb) := [fun K => decide (PySem.W.findIn K (.ref (He.ga K "InvalidStock")) "__setattr__" = some (some (.builtin "object.__setattr__"))),
  fun K => decide (PySem.W.typeIn K (.ref (He.ga K "InvalidStock")) = some (.type "type")),
  fun K => PySem.W.keepIn K (.ref (He.ga K "InvalidStock")),
  fun K => decide (PySem.W.findIn K (.ref (He.ga K "InvalidStock")) "__init__" = some (some (.ref (He.ma K (He.ga K "InvalidStock") "__init__")))),
  fun K => decide (PySem.W.typeIn K (.ref (He.ma K (He.ga K "InvalidStock") "__init__")) = some (.type "function")),
  fun K => decide (PySem.W.findIn K (.ref (He.ga K "InvalidStock")) "value" = some none),
  fun K => xlB K (He.ga K "InvalidText") [.ref (He.ga K "PlanError"), .type "ValueError", .type "Exception", .type "BaseException", .type "object"] "ValueError.__new__",
  fun K => decide (PySem.W.findIn K (.ref (He.ga K "InvalidText")) "__setattr__" = some (some (.builtin "object.__setattr__"))),
  fun K => decide (PySem.W.typeIn K (.ref (He.ga K "InvalidText")) = some (.type "type")),
  fun K => PySem.W.keepIn K (.ref (He.ga K "InvalidText")),
  fun K => decide (PySem.W.findIn K (.ref (He.ga K "InvalidText")) "__init__" = some (some (.ref (He.ma K (He.ga K "InvalidText") "__init__")))),
  fun K => decide (PySem.W.typeIn K (.ref (He.ma K (He.ga K "InvalidText") "__init__")) = some (.type "function")),
  fun K => decide (PySem.W.findIn K (.ref (He.ga K "InvalidText")) "value" = some none),
  fun K => xlB K (He.ga K "InvalidTie") [.ref (He.ga K "PlanError"), .type "ValueError", .type "Exception", .type "BaseException", .type "object"] "ValueError.__new__",
  fun K => decide (PySem.W.findIn K (.ref (He.ga K "InvalidTie")) "__setattr__" = some (some (.builtin "object.__setattr__"))),
  fun K => decide (PySem.W.typeIn K (.ref (He.ga K "InvalidTie")) = some (.type "type")),
  fun K => PySem.W.keepIn K (.ref (He.ga K "InvalidTie")),
  fun K => decide (PySem.W.findIn K (.ref (He.ga K "InvalidTie")) "__init__" = some (some (.ref (He.ma K (He.ga K "InvalidTie") "__init__")))),
  fun K => decide (PySem.W.typeIn K (.ref (He.ma K (He.ga K "InvalidTie") "__init__")) = some (.type "function")),
  fun K => decide (PySem.W.findIn K (.ref (He.ga K "InvalidTie")) "value" = some none),
  fun K => xlB K (He.ga K "InvalidTies") [.ref (He.ga K "PlanError"), .type "ValueError", .type "Exception", .type "BaseException", .type "object"] "ValueError.__new__",
  fun K => decide (PySem.W.findIn K (.ref (He.ga K "InvalidTies")) "__setattr__" = some (some (.builtin "object.__setattr__"))),
  fun K => decide (PySem.W.typeIn K (.ref (He.ga K "InvalidTies")) = some (.type "type")),
  fun K => PySem.W.keepIn K (.ref (He.ga K "InvalidTies")),
  fun K => decide (PySem.W.findIn K (.ref (He.ga K "InvalidTies")) "__init__" = some (some (.ref (He.ma K (He.ga K "InvalidTies") "__init__")))),
  fun K => decide (PySem.W.typeIn K (.ref (He.ma K (He.ga K "InvalidTies") "__init__")) = some (.type "function")),
  fun K => decide (PySem.W.findIn K (.ref (He.ga K "InvalidTies")) "value" = some none),
  fun K => xlB K (He.ga K "Misfit") [.ref (He.ga K "StateError"), .type "LookupError", .type "Exception", .type "BaseException", .type "object"] "LookupError.__new__",
  fun K => decide (PySem.W.findIn K (.ref (He.ga K "Misfit")) "__setattr__" = some (some (.builtin "object.__setattr__"))),
  fun K => decide (PySem.W.typeIn K (.ref (He.ga K "Misfit")) = some (.type "type"))]
def faB9 : List (Fb) := [fun K => PySem.W.keepIn K (.ref (He.ga K "Misfit")),
  fun K => decide (PySem.W.findIn K (.ref (He.ga K "Misfit")) "__init__" = some (some (.ref (He.ma K (He.ga K "Misfit") "__init__")))),
  fun K => decide (PySem.W.typeIn K (.ref (He.ma K (He.ga K "Misfit") "__init__")) = some (.type "function")),
  fun K => decide (PySem.W.findIn K (.ref (He.ga K "Misfit")) "index" = some none),
  fun K => xlB K (He.ga K "NoEntry") [.ref (He.ga K "MissingError"), .type "KeyError", .type "LookupError", .type "Exception", .type "BaseException", .type "object"] "LookupError.__new__",
  fun K => decide (PySem.W.findIn K (.ref (He.ga K "NoEntry")) "__setattr__" = some (some (.builtin "object.__setattr__"))),
  fun K => decide (PySem.W.typeIn K (.ref (He.ga K "NoEntry")) = some (.type "type")),
  fun K => PySem.W.keepIn K (.ref (He.ga K "NoEntry")),
  fun K => decide (PySem.W.findIn K (.ref (He.ga K "NoEntry")) "__init__" = some (some (.ref (He.ma K (He.ga K "NoEntry") "__init__")))),
  fun K => decide (PySem.W.typeIn K (.ref (He.ma K (He.ga K "NoEntry") "__init__")) = some (.type "function")),
  fun K => decide (PySem.W.findIn K (.ref (He.ga K "NoEntry")) "name" = some none),
  fun K => xlB K (He.ga K "NoRun") [.ref (He.ga K "StateError"), .type "LookupError", .type "Exception", .type "BaseException", .type "object"] "LookupError.__new__",
  fun K => decide (PySem.W.findIn K (.ref (He.ga K "NoRun")) "__setattr__" = some (some (.builtin "object.__setattr__"))),
  fun K => decide (PySem.W.typeIn K (.ref (He.ga K "NoRun")) = some (.type "type")),
  fun K => PySem.W.keepIn K (.ref (He.ga K "NoRun")),
  fun K => decide (PySem.W.findIn K (.ref (He.ga K "NoRun")) "__init__" = some (some (.ref (He.ma K (He.ga K "NoRun") "__init__")))),
  fun K => decide (PySem.W.typeIn K (.ref (He.ma K (He.ga K "NoRun") "__init__")) = some (.type "function")),
  fun K => xlB K (He.ga K "NoTie") [.ref (He.ga K "MissingError"), .type "KeyError", .type "LookupError", .type "Exception", .type "BaseException", .type "object"] "LookupError.__new__",
  fun K => decide (PySem.W.findIn K (.ref (He.ga K "NoTie")) "__setattr__" = some (some (.builtin "object.__setattr__"))),
  fun K => decide (PySem.W.typeIn K (.ref (He.ga K "NoTie")) = some (.type "type")),
  fun K => PySem.W.keepIn K (.ref (He.ga K "NoTie")),
  fun K => decide (PySem.W.findIn K (.ref (He.ga K "NoTie")) "__init__" = some (some (.ref (He.ma K (He.ga K "NoTie") "__init__")))),
  fun K => decide (PySem.W.typeIn K (.ref (He.ma K (He.ga K "NoTie") "__init__")) = some (.type "function")),
  fun K => decide (PySem.W.findIn K (.ref (He.ga K "NoTie")) "index" = some none),
  fun K => xlB K (He.ga K "NotBehind") [.ref (He.ga K "StateError"), .type "LookupError", .type "Exception", .type "BaseException", .type "object"] "LookupError.__new__",
  fun K => decide (PySem.W.findIn K (.ref (He.ga K "NotBehind")) "__setattr__" = some (some (.builtin "object.__setattr__"))),
  fun K => decide (PySem.W.typeIn K (.ref (He.ga K "NotBehind")) = some (.type "type")),
  fun K => PySem.W.keepIn K (.ref (He.ga K "NotBehind")),
  fun K => decide (PySem.W.findIn K (.ref (He.ga K "NotBehind")) "__init__" = some (some (.ref (He.ma K (He.ga K "NotBehind") "__init__")))),
  fun K => decide (PySem.W.typeIn K (.ref (He.ma K (He.ga K "NotBehind") "__init__")) = some (.type "function"))]
def faB10 : List (Fb) := [fun K => decide (PySem.W.findIn K (.ref (He.ga K "NotBehind")) "value" = some none),
  fun K => xlB K (He.ga K "NotMoment") [.ref (He.ga K "StateError"), .type "LookupError", .type "Exception", .type "BaseException", .type "object"] "LookupError.__new__",
  fun K => decide (PySem.W.findIn K (.ref (He.ga K "NotMoment")) "__setattr__" = some (some (.builtin "object.__setattr__"))),
  fun K => decide (PySem.W.typeIn K (.ref (He.ga K "NotMoment")) = some (.type "type")),
  fun K => PySem.W.keepIn K (.ref (He.ga K "NotMoment")),
  fun K => decide (PySem.W.findIn K (.ref (He.ga K "NotMoment")) "__init__" = some (some (.ref (He.ma K (He.ga K "NotMoment") "__init__")))),
  fun K => decide (PySem.W.typeIn K (.ref (He.ma K (He.ga K "NotMoment") "__init__")) = some (.type "function")),
  fun K => decide (PySem.W.findIn K (.ref (He.ga K "NotMoment")) "value" = some none),
  fun K => xlB K (He.ga K "NotPossible") [.ref (He.ga K "StateError"), .type "LookupError", .type "Exception", .type "BaseException", .type "object"] "LookupError.__new__",
  fun K => decide (PySem.W.findIn K (.ref (He.ga K "NotPossible")) "__setattr__" = some (some (.builtin "object.__setattr__"))),
  fun K => decide (PySem.W.typeIn K (.ref (He.ga K "NotPossible")) = some (.type "type")),
  fun K => PySem.W.keepIn K (.ref (He.ga K "NotPossible")),
  fun K => decide (PySem.W.findIn K (.ref (He.ga K "NotPossible")) "__init__" = some (some (.ref (He.ma K (He.ga K "NotPossible") "__init__")))),
  fun K => decide (PySem.W.typeIn K (.ref (He.ma K (He.ga K "NotPossible") "__init__")) = some (.type "function")),
  fun K => xlB K (He.ga K "NotSafe") [.ref (He.ga K "StateError"), .type "LookupError", .type "Exception", .type "BaseException", .type "object"] "LookupError.__new__",
  fun K => decide (PySem.W.findIn K (.ref (He.ga K "NotSafe")) "__setattr__" = some (some (.builtin "object.__setattr__"))),
  fun K => decide (PySem.W.typeIn K (.ref (He.ga K "NotSafe")) = some (.type "type")),
  fun K => PySem.W.keepIn K (.ref (He.ga K "NotSafe")),
  fun K => decide (PySem.W.findIn K (.ref (He.ga K "NotSafe")) "__init__" = some (some (.ref (He.ma K (He.ga K "NotSafe") "__init__")))),
  fun K => decide (PySem.W.typeIn K (.ref (He.ma K (He.ga K "NotSafe") "__init__")) = some (.type "function")),
  fun K => decide (PySem.W.findIn K (.ref (He.ga K "NotSafe")) "index" = some none),
  fun K => xlB K (He.ga K "NothingToRedo") [.ref (He.ga K "StateError"), .type "LookupError", .type "Exception", .type "BaseException", .type "object"] "LookupError.__new__",
  fun K => decide (PySem.W.findIn K (.ref (He.ga K "NothingToRedo")) "__setattr__" = some (some (.builtin "object.__setattr__"))),
  fun K => decide (PySem.W.typeIn K (.ref (He.ga K "NothingToRedo")) = some (.type "type")),
  fun K => PySem.W.keepIn K (.ref (He.ga K "NothingToRedo")),
  fun K => decide (PySem.W.findIn K (.ref (He.ga K "NothingToRedo")) "__init__" = some (some (.ref (He.ma K (He.ga K "NothingToRedo") "__init__")))),
  fun K => decide (PySem.W.typeIn K (.ref (He.ma K (He.ga K "NothingToRedo") "__init__")) = some (.type "function")),
  fun K => xlB K (He.ga K "NothingToUndo") [.ref (He.ga K "StateError"), .type "LookupError", .type "Exception", .type "BaseException", .type "object"] "LookupError.__new__",
  fun K => decide (PySem.W.findIn K (.ref (He.ga K "NothingToUndo")) "__setattr__" = some (some (.builtin "object.__setattr__"))),
  fun K => decide (PySem.W.typeIn K (.ref (He.ga K "NothingToUndo")) = some (.type "type"))]
def faB11 : List (Fb) := [fun K => PySem.W.keepIn K (.ref (He.ga K "NothingToUndo")),
  fun K => decide (PySem.W.findIn K (.ref (He.ga K "NothingToUndo")) "__init__" = some (some (.ref (He.ma K (He.ga K "NothingToUndo") "__init__")))),
  fun K => decide (PySem.W.typeIn K (.ref (He.ma K (He.ga K "NothingToUndo") "__init__")) = some (.type "function")),
  fun K => xlB K (He.ga K "Ring") [.ref (He.ga K "PlanError"), .type "ValueError", .type "Exception", .type "BaseException", .type "object"] "ValueError.__new__",
  fun K => decide (PySem.W.findIn K (.ref (He.ga K "Ring")) "__setattr__" = some (some (.builtin "object.__setattr__"))),
  fun K => decide (PySem.W.typeIn K (.ref (He.ga K "Ring")) = some (.type "type")),
  fun K => PySem.W.keepIn K (.ref (He.ga K "Ring")),
  fun K => decide (PySem.W.findIn K (.ref (He.ga K "Ring")) "__init__" = some (some (.ref (He.ma K (He.ga K "Ring") "__init__")))),
  fun K => decide (PySem.W.typeIn K (.ref (He.ma K (He.ga K "Ring") "__init__")) = some (.type "function")),
  fun K => decide (PySem.W.findIn K (.ref (He.ga K "Ring")) "members" = some none),
  fun K => xlB K (He.ga K "TooLong") [.ref (He.ga K "StateError"), .type "LookupError", .type "Exception", .type "BaseException", .type "object"] "LookupError.__new__",
  fun K => decide (PySem.W.findIn K (.ref (He.ga K "TooLong")) "__setattr__" = some (some (.builtin "object.__setattr__"))),
  fun K => decide (PySem.W.typeIn K (.ref (He.ga K "TooLong")) = some (.type "type")),
  fun K => PySem.W.keepIn K (.ref (He.ga K "TooLong")),
  fun K => decide (PySem.W.findIn K (.ref (He.ga K "TooLong")) "__init__" = some (some (.ref (He.ma K (He.ga K "TooLong") "__init__")))),
  fun K => decide (PySem.W.typeIn K (.ref (He.ma K (He.ga K "TooLong") "__init__")) = some (.type "function")),
  fun K => decide (PySem.W.findIn K (.ref (He.ga K "TooLong")) "total" = some none),
  fun K => xlB K (He.ga K "TooMany") [.ref (He.ga K "PlanError"), .type "ValueError", .type "Exception", .type "BaseException", .type "object"] "ValueError.__new__",
  fun K => decide (PySem.W.findIn K (.ref (He.ga K "TooMany")) "__setattr__" = some (some (.builtin "object.__setattr__"))),
  fun K => decide (PySem.W.typeIn K (.ref (He.ga K "TooMany")) = some (.type "type")),
  fun K => PySem.W.keepIn K (.ref (He.ga K "TooMany")),
  fun K => decide (PySem.W.findIn K (.ref (He.ga K "TooMany")) "__init__" = some (some (.ref (He.ma K (He.ga K "TooMany") "__init__")))),
  fun K => decide (PySem.W.typeIn K (.ref (He.ma K (He.ga K "TooMany") "__init__")) = some (.type "function")),
  fun K => decide (PySem.W.findIn K (.ref (He.ga K "TooMany")) "bound" = some none),
  fun K => xlB K (He.ga K "UnknownEvent") [.ref (He.ga K "MissingError"), .type "KeyError", .type "LookupError", .type "Exception", .type "BaseException", .type "object"] "LookupError.__new__",
  fun K => decide (PySem.W.findIn K (.ref (He.ga K "UnknownEvent")) "__setattr__" = some (some (.builtin "object.__setattr__"))),
  fun K => decide (PySem.W.typeIn K (.ref (He.ga K "UnknownEvent")) = some (.type "type")),
  fun K => PySem.W.keepIn K (.ref (He.ga K "UnknownEvent")),
  fun K => decide (PySem.W.findIn K (.ref (He.ga K "UnknownEvent")) "__init__" = some (some (.ref (He.ma K (He.ga K "UnknownEvent") "__init__")))),
  fun K => decide (PySem.W.typeIn K (.ref (He.ma K (He.ga K "UnknownEvent") "__init__")) = some (.type "function"))]
def faB12 : List (Fb) := [fun K => decide (PySem.W.findIn K (.ref (He.ga K "UnknownEvent")) "name" = some none),
  fun K => xlB K (He.ga K "UnlikeEvents") [.ref (He.ga K "PlanError"), .type "ValueError", .type "Exception", .type "BaseException", .type "object"] "ValueError.__new__",
  fun K => decide (PySem.W.findIn K (.ref (He.ga K "UnlikeEvents")) "__setattr__" = some (some (.builtin "object.__setattr__"))),
  fun K => decide (PySem.W.typeIn K (.ref (He.ga K "UnlikeEvents")) = some (.type "type")),
  fun K => PySem.W.keepIn K (.ref (He.ga K "UnlikeEvents")),
  fun K => decide (PySem.W.findIn K (.ref (He.ga K "UnlikeEvents")) "__init__" = some (some (.ref (He.ma K (He.ga K "UnlikeEvents") "__init__")))),
  fun K => decide (PySem.W.typeIn K (.ref (He.ma K (He.ga K "UnlikeEvents") "__init__")) = some (.type "function")),
  fun K => decide (PySem.W.findIn K (.ref (He.ga K "UnlikeEvents")) "members" = some none),
  fun K => decide (PySem.W.nsIn K mainGlobals "_law_box" = some (some (.ref (He.fAd K ("_law_box", none))))),
  fun K => decide (PySem.W.nsIn K mainGlobals "_law_cell" = some (some (.ref (He.fAd K ("_law_cell", none))))),
  fun K => decide (PySem.W.nsIn K mainGlobals "_law_take" = some (some (.ref (He.fAd K ("_law_take", none))))),
  fun K => decide (PySem.W.nsIn K mainGlobals "_law_value" = some (some (.ref (He.fAd K ("_law_value", none))))),
  fun K => decide (PySem.W.nsIn K mainGlobals "_law_made" = some (some (.ref (He.fAd K ("_law_made", none))))),
  fun K => decide (PySem.W.nsIn K mainGlobals "_law_kinds" = some (some (.ref (He.fAd K ("_law_kinds", none))))),
  fun K => decide (PySem.W.nsIn K mainGlobals "_law_bases" = some (some (.ref (He.fAd K ("_law_bases", none))))),
  fun K => decide (PySem.W.nsIn K mainGlobals "_law_due" = some (some (.ref (He.fAd K ("_law_due", none))))),
  fun K => decide (PySem.W.nsIn K mainGlobals "_law_field" = some (some (.ref (He.fAd K ("_law_field", none))))),
  fun K => decide (PySem.W.nsIn K mainGlobals "law" = some (some (.ref (He.fAd K ("law", none))))),
  fun K => decide (PySem.W.nsIn K mainGlobals "IndexError" = some none),
  fun K => decide (PySem.W.nsIn K mainGlobals "KeyError" = some none),
  fun K => decide (PySem.W.nsIn K mainGlobals "LookupError" = some none),
  fun K => decide (PySem.W.nsIn K mainGlobals "ValueError" = some none),
  fun K => decide (PySem.W.nsIn K mainGlobals "dict" = some none),
  fun K => decide (PySem.W.nsIn K mainGlobals "enumerate" = some none),
  fun K => decide (PySem.W.nsIn K mainGlobals "isinstance" = some none),
  fun K => decide (PySem.W.nsIn K mainGlobals "len" = some none),
  fun K => decide (PySem.W.nsIn K mainGlobals "list" = some none),
  fun K => decide (PySem.W.nsIn K mainGlobals "max" = some none),
  fun K => decide (PySem.W.nsIn K mainGlobals "min" = some none),
  fun K => decide (PySem.W.nsIn K mainGlobals "range" = some none)]
def faB13 : List (Fb) := [fun K => decide (PySem.W.nsIn K mainGlobals "repr" = some none),
  fun K => decide (PySem.W.nsIn K mainGlobals "tuple" = some none)]
def faB : List (Fb) := faB0 ++ (faB1 ++ (faB2 ++ (faB3 ++ (faB4 ++ (faB5 ++ (faB6 ++ (faB7 ++ (faB8 ++ (faB9 ++ (faB10 ++ (faB11 ++ (faB12 ++ (faB13)))))))))))))
def fnB0 : List (He.DefD) := [dAt ("Barred", some "__init__") "__init__" "Barred.__init__" (inClass (topS 30) 0) [] [],
  dAt ("Duplicate", some "__init__") "__init__" "Duplicate.__init__" (inClass (topS 6) 0) [] [],
  dAt ("Endless", some "__init__") "__init__" "Endless.__init__" (inClass (topS 34) 0) [] [],
  dAt ("InvalidAmounts", some "__init__") "__init__" "InvalidAmounts.__init__" (inClass (topS 18) 0) [] [],
  dAt ("InvalidBounds", some "__init__") "__init__" "InvalidBounds.__init__" (inClass (topS 19) 0) [] [],
  dAt ("InvalidCommand", some "__init__") "__init__" "InvalidCommand.__init__" (inClass (topS 21) 0) [] [],
  dAt ("InvalidCommands", some "__init__") "__init__" "InvalidCommands.__init__" (inClass (topS 22) 0) [] [],
  dAt ("InvalidCounts", some "__init__") "__init__" "InvalidCounts.__init__" (inClass (topS 15) 0) [] [],
  dAt ("InvalidEntry", some "__init__") "__init__" "InvalidEntry.__init__" (inClass (topS 26) 0) [] [],
  dAt ("InvalidEvents", some "__init__") "__init__" "InvalidEvents.__init__" (inClass (topS 7) 0) [] [],
  dAt ("InvalidInteger", some "__init__") "__init__" "InvalidInteger.__init__" (inClass (topS 4) 0) [] [],
  dAt ("InvalidLimits", some "__init__") "__init__" "InvalidLimits.__init__" (inClass (topS 10) 0) [] [],
  dAt ("InvalidLog", some "__init__") "__init__" "InvalidLog.__init__" (inClass (topS 24) 0) [] [],
  dAt ("InvalidLogs", some "__init__") "__init__" "InvalidLogs.__init__" (inClass (topS 25) 0) [] [],
  dAt ("InvalidName", some "__init__") "__init__" "InvalidName.__init__" (inClass (topS 5) 0) [] [],
  dAt ("InvalidNames", some "__init__") "__init__" "InvalidNames.__init__" (inClass (topS 20) 0) [] [],
  dAt ("InvalidPlan", some "__init__") "__init__" "InvalidPlan.__init__" (inClass (topS 12) 0) [] [],
  dAt ("InvalidRun", some "__init__") "__init__" "InvalidRun.__init__" (inClass (topS 16) 0) [] [],
  dAt ("InvalidStock", some "__init__") "__init__" "InvalidStock.__init__" (inClass (topS 17) 0) [] [],
  dAt ("InvalidText", some "__init__") "__init__" "InvalidText.__init__" (inClass (topS 14) 0) [] [],
  dAt ("InvalidTie", some "__init__") "__init__" "InvalidTie.__init__" (inClass (topS 9) 0) [] [],
  dAt ("InvalidTies", some "__init__") "__init__" "InvalidTies.__init__" (inClass (topS 8) 0) [] [],
  dAt ("Misfit", some "__init__") "__init__" "Misfit.__init__" (inClass (topS 36) 0) [] [],
  dAt ("NoEntry", some "__init__") "__init__" "NoEntry.__init__" (inClass (topS 29) 0) [] [],
  dAt ("NoRun", some "__init__") "__init__" "NoRun.__init__" (inClass (topS 38) 0) [] [],
  dAt ("NoTie", some "__init__") "__init__" "NoTie.__init__" (inClass (topS 28) 0) [] [],
  dAt ("NotBehind", some "__init__") "__init__" "NotBehind.__init__" (inClass (topS 32) 0) [] [],
  dAt ("NotMoment", some "__init__") "__init__" "NotMoment.__init__" (inClass (topS 31) 0) [] [],
  dAt ("NotPossible", some "__init__") "__init__" "NotPossible.__init__" (inClass (topS 35) 0) [] [],
  dAt ("NotSafe", some "__init__") "__init__" "NotSafe.__init__" (inClass (topS 37) 0) [] []]
def fnB1 : List (He.DefD) := [dAt ("NothingToRedo", some "__init__") "__init__" "NothingToRedo.__init__" (inClass (topS 40) 0) [] [],
  dAt ("NothingToUndo", some "__init__") "__init__" "NothingToUndo.__init__" (inClass (topS 39) 0) [] [],
  dAt ("Ring", some "__init__") "__init__" "Ring.__init__" (inClass (topS 11) 0) [] [],
  dAt ("TooLong", some "__init__") "__init__" "TooLong.__init__" (inClass (topS 33) 0) [] [],
  dAt ("TooMany", some "__init__") "__init__" "TooMany.__init__" (inClass (topS 23) 0) [] [],
  dAt ("UnknownEvent", some "__init__") "__init__" "UnknownEvent.__init__" (inClass (topS 27) 0) [] [],
  dAt ("UnlikeEvents", some "__init__") "__init__" "UnlikeEvents.__init__" (inClass (topS 13) 0) [] [],
  dAt ("_law_box", none) "_law_box" "_law_box" (topS 43) [] [],
  dAt ("_law_cell", none) "_law_cell" "_law_cell" (topS 42) [] [],
  dAt ("_law_take", none) "_law_take" "_law_take" (topS 44) [] [],
  dAt ("_law_value", none) "_law_value" "_law_value" (topS 45) [] [],
  dAt ("_law_made", none) "_law_made" "_law_made" (topS 46) [] [],
  dAt ("_law_kinds", none) "_law_kinds" "_law_kinds" (topS 48) [] [],
  dAt ("_law_bases", none) "_law_bases" "_law_bases" (topS 49) [] [],
  dAt ("_law_due", none) "_law_due" "_law_due" (topS 50) [] [],
  dAt ("_law_field", none) "_law_field" "_law_field" (topS 47) [] [],
  dAt ("law", none) "law" "law" (topS 51) [] []]
def fnB : List (He.DefD) := fnB0 ++ (fnB1)
def nmB0 : List (Str) := ["PlanError",
  "MissingError",
  "StateError",
  "InvalidInteger",
  "InvalidName",
  "Duplicate",
  "InvalidEvents",
  "InvalidTies",
  "InvalidTie",
  "InvalidLimits",
  "Ring",
  "InvalidPlan",
  "UnlikeEvents",
  "InvalidText",
  "InvalidCounts",
  "InvalidRun",
  "InvalidStock",
  "InvalidAmounts",
  "InvalidBounds",
  "InvalidNames",
  "InvalidCommand",
  "InvalidCommands",
  "TooMany",
  "InvalidLog",
  "InvalidLogs",
  "InvalidEntry",
  "UnknownEvent",
  "NoTie",
  "NoEntry",
  "Barred"]
def nmB1 : List (Str) := ["NotMoment",
  "NotBehind",
  "TooLong",
  "Endless",
  "NotPossible",
  "Misfit",
  "NotSafe",
  "NoRun",
  "NothingToUndo",
  "NothingToRedo",
  "_law_cell",
  "_law_box",
  "_law_take",
  "_law_value",
  "_law_made",
  "_law_field",
  "_law_kinds",
  "_law_bases",
  "_law_due"]
def nmB : List (Str) := nmB0 ++ (nmB1)
abbrev qB : Program := PySem.W.view (PySem.W.OpenLaw.row PySem.Challenge.rw_pileups_k03_errors_and_their_fields).prog [51]
abbrev hkB : PySem.W.Hook := hookB 1200 faB fnB
def obB (s : PySem.W.SharedT) : He.AlD := obsBG 1200 faB fnB (HandSHeadRun.getT s)
theorem obB_eq (s : PySem.W.SharedT) : obB s = hkB.obs s.abs := obsBG_eq (HandSHeadRun.getT_eq s)
set_option maxHeartbeats 0 in
theorem runB1 (w : World) (os : OsState) : (HandSHeadRun.endF (HandSHeadRun.stepQ (HandSHeadRun.denQ HandSHeadRun.tabQ) (PySem.W.OpenLaw.row PySem.Challenge.rw_pileups_k03_errors_and_their_fields).prog w) 40000 (PySem.W.OpenLaw.row PySem.Challenge.rw_pileups_k03_errors_and_their_fields).prog w os).map (fun s => (HandSHeadRun.looksF (PySem.W.OpenLaw.row PySem.Challenge.rw_pileups_k03_errors_and_their_fields).prog (PySem.W.boot_heap w.params) s.abs, HandSHeadRun.seenQ qB nmB (importedModules (PySem.W.OpenLaw.row PySem.Challenge.rw_pileups_k03_errors_and_their_fields).prog.main.body) (fun s => PySem.W.xlAt qB [] s && PySem.W.recOk (PySem.W.OpenLaw.row PySem.Challenge.rw_pileups_k03_errors_and_their_fields).toRowW.records s) s.abs, faB.all fun f => f (He.frG (HandSHeadRun.getT s) (List.range 1200)))) = some (true, PySem.W.openGood qB nmB, true) := by
  kernel_rfl
set_option maxHeartbeats 0 in
theorem runB2 (w : World) (os : OsState) : (HandSHeadRun.endF (HandSHeadRun.stepQ (HandSHeadRun.denQ HandSHeadRun.tabQ) (PySem.W.OpenLaw.row PySem.Challenge.rw_pileups_k03_errors_and_their_fields).prog w) 40000 (PySem.W.OpenLaw.row PySem.Challenge.rw_pileups_k03_errors_and_their_fields).prog w os).map (fun s => fnB.all fun d => d.ok (He.frG (HandSHeadRun.getT s) (List.range 1200))) = some true := by
  kernel_rfl
set_option maxHeartbeats 0 in
theorem runB3 (w : World) (os : OsState) : (HandSHeadRun.endF (HandSHeadRun.stepQ (HandSHeadRun.denQ HandSHeadRun.tabQ) (PySem.W.OpenLaw.row PySem.Challenge.rw_pileups_k03_errors_and_their_fields).prog w) 40000 (PySem.W.OpenLaw.row PySem.Challenge.rw_pileups_k03_errors_and_their_fields).prog w os).map (fun s => fnB.map fun d => He.fnW (He.frG (HandSHeadRun.getT s) (List.range 1200)) d.at_) = some (fnB.map He.DefD.val) := by
  kernel_rfl
theorem runB (w : World) : HandSHeadRun.RunEq (PySem.W.OpenLaw.row PySem.Challenge.rw_pileups_k03_errors_and_their_fields) qB hkB obB 40000 nmB w := fun os => run_join (runB1 w os) (runB2 w os) (runB3 w os)
end K03
namespace L3
open PySem PySem.Spec PyProof.Rows L2
theorem for_same {α : Type} {Pm : Mu → Prop} {g : TG3} {tb : TS3} {Z : Ends3} (xs : List α) (e : α → D) (V : St3 → Prop) {δ : St3} {μ : Mu} (hP : Pm μ) (v0 : V δ) (h0 : ∀ δ, V δ → Z.nx δ μ)
    (hs : ∀ x ∈ xs, ∀ δ, V δ → ∃ δ', g (e x) δ = some δ' ∧ ∀ N : St3 → Mu → Prop, (∀ δ', V δ' → N δ' μ) → tb { Z with nx := N, ct := N, bk := Z.nx } δ' μ) : forW Pm g tb Z (xs.map e) δ μ := by
  refine for_ind (W := fun es δ μ' => μ' = μ ∧ V δ ∧ ∃ ys, (∀ y ∈ ys, y ∈ xs) ∧ es = ys.map e) ?_ ?_ _ _ _ ⟨rfl, v0, xs, fun _ h => h, rfl⟩
  · rintro δ μ' ⟨rfl, v, _⟩
    exact ⟨hP, h0 δ v⟩
  · rintro d es δ μ' ⟨rfl, v, ys, hy, e1⟩
    cases ys with
    | nil => cases e1
    | cons y ys =>
      rw [List.map_cons] at e1
      obtain ⟨rfl, rfl⟩ := List.cons.inj e1
      obtain ⟨δ', eg, h⟩ := hs y (hy y List.mem_cons_self) δ v
      exact ⟨hP, δ', eg, fun N hN => h N fun δ' v' => hN δ' _ ⟨rfl, v', ys, fun z hz => hy z (List.mem_cons_of_mem _ hz), rfl⟩⟩
theorem lcg_filter {α : Type} {Pm : Mu → Prop} {g : TG3} {tt : TT3} {te : TE3} {δ : St3} {R : List D → Mu → Prop} {μ : Mu} (p : α → Bool) (e f : α → D) (hP : Pm μ) : ∀ (xs : List α) (acc : List D), (∀ x ∈ xs, ∃ δ', g (e x) δ = some δ' ∧ (∀ R' : Bool → Mu → Prop, R' (p x) μ → tt δ' μ R') ∧
    (p x = true → ∀ R' : DK, R' (f x) μ → te δ' μ R')) → acc.length + xs.length ≤ sizeLine → R (acc ++ (xs.filter p).map f) μ → lcW Pm g tt te δ R (xs.map e) acc μ
  | [], acc, _, _, k => ⟨hP, by simpa using k⟩
  | d :: ds, acc, h, hl, k => by
    rw [List.length_cons] at hl
    obtain ⟨δ', eg, h1, h2⟩ := h d List.mem_cons_self
    refine ⟨hP, by omega, ?_⟩
    rw [eg]
    refine h1 _ ?_
    have h' := fun d' hd => h d' (List.mem_cons_of_mem _ hd)
    cases q : p d with
    | true =>
      rw [if_pos rfl]
      refine h2 q _ (lcg_filter p e f hP ds (acc ++ [f d]) h' (by simp; omega) ?_)
      simpa [List.filter_cons, q] using k
    | false =>
      rw [if_neg Bool.false_ne_true]
      refine lcg_filter p e f hP ds acc h' (by omega) ?_
      simpa [List.filter_cons, q] using k
theorem ty_lst {μ : Mu} {x : D} {xs : List D} (h : lstOf μ x = some xs) : tyD μ x = some "list" := by
  cases x with
  | lst ys => rfl
  | ref a =>
    have h' : (match μ a with
      | some (.lst xs) => some xs
      | _ => none) = some xs := h
    split at h'
    · rename_i e; simp only [tyD, e]
    · cases h'
  | _ => cases h
theorem ref_lst {μ : Mu} {a : Addr} {xs : List D} (h : lstOf μ (.ref a) = some xs) : μ a = some (.lst xs) := by
  have h' : (match μ a with
    | some (.lst xs) => some xs
    | _ => none) = some xs := h
  split at h'
  · rename_i e; cases h'; exact e
  · cases h'
theorem enm_lst {μ : Mu} {x : D} {xs : List D} {R : List D → (Mu → Prop) → Mu → Prop} (h : lstOf μ x = some xs) (k : ∀ Pm : Mu → Prop, (∀ μ', lstOf μ' x = some xs → Pm μ') → R (enumD xs) Pm μ) : enmI R μ [x] := by
  cases x with
  | lst ys => cases h; exact k _ fun _ _ => trivial
  | ref a => exact ⟨xs, ref_lst h, k _ fun μ' h' => ref_lst h'⟩
  | _ => cases h
end L3
namespace C1
open PySem PySem.Spec L2 L3
local macro_rules | `(tactic| walk_at "l3") => `(tactic| simp only [sSeq, sNext, sIf, sRet, sRetN, sSet, sDrop, sSub, sFor, sAsg, sPar2, sPar3, sCont, sFld3, sFld2, sAug, vVar, vC, vNil, vCons, vOp, vB, vChain, vAnd, vOr, vNot, vAndV, vOrV, vNotV, vIf, vUn, vCB, vLst, vTup, vLstT, vCall, vCal, vMak, vMetA, vFld, vSl, vPart, vNoP, vLc, vLcT, vDc, vBM, vBM0, vGet1, vGet2, vItems, vRev, vLRg, vStar, vDZip, iRg1, iRg2, iRgD, iAny, iEnm, iItm, iVal, vDict0, vDict0T, vDict0N, vDisp, vDispT, vPairs,
  List.getElem?_cons_zero, List.getElem?_cons_succ, List.set_cons_zero, List.set_cons_succ, wipe3, endsOf_rt, endsOf_nx, gLt, gLe, gGt, gGe, L3.gSub, gMul, gMod, gDiv, gPow, g2I, g2I0, gN, gT, gGo, Option.bind_some, gAdd_ii, gAdd_ss, gNeg_i, gMax2_ii, gMin2_ii, gLen_s, gEqS_ii, gEqS_ss, gEqS_bb, gNeS_ii, gNeS_ss, gIsN_n, gNotN_n, gSl_s, isNonD, if_true, if_false, Bool.false_eq_true, Bool.not_true, Bool.not_false])
section
open PySem PySem.Spec L2 L3
structure BoxOk (n : Nat) (c0 c1 c2 : Int) : Prop where
  h0 : 0 ≤ c0
  h1 : 0 ≤ c1
  h2 : c1 < 2147483629
  h3 : 0 ≤ c2
  h4 : c2 ≤ n
def Box (μ : Mu) (b : Addr) (n : Nat) : Prop := ∃ c0 c1 c2, μ b = some (.lst [.int c0, .int c1, .int c2]) ∧ BoxOk n c0 c1 c2
def Onl (b : Addr) (μ μ' : Mu) : Prop := ∀ a, a ≠ b → μ' a = μ a
theorem Onl.refl (b : Addr) (μ : Mu) : Onl b μ μ := fun _ _ => rfl
theorem Onl.trans {b : Addr} {μ μ1 μ2 : Mu} (h : Onl b μ μ1) (k : Onl b μ1 μ2) : Onl b μ μ2 := fun a ha => (k a ha).trans (h a ha)
theorem Box.mono {μ : Mu} {b : Addr} {n m : Nat} (h : Box μ b n) (l : n ≤ m) : Box μ b m := by
  obtain ⟨c0, c1, c2, e, k⟩ := h
  exact ⟨c0, c1, c2, e, k.h0, k.h1, k.h2, k.h3, by have := k.h4; omega⟩
def sp__law_cell : Sp3 := fun ds μ R => ∃ (ns : List Int) (k : Nat), ds = [.scr (ns.map D.int), .int k] ∧ k ≤ 100 ∧ ∀ z, R (.int z) μ
def t__law_cell_1 : TS3 := (sRet (vOp gAdd (vOp gMul (vC (.int 7919)) (vVar 1)) (vC (.int 131))))
def t__law_cell : TS3 := sSeq (sIf (vB (vOp gLt (vVar 1) (vCB gLen (vCons (vVar 0) vNil)))) (sRet (vOp gAt (vVar 0) (vVar 1))) sNext) t__law_cell_1
theorem pure__law_cell (ds : List D) (μ : Mu) (R : DK) (hl : ds.length = 2) (h : sp__law_cell ds μ R) : t__law_cell (endsOf R) (start3 ["_law_script", "_law_k"] ds) μ := by
  obtain ⟨ns, k, rfl, hk, h⟩ := h
  show t__law_cell (endsOf R) [some (.scr (ns.map D.int)), some (.int k)] μ
  unfold t__law_cell t__law_cell_1
  walk_at "l3"
  refine ⟨_, rfl, ?_⟩
  walk_at "l3"
  by_cases hlt : (k : Int) < ((ns.map D.int).length : Nat)
  · simp only [hlt, decide_true, if_true]
    have hk2 : k < ns.length := by simpa using hlt
    refine at_q (xs := ns.map D.int) (d := .int ns[k]) rfl ?_ (fin_now (h _))
    unfold atI ixN
    rw [if_pos (by omega), if_pos hlt]
    simp [hk2]
  · simp only [hlt, decide_false, Bool.false_eq_true, if_false]
    refine ⟨?_, fin_now (h _)⟩
    exact wide_mul (a := 20) (b := 20) (by decide) (by omega) (by decide) (by decide) (by decide)
def sp__law_box : Sp3 := fun ds μ R => ∃ z, ds = [.int z] ∧ ∀ b μ', μ b = none → Onl b μ μ' → Box μ' b 0 → R (.ref b) μ'
def t__law_box : TS3 := (sRet (vLstT (vCons (vCB gMax2 (vCons (vC (.int 0)) (vCons (vOp gSub (vVar 0) (vOp gPow (vC (.int 10)) (vC (.int 18)))) vNil))) (vCons (vOp gMod (vVar 0) (vC (.int 2147483629))) (vCons (vC (.int 0)) vNil)))))
theorem pure__law_box (ds : List D) (μ : Mu) (R : DK) (hl : ds.length = 1) (h : sp__law_box ds μ R) : t__law_box (endsOf R) (start3 ["_law_cell_here"] ds) μ := by
  obtain ⟨z, rfl, h⟩ := h
  show t__law_box (endsOf R) [some (.int z)] μ
  unfold t__law_box
  walk_at "l3"
  refine ⟨⟨by decide, by decide, by decide⟩, ?_⟩
  refine ⟨by decide, (by show 3 ≤ sizeLine; decide), fun q hq => fin_now (h q _ hq (fun a ha => mset_ne ha) ⟨_, _, _, mset_same, ?_⟩)⟩
  exact ⟨by omega, by omega, by omega, by decide, by decide⟩
def sp__law_take : Sp3 := fun ds μ R => ∃ b m n, ds = [.ref b, .int m] ∧ Box μ b n ∧ n < 1099511627776 ∧ 0 < m ∧ m < 1606938044258990275541962092341162602522202993782792835301376 ∧ ∀ r μ', 0 ≤ r → r < m → Onl b μ μ' → Box μ' b (n + 1) → R (.int r) μ'
def t__law_take_4 : TS3 := (sRet (vOp gMod (vOp gDiv (vVar 3) (vC (.int 8))) (vVar 1)))
def t__law_take_3 : TS3 := sSeq (sSet 3 (vOp gMod (vOp gPow (vOp gAdd (vVar 3) (vOp gMul (vC (.int 104729)) (vOp gAt (vVar 0) (vC (.int 2))))) (vC (.int 3))) (vC (.int 2147483587)))) t__law_take_4
def t__law_take_2 : TS3 := sSeq (sSet 3 (vOp gMod (vOp gPow (vOp gAdd (vOp gAdd (vOp gAt (vVar 0) (vC (.int 1))) (vOp gMul (vC (.int 7919)) (vOp gAt (vVar 0) (vC (.int 2))))) (vC (.int 43))) (vC (.int 5))) (vC (.int 2147483647)))) t__law_take_3
def t__law_take_1 : TS3 := sSeq (sSub gSet (vOp gAdd (vOp gAt (vVar 0) (vC (.int 2))) (vC (.int 1))) (vVar 0) (vC (.int 2))) t__law_take_2
def t__law_take : TS3 := sSeq (sIf (vB (vOp gGt (vOp gAt (vVar 0) (vC (.int 0))) (vC (.int 0)))) (sSeq (sSet 2 (vOp gMod (vOp gAt (vVar 0) (vC (.int 0))) (vVar 1))) (sSeq (sSub gSet (vOp gDiv (vOp gAt (vVar 0) (vC (.int 0))) (vVar 1)) (vVar 0) (vC (.int 0))) (sRet (vVar 2)))) sNext) t__law_take_1
theorem pure__law_take (ds : List D) (μ : Mu) (R : DK) (hl : ds.length = 2) (h : sp__law_take ds μ R) : t__law_take (endsOf R) (start3 ["_law_box_here", "_law_many", "_law_digit", "_law_number"] ds) μ := by
  obtain ⟨b, m, n, rfl, ⟨c0, c1, c2, e, k⟩, hn, hm, hm2, h⟩ := h
  show t__law_take (endsOf R) [some (.ref b), some (.int m), none, none] μ
  unfold t__law_take t__law_take_1 t__law_take_2 t__law_take_3 t__law_take_4
  walk_at "l3"
  refine at_r e rfl ?_
  walk_at "l3"
  by_cases hp : 0 < c0
  · simp only [hp, decide_true, if_true]
    refine at_r e rfl ⟨hm, ?_⟩
    refine at_r e rfl ⟨⟨hm, ?_⟩, ?_⟩
    · have := PySem.Flt.log2_lt_of (n := m.natAbs) (k := 200) (by decide) (by omega)
      omega
    · refine set_l e rfl (fin_now ?_)
      refine h _ _ (Int.emod_nonneg _ (by omega)) (Int.emod_lt_of_pos _ hm) (fun a ha => mset_ne ha) ⟨_, _, _, mset_same, ?_⟩
      exact ⟨Int.ediv_nonneg k.h0 (by omega), k.h1, k.h2, k.h3, by have := k.h4; omega⟩
  · simp only [hp, decide_false, Bool.false_eq_true, if_false]
    have k4 := k.h4
    have k3 := k.h3
    have k2 := k.h2
    have k1 := k.h1
    refine at_r e rfl ?_
    rw [gAdd_ii]
    refine set_l (i := 2) (j := 2) (v := .int (c2 + 1)) e rfl ?_
    have e1 : (mset μ b (.lst ([.int c0, .int c1, .int c2].set 2 (.int (c2 + 1))))) b = some (.lst [.int c0, .int c1, .int (c2 + 1)]) := mset_same
    refine at_r e1 rfl (at_r e1 rfl ⟨?_, ?_⟩)
    · exact wide_mul (a := 20) (b := 64) (by decide) (by omega) (by decide) (by decide) (by decide)
    refine ⟨⟨by decide, by decide, by omega⟩, ?_⟩
    refine ⟨(by show (0 : Int) < 2147483647; decide), ?_⟩
    refine at_r e1 rfl ⟨?_, ?_⟩
    · exact wide_mul (a := 20) (b := 64) (by decide) (by omega) (by decide) (by decide) (by decide)
    generalize hx : ((c1 + 7919 * (c2 + 1) + 43) ^ (5 : Int).toNat) % 2147483647 = x1
    have hx0 : 0 ≤ x1 := by rw [← hx]; exact Int.emod_nonneg _ (by decide)
    have hx1 : x1 < 2147483647 := by rw [← hx]; exact Int.emod_lt_of_pos _ (by decide)
    refine ⟨⟨by decide, by decide, by omega⟩, ?_⟩
    refine ⟨(by show (0 : Int) < 2147483587; decide), ?_⟩
    refine ⟨⟨by decide, by decide⟩, hm, fin_now ?_⟩
    refine h _ _ (Int.emod_nonneg _ (by omega)) (Int.emod_lt_of_pos _ hm) (fun a ha => mset_ne ha) ⟨_, _, _, mset_same, ?_⟩
    exact ⟨k.h0, k.h1, k.h2, by omega, by omega⟩
def Keeps (b : Addr) (μ μ' : Mu) : Prop := ∀ a o, a ≠ b → μ a = some o → μ' a = some o
theorem Keeps.refl (b : Addr) (μ : Mu) : Keeps b μ μ := fun _ _ _ h => h
theorem Keeps.fresh {b : Addr} {μ μ1 : Mu} {n : Nat} {q : Addr} (h : Keeps b μ μ1) (bx : Box μ1 b n) (hq : μ1 q = none) : μ q = none ∧ q ≠ b := by
  have hb : q ≠ b := fun e => by obtain ⟨_, _, _, e2, _⟩ := bx; rw [e, e2] at hq; cases hq
  refine ⟨?_, hb⟩
  cases e : μ q with
  | none => rfl
  | some o => rw [h q o hb e] at hq; cases hq
theorem Keeps.put {b : Addr} {μ μ1 : Mu} {q : Addr} {o : MO} (h : Keeps b μ μ1) (hq : μ q = none) : Keeps b μ (mset μ1 q o) := fun a x ha e => by
  have : a ≠ q := fun e' => by rw [e', hq] at e; cases e
  rw [mset_ne this]; exact h a x ha e
theorem Box.put {b : Addr} {μ : Mu} {n : Nat} {q : Addr} {o : MO} (h : Box μ b n) (hq : q ≠ b) : Box (mset μ q o) b n := by
  obtain ⟨c0, c1, c2, e, k⟩ := h
  exact ⟨c0, c1, c2, by rw [mset_ne (Ne.symm hq)]; exact e, k⟩
end
end C1
namespace L3
open PySem PySem.Spec PyProof.Rows L2
def keyP : Key → PyData
  | .inl i => .int i
  | .inr x => .str x
mutual
inductive ShX (μ : Mu) : D → PyData → Prop
  | non : ShX μ .non .none
  | bl (b : Bool) : ShX μ (.bl b) (.bool b)
  | int (i : Int) : ShX μ (.int i) (.int i)
  | str (x : Str) : ShX μ (.str x) (.str x)
  | lst {xs : List D} {ps : List PyData} : ShXs μ xs ps → ShX μ (.lst xs) (.list ps)
  | tup {xs : List D} {ps : List PyData} : ShXs μ xs ps → ShX μ (.tup xs) (.tuple ps)
  | dct {ks : List (Key × D)} {ps : List (PyData × PyData)} : ShXk μ ks ps → ShX μ (.dct ks) (.dict ps)
  | ref {a : Addr} {xs : List D} {ps : List PyData} : μ a = some (.lst xs) → ShXs μ xs ps → ShX μ (.ref a) (.list ps)
  | refd {a : Addr} {ks : List (Key × D)} {ps : List (PyData × PyData)} : μ a = some (.dct ks) → ShXk μ ks ps → ShX μ (.ref a) (.dict ps)
inductive ShXs (μ : Mu) : List D → List PyData → Prop
  | nil : ShXs μ [] []
  | cons {x : D} {xs : List D} {p : PyData} {ps : List PyData} : ShX μ x p → ShXs μ xs ps → ShXs μ (x :: xs) (p :: ps)
inductive ShXk (μ : Mu) : List (Key × D) → List (PyData × PyData) → Prop
  | nil : ShXk μ [] []
  | cons {k : Key} {x : D} {xs : List (Key × D)} {p : PyData} {ps : List (PyData × PyData)} : ShX μ x p → ShXk μ xs ps → ShXk μ ((k, x) :: xs) ((keyP k, p) :: ps)
end
def SysB (base : Heap) : Prop := ∃ o, base.get? sysModules = some o
structure BaseS (base : Heap) : Prop where
  x : BaseX base
  sm : SysB base
section
variable {X : Cx} {Z : Zn X.kn} {F : Addr → Prop} {H : Hp} {μ : Mu} {pins : List (Addr × Obj)} {s : Shared} {σ : L2.St}
theorem no_sys (I : Inv X pins σ H s) (sy : SysB X.base) {a : Addr} {u : HO} (h : H a = some u) : a ≠ sysModules := fun z => by
  subst z
  obtain ⟨o, ho⟩ := sy
  have := (I.bs sysModules o ho).2
  rw [h] at this
  cases this
theorem no_sysR (I : Inv X pins σ H s) (sy : SysB X.base) {a : Addr} {u : HO} (h : Rd H a u) : a ≠ sysModules := by
  rcases h with h | ⟨o, h⟩
  · exact no_sys I sy h
  · exact no_sys I sy h
theorem key_reads {h : Heap} {k : Key} {v : Value} (e : keyIs k v = true) : Reads h v (keyP k) [] := by
  rcases keyIs_shape e with ⟨i, t, rfl, rfl⟩ | ⟨x, t, rfl, rfl⟩
  · exact .int i t
  · exact .str x t
mutual
theorem ShX.reads (sm : Sim Z F H μ) (I : Inv X pins σ H s) (sy : SysB X.base) {d : D} {p : PyData} : ∀ {v : V} {u : Value}, ShX μ d p → Rp X.kn F H d v → RelV v u → ∃ as, Reads s.heap u p as ∧ sysModules ∉ as
  | _, _, .non, r, q => by cases r; cases q; exact ⟨_, .none, by simp⟩
  | _, _, .bl b, r, q => by cases r; cases q; exact ⟨_, .bool b, by simp⟩
  | _, _, .int i, r, q => by cases r; obtain ⟨t, rfl⟩ := q; exact ⟨_, .int i t, by simp⟩
  | _, _, .str x, r, q => by cases r; obtain ⟨t, rfl⟩ := q; exact ⟨_, .str x t, by simp⟩
  | _, _, .lst h, r, q => by
    cases r with
    | lst f e rs =>
      cases q
      obtain ⟨its, rv, ⟨o, n, ho, hc, _, hd⟩, _⟩ := I.list (SqL.of e)
      obtain ⟨as, hr, hn⟩ := ShXs.reads sm I sy h rs rv
      exact ⟨_, .list ho hc hd hr, fun z => (List.mem_cons.mp z).elim (fun z => no_sys I sy e z.symm) hn⟩
  | _, _, .tup h, r, q => by
    cases r with
    | tup f e rs =>
      cases q
      obtain ⟨its, rv, ⟨o, ho, hc, n, hd⟩, _⟩ := I.tuple (SqT.of e)
      obtain ⟨as, hr, hn⟩ := ShXs.reads sm I sy h rs rv
      exact ⟨_, .tuple ho hc hd hr, hn⟩
  | _, _, .dct h, r, q => by
    cases r with
    | dct f e rs =>
      cases q
      obtain ⟨_, us, kv, o, es, ep, ho, hx, hd, _, pr, _⟩ := L3.Inv.dic I e
      obtain ⟨as, bs, h1, h2, n1, n2⟩ := ShXk.reads sm I sy h rs kv pr
      exact ⟨_, .dict ho hx.1 hd h1 h2, fun z => (List.mem_cons.mp (List.mem_append.mp z |>.elim (fun z => z) (fun z => absurd z n2))).elim (fun z => no_sysR I sy e z.symm) n1⟩
  | _, _, .ref em h, r, q => by
    cases r
    cases q
    obtain ⟨_, vs, e, rs⟩ := sm.obj _ _ em
    obtain ⟨its, rv, ⟨o, n, ho, hc, _, hd⟩, _⟩ := I.list (SqL.of e)
    obtain ⟨as, hr, hn⟩ := ShXs.reads sm I sy h rs rv
    exact ⟨_, .list ho hc hd hr, fun z => (List.mem_cons.mp z).elim (fun z => no_sys I sy e z.symm) hn⟩
  | _, _, .refd em h, r, q => by
    cases r
    cases q
    obtain ⟨_, vs, e, rs⟩ := sm.obj _ _ em
    obtain ⟨_, us, kv, o, es, ep, ho, hx, hd, _, pr, _⟩ := L3.Inv.dic I (.inl e)
    obtain ⟨as, bs, h1, h2, n1, n2⟩ := ShXk.reads sm I sy h rs kv pr
    exact ⟨_, .dict ho hx.1 hd h1 h2, fun z => (List.mem_cons.mp (List.mem_append.mp z |>.elim (fun z => z) (fun z => absurd z n2))).elim (fun z => no_sys I sy e z.symm) n1⟩
theorem ShXs.reads (sm : Sim Z F H μ) (I : Inv X pins σ H s) (sy : SysB X.base) {ds : List D} {ps : List PyData} : ∀ {vs : List V} {us : List Value}, ShXs μ ds ps → Rps X.kn F H ds vs → Vals vs us → ∃ as, ReadsAll s.heap us ps as ∧ sysModules ∉ as
  | _, _, .nil, r, q => by cases r; cases q; exact ⟨_, .nil, by simp⟩
  | _, _, .cons h t, r, q => by
    cases r with
    | cons r1 rs =>
      cases q with
      | cons q1 qs =>
        obtain ⟨as, h1, n1⟩ := ShX.reads sm I sy h r1 q1
        obtain ⟨bs, h2, n2⟩ := ShXs.reads sm I sy t rs qs
        exact ⟨_, .cons h1 h2, fun z => (List.mem_append.mp z).elim n1 n2⟩
theorem ShXk.reads (sm : Sim Z F H μ) (I : Inv X pins σ H s) (sy : SysB X.base) {ks : List (Key × D)} {ps : List (PyData × PyData)} : ∀ {vs : List (Key × V)} {us : List (Key × Value)} {es : List DictEntry}, ShXk μ ks ps → Rpk X.kn F H ks vs → KV vs us → Pairs (mixKind X.prog X.w) es us →
    ∃ as bs, ReadsAll s.heap (es.map (·.key)) (ps.map (·.1)) as ∧ ReadsAll s.heap (es.map (·.val)) (ps.map (·.2)) bs ∧ sysModules ∉ as ∧ sysModules ∉ bs
  | _, _, _, .nil, r, q, w => by cases r; cases q; cases w; exact ⟨_, _, .nil, .nil, by simp, by simp⟩
  | _, _, _, .cons h t, r, q, w => by
    cases r with
    | cons r1 rs =>
      cases q with
      | cons q1 qs =>
        cases w with
        | cons w1 w2 ws =>
          obtain ⟨as, h1, n1⟩ := ShX.reads sm I sy h r1 q1.2
          obtain ⟨cs, bs, h2, h3, n2, n3⟩ := ShXk.reads sm I sy t rs qs ws
          have hk := key_reads (h := s.heap) (by rw [← q1.1] at w1; exact w1)
          exact ⟨_, _, .cons hk h2, .cons (by show Reads s.heap (DictEntry.val _) _ _; rw [w2]; exact h1) h3, by simpa using n2, fun z => (List.mem_append.mp z).elim n1 n3⟩
end
end
def ShowX (p : PyData) : Prop := p.showable = true ∧ p.depth ≤ 100 ∧ p.shown.length ≤ sizeLine
def gReprX : GA := fun ds μ R => ∃ d p, ds = [d] ∧ ShX μ d p ∧ ShowX p ∧ R (.str p.shown) μ
def rRun (X : Cx) (f : Value) : List V → Hp → VK → Prop := fun xs H Q => ∀ (pins : List (Addr × Obj)) (s : Shared) (σ : L2.St) (us : List Value), Inv X pins σ H s → Vals xs us → wpAny (model X.prog X.w) X.A (call f us) (EP X pins σ Q) X.xe s
theorem c_reprX {X : Cx} {Z : Zn X.kn} (hu : X.A.units + 150 < cLine) (hg : X.A.guards = some []) (sy : SysB X.base) : CallL X Z (.builtin "repr") gReprX := by
  refine ⟨rRun X (.builtin "repr"), fun pins s σ H xs us Q I rs h => h pins s σ us I rs, fun F H μ ds vs R Q sm rs q kk => ?_⟩
  obtain ⟨d, p, rfl, sh, ⟨h1, h3, h4⟩, q⟩ := q
  obtain ⟨v, rfl, r⟩ := one_of rs
  intro pins s σ us I rv
  cases rv with
  | cons r1 t =>
    cases t
    rename_i u
    obtain ⟨as, rds, ns⟩ := sh.reads sm I sy r r1
    have fin : ∀ h' t tk, (∀ b o, s.heap.get? b = some o → h'.get? b = some o) → EP X pins σ Q (.str p.shown t) { s with heap := h', toks := tk } := fun h' t tk kp => ⟨.str p.shown, H, I.kept kp, ⟨_, rfl⟩, kk F _ H _ μ (Step.refl sm) (.str _) q⟩
    have tok : ∀ tk, EP X pins σ Q (.str p.shown s.toks) { s with toks := tk } := fun tk => ⟨.str p.shown, H, I.tok _, ⟨_, rfl⟩, kk F _ H _ μ (Step.refl sm) (.str _) q⟩
    cases rds with
    | none => exact P.repr_of_none (tok _)
    | bool b =>
      have := tok (s.toks + 1)
      cases b <;> exact P.repr_of_bool this
    | int i t => exact P.repr_of_int (by simpa [PyData.showable] using h1) (by simpa [PyData.shown] using tok (s.toks + 1))
    | str x t => exact P.repr_of_str (by simpa [PyData.shown] using tok (s.toks + 1)) (by simpa [PyData.shown] using h4)
    | list e1 e2 e3 e4 => exact repr_of_reads' (.list e1 e2 e3 e4) h1 (fun _ => ns) hg (by omega) (fun _ _ e => e) fin h4
    | tuple e1 e2 e3 e4 => exact repr_of_reads' (.tuple e1 e2 e3 e4) h1 (fun _ => ns) hg (by omega) (fun _ _ e => e) fin h4
    | dict e1 e2 e3 e4 e5 => exact repr_of_reads' (.dict e1 e2 e3 e4 e5) h1 (fun _ => ns) hg (by omega) (fun _ _ e => e) fin h4
theorem enter_lawS {P : Program} {w : World} {K : PySem.W.Frag} {mg mb : Str → Option Value} {X0 : CXT} {k : Nat} {fa a : Addr} {fd : FuncData} {x : Str} {sp : Sp} {s1 : Shared} {us : List Value} {ns : List Int}
    (KX : K.In s1.heap) (h1 : s1.heap.Ns mainGlobals mg) (h2 : s1.heap.Ns builtinsNs mb) (h3 : ∀ x : Str, x ≠ "__name__" → mb x = bootBuiltins x) (h4 : s1.heap.NoLimit) (h5 : ∃ mc, s1.heap.Ns cStatics mc ∧ mc "sys.int_max_str_digits" = none) (h6 : ∃ mm, s1.heap.Ns sysModules mm) (hg : s1.gens = #[])
    (ha : s1.heap.get? a = some { cls := .type "list", data := .seq us.toArray }) (hi : IntsAre us ns) (hl : ns.length ≤ sizeLine) (hr : RoomG k callerA)
    (F : ∀ base : Heap, K.In base → base.Ns mainGlobals mg → BaseS base → FnG P w K mg base X0 k fa fd [x] sp) (hbind : ∀ (s : Shared) (u : Value), BindsTo s fd ⟨[u], []⟩ [(x, u)])
    (hsp : ∀ H : Hp, SqL K H a (ns.map V.int) → sp [.ref a] H (fun v _ => v = .bl true) fun _ _ _ => False)
    (hX0 : ∀ H e s2, X0 [] H s1 (fun _ _ _ => False) e s2 → False) :
    codeAny (model P w) callerA (.call (.ref fa) ⟨[.ref a], []⟩) (fun r s2 => r = .ok (.ret (.bool true)) ∧ OldK s1.heap s2.heap ∧ s2.os = s1.os ∧ AllBare s2.gens) s1 := by
  have rv := vals_ints hi
  have lz : us.length = ns.length := by rw [← rv.length, List.length_map]
  generalize eH : scrH K a us ns = H
  have look : ∀ {b u}, H b = some u → b = a ∧ K.lookup a = none ∧ u = .frz { cls := .type "list", data := .seq us.toArray } (.lst (ns.map V.int)) := fun h => scrH_some (eH ▸ h)
  have sq : SqL K H a (ns.map V.int) := by
    cases hk : K.lookup a with
    | some o =>
      have e := KX a o hk
      rw [ha] at e
      cases e
      exact .inr ⟨_, us.toArray, _, hk, rfl, rfl, rfl, by rw [List.size_toArray, lz]; exact hl, by simpa using rv⟩
    | none =>
      refine .inl (.inr ⟨{ cls := .type "list", data := .seq us.toArray }, ?_⟩)
      rw [← eH]
      exact if_pos ⟨rfl, hk⟩
  have ok : HOk P w H s1.heap := fun b u h => by
    obtain ⟨rfl, _, rfl⟩ := look h
    exact ⟨ha, by rw [List.length_map]; exact hl, us, _, rv, ha⟩
  have seen : ∀ {b : Addr} {o : Obj}, s1.heap.get? b = some o → (b = a → K.lookup a ≠ none) → (hidT s1.heap H).get? b = some o := fun {b o} e n => hidT_get e (by
    rw [← eH]
    exact scrH_none fun ⟨z1, z2⟩ => n z1 z2)
  have dict : ∀ {b : Addr} {m : Str → Option Value}, s1.heap.Ns b m → (hidT s1.heap H).Ns b m := fun {b m} ⟨o, es, ep, e, dd, rest⟩ => ⟨o, es, ep, seen e (fun z => by
    subst z
    rw [ha] at e
    cases e
    cases (show Data.seq us.toArray _ = Data.dict es ep from dd)), dd, rest⟩
  have KB : K.In (hidT s1.heap H) := fun b o e => seen (KX b o e) fun z n => by rw [z, n] at e; cases e
  have e0 : Env0 P w K mg (hidT s1.heap H) callerA [] s1 H :=
    ⟨rfl, ⟨KB, dict h1, ⟨mb, dict h2, h3⟩, let ⟨mc, q1, q2⟩ := h4; ⟨mc, dict q1, q2⟩⟩, fun b o e => of_hidT e, Nat.le_of_eq (hidT_size _ _), trivial, fun b hb => absurd (show b ∈ ([] : List Addr) from hb) (by simp), ok, .of_eq hg⟩
  have BX : BaseS (hidT s1.heap H) := ⟨⟨let ⟨mc, q1, q2⟩ := h5; ⟨mc, dict q1, q2⟩⟩, let ⟨mm, q1⟩ := h6; let ⟨o, _, _, e, _⟩ := dict q1; ⟨o, e⟩⟩
  refine codeAny_mono ((F _ KB (dict h1) BX).go callerA [] s1 H _ [.ref a] [.ref a] _ _ hr e0 (hbind s1 (.ref a)) (.cons rfl .nil) (hsp H sq)) fun res s2 h => ?_
  match res, h with
  | .error er, h => exact (hX0 H er s2 h).elim
  | .ok (.ret u), h =>
    obtain ⟨v, H2, os, bare, un, ok2, r2, q⟩ := h
    obtain rfl : v = .bl true := q
    obtain rfl : u = Value.bool true := r2
    refine ⟨rfl, OldK.of_keep fun b o e => ?_, os, bare⟩
    cases q : H b with
    | none => exact un.keep b o e q (by intro z; exact absurd (show b ∈ ([] : List Addr) from z) (by simp)) (by simp)
    | some u =>
      obtain ⟨rfl, _, rfl⟩ := look q
      have e2 := (ok2 _ _ (un.frzs _ _ _ q)).1
      rw [ha] at e
      cases e
      exact e2
theorem lt_un {k : Nat} {A : Around} (hr : RoomG k A) : A.units + 150 < cLine := by have := hr.rm.un; omega
end L3
namespace L3
open PySem PySem.Spec PyProof.Rows L2
section
variable {X : Cx} {Z : Zn X.kn}
theorem Rps.flat {K : Kn} {F : Addr → Prop} {H : Hp} {xs : List D} {vs : List V} (r : Rps K F H xs vs) : ∀ n : Nat, Rps K F H (List.replicate n xs).flatten (List.replicate n vs).flatten
  | 0 => .nil
  | n + 1 => by rw [List.replicate_succ, List.replicate_succ, List.flatten_cons, List.flatten_cons]; exact r.append (Rps.flat r n)
end
end L3
namespace L3
open PySem PySem.Spec PyProof.Rows L2
structure CalV (P : Program) (w : World) (K : PySem.W.Frag) (mg : Str → Option Value) (base : Heap) (X0 : CXT) (k : Nat) (x : Str) (n : Nat) (lsp : Sp) : Prop where
  ex : ∃ (f : Addr) (fd : FuncData) (ps : List Str), PySem.W.nsIn K mainGlobals x = some (some (.ref f)) ∧ mg x = some (.ref f) ∧ PySem.W.keepIn K (.ref f) = true ∧ Bd3 K fd ps n [] (allPos n) [] ∧ FnG P w K mg base X0 k f fd ps lsp
end L3
namespace L3
open PySem PySem.Spec PyProof.Rows L2
theorem SaysB.def3 {fa : List Fb} {fn : List He.DefD} {K : PySem.W.Frag} (c : SaysB fa fn K) (i : Nat) {p : Str × Option Str} {x qual : Str} {st : Stmt} {dfl : List He.Dv} {kwd : List (Str × He.Dv)} {vs : List V} {ks : List (Str × V)}
    (h : fn[i]? = some (dAt p x qual st dfl kwd)) (e1 : dfl.map (He.Dv.v K) = vs) (e2 : (kwd.map fun q => (q.1, q.2.v K)) = ks) : ∃ fd, Def3 K x qual st vs ks (He.fAd K p) fd := by
  obtain ⟨fd, F⟩ := c.def_ i h
  subst e1 e2
  exact ⟨fd, ⟨F.ex, F.kp⟩⟩
theorem Def3.binds1 {K : PySem.W.Frag} {x qual p : Str} {st : Stmt} {f : Addr} {fd : FuncData} (F : Def3 K x qual st [] [] f fd)
    (h : ∀ (kV doc pm : Value) (an : Option Addr) (cdv ct v : Value), bindArgs (PySem.W.fnOf x qual (defArgs st) (defBody st) (defScope st) .none kV doc pm an cdv ct) ⟨[v], []⟩ = pure [(p, v)]) (s : Shared) (v : Value) : BindsTo s fd ⟨[v], []⟩ [(p, v)] := by
  obtain ⟨oc, od, dV, kV, doc, pm, an, cdv, ct, osl, rfl, lk, cd, hD, hK⟩ := F.ex
  rcases hD with ⟨_, rfl⟩ | ⟨e, _⟩
  · exact .of_eq (h kV doc pm an cdv ct v)
  · exact absurd rfl e
theorem walkE {l : PySem.W.OpenLaw} {n k : Nat} {q : Program} {loose : List Str} {XP : (Str → Option Value) → Heap → Prop} {YP : World → Heap → Prop} {d : DefRec} {X0 : World → CXT} {x : Str}
    (hi : importsNone q = true) (hn : l.most = some n) (hn2 : n ≤ sizeLine) (hdf : d.params.defaults = []) (hr : Room k callerA)
    (F : ∀ (w : World) (mg : Str → Option Value) (fa : Addr) (h : Heap), YP w h → h.Ns mainGlobals mg → mg d.name = some (.ref fa) →
      ∃ (K : PySem.W.Frag) (fd : FuncData) (sp : Sp), K.In h ∧ (∀ (s : Shared) (u : Value), BindsTo s fd ⟨[u], []⟩ [(x, u)]) ∧
        (∀ (H : Hp) (a : Addr) (ns : List Int), ns.length ≤ n → SqL K H a (ns.map V.int) → sp [.ref a] H (fun v _ => v = .bl true) fun _ _ _ => False) ∧
        ∀ base : Heap, K.In base → base.Ns mainGlobals mg → BaseS base → FnG l.prog w K mg base (X0 w) k fa fd [x] sp)
    (hX0 : ∀ (w : World) (H : Hp) (s : Shared) (e : Value) (s2 : Shared), X0 w [] H s (fun _ _ _ => False) e s2 → False) :
    PySem.W.WalkO q loose XP YP l.row.toRowW d [] (fun f vs => PySem.call f vs) := by
  refine Att.attach_call hn hdf fun w s0 s1 mg mb fa o pm cd doc a us ns G Y ho hd hcd hmg hobj hints hlen hg => ?_
  obtain ⟨K, fd, sp, KX, hb, hsp, hF⟩ := F w mg fa _ Y G.T.g hmg
  exact enter_lawS KX G.T.g G.T.b G.T.builtins G.T.nolimit G.T.nodigits (let ⟨mm, q1, _⟩ := (G.T.seer hi).mods; ⟨mm, q1⟩) hg hobj hints (Nat.le_trans hlen hn2) ⟨hr, rfl⟩ hF hb (fun H hS => hsp H a ns hlen hS) fun H e s2 => hX0 w H s1 e s2
end L3
namespace C1
open PySem PySem.Spec L2 L3
local macro_rules | `(tactic| walk_at "l3") => `(tactic| simp only [sSeq, sNext, sIf, sRet, sRetN, sSet, sDrop, sSub, sFor, sAsg, sPar2, sPar3, sCont, sFld3, sFld2, sAug, vVar, vC, vNil, vCons, vOp, vB, vChain, vAnd, vOr, vNot, vAndV, vOrV, vNotV, vIf, vUn, vCB, vLst, vTup, vLstT, vCall, vCal, vMak, vMetA, vFld, vSl, vPart, vNoP, vLc, vLcT, vDc, vBM, vBM0, vGet1, vGet2, vItems, vRev, vLRg, vStar, vDZip, iRg1, iRg2, iRgD, iAny, iEnm, iItm, iVal, vDict0, vDict0T, vDict0N, vDisp, vDispT, vPairs,
  List.getElem?_cons_zero, List.getElem?_cons_succ, List.set_cons_zero, List.set_cons_succ, wipe3, endsOf_rt, endsOf_nx, gLt, gLe, gGt, gGe, L3.gSub, gMul, gMod, gDiv, gPow, g2I, g2I0, gN, gT, gGo, Option.bind_some, gAdd_ii, gAdd_ss, gNeg_i, gMax2_ii, gMin2_ii, gLen_s, gEqS_ii, gEqS_ss, gEqS_bb, gNeS_ii, gNeS_ss, gIsN_n, gNotN_n, gSl_s, isNonD, if_true, if_false, Bool.false_eq_true, Bool.not_true, Bool.not_false])
section
open PySem PySem.Spec L2 L3
local macro_rules | `(tactic| walk_at "x3") => `(tactic| simp only [vCallX, vMetAX, vMakX, vCalX, sRaise, sSeq, sNext, sIf, sRet, sRetN, sSet, sDrop, sSub, sFor, sAsg, sPar2, sPar3, sCont, sFld3, sFld2, sAug, vVar, vC, vNil, vCons, vOp, vB, vChain, vAnd, vOr, vNot, vAndV, vOrV, vNotV, vIf, vUn, vCB, vLst, vTup, vLstT, vCall, vCal, vMak, vMetA, vFld, vSl, vPart, vNoP, vLc, vLcT, vDc, vBM, vBM0, vGet1, vGet2, vItems, vRev, vLRg, vStar, vDZip, iRg1, iRg2, iRgD, iAny, iEnm, iItm, iVal, vDict0, vDict0T, vDict0N, vDisp, vDispT, vPairs,
  List.getElem?_cons_zero, List.getElem?_cons_succ, List.set_cons_zero, List.set_cons_succ, wipe3, endsOf_rt, endsOf_nx, gLt, gLe, gGt, gGe, L3.gSub, gMul, gMod, gDiv, gPow, g2I, g2I0, gN, gT, gGo, Option.bind_some, gAdd_ii, gAdd_ss, gNeg_i, gMax2_ii, gMin2_ii, gLen_s, gEqS_ii, gEqS_ss, gEqS_bb, gNeS_ii, gNeS_ss, gIsN_n, gNotN_n, gSl_s, isNonD, if_true, if_false, Bool.false_eq_true, Bool.not_true, Bool.not_false])
local macro_rules | `(tactic| walk_at "w3") => `(tactic| simp only [vMkX, vMkX0, vMkXB, vExf])
def madeN : List (Str × Str) := [(("InvalidInteger" : Str), ("value" : Str)), (("InvalidName" : Str), ("value" : Str)), (("Duplicate" : Str), ("name" : Str)), (("InvalidEvents" : Str), ("value" : Str)), (("InvalidTies" : Str), ("value" : Str)), (("InvalidTie" : Str), ("value" : Str)), (("InvalidLimits" : Str), ("value" : Str)), (("Ring" : Str), ("members" : Str)), (("InvalidPlan" : Str), ("value" : Str)), (("UnlikeEvents" : Str), ("members" : Str)), (("InvalidText" : Str), ("value" : Str)), (("InvalidCounts" : Str), ("value" : Str)), (("InvalidRun" : Str), ("value" : Str)), (("InvalidStock" : Str), ("value" : Str)), (("InvalidAmounts" : Str), ("value" : Str)), (("InvalidBounds" : Str), ("value" : Str)), (("InvalidNames" : Str), ("value" : Str)), (("InvalidCommand" : Str), ("value" : Str)), (("InvalidCommands" : Str), ("value" : Str)), (("TooMany" : Str), ("bound" : Str)), (("InvalidLog" : Str), ("value" : Str)), (("InvalidLogs" : Str), ("value" : Str)), (("InvalidEntry" : Str), ("value" : Str)), (("UnknownEvent" : Str), ("name" : Str)), (("NoTie" : Str), ("index" : Str)), (("NoEntry" : Str), ("name" : Str)), (("Barred" : Str), ("index" : Str)), (("NotMoment" : Str), ("value" : Str)), (("NotBehind" : Str), ("value" : Str)), (("TooLong" : Str), ("total" : Str)), (("Endless" : Str), ("event" : Str)), (("Misfit" : Str), ("index" : Str)), (("NotSafe" : Str), ("index" : Str))]
def kindN : List Str := [("InvalidInteger" : Str), ("InvalidName" : Str), ("Duplicate" : Str), ("InvalidEvents" : Str), ("InvalidTies" : Str), ("InvalidTie" : Str), ("InvalidLimits" : Str), ("Ring" : Str), ("InvalidPlan" : Str), ("UnlikeEvents" : Str), ("InvalidText" : Str), ("InvalidCounts" : Str), ("InvalidRun" : Str), ("InvalidStock" : Str), ("InvalidAmounts" : Str), ("InvalidBounds" : Str), ("InvalidNames" : Str), ("InvalidCommand" : Str), ("InvalidCommands" : Str), ("TooMany" : Str), ("InvalidLog" : Str), ("InvalidLogs" : Str), ("InvalidEntry" : Str), ("UnknownEvent" : Str), ("NoTie" : Str), ("NoEntry" : Str), ("Barred" : Str), ("NotMoment" : Str), ("NotBehind" : Str), ("TooLong" : Str), ("Endless" : Str), ("Misfit" : Str), ("NotSafe" : Str), ("NotPossible" : Str), ("NoRun" : Str), ("NothingToUndo" : Str), ("NothingToRedo" : Str)]
def madeD (d : D) : List D := madeN.map fun p => .exc p.1 [(p.2, d)]
abbrev XP := List Str × List String
theorem isx_go {n m : Str} {fs : List (Str × D)} {μ : Mu} {R : DK} {p : XP} (hn : xtB.lookup n = some p) (hm : (xtB.lookup m).isSome = true) (h : R (.bl (p.1.contains m)) μ) : gIsX (isT xtB tsX) [.exc n fs, .cls m] μ R :=
  .inr ⟨n, fs, _, _, rfl, by unfold isT; rw [hn]; exact if_pos hm, h⟩
theorem isx_ty {n : Str} {m : String} {fs : List (Str × D)} {μ : Mu} {R : DK} {p : XP} (hn : xtB.lookup n = some p) (hm : tsX.contains m = true) (h : R (.bl (p.2.contains m)) μ) : gIsX (isT xtB tsX) [.exc n fs, .ty m] μ R :=
  .inr ⟨n, fs, _, _, rfl, by unfold isT; rw [hn]; exact if_pos hm, h⟩
def sp__law_made : Sp3 := fun ds μ R => ∃ d, ds = [d] ∧ R (.lst (madeD d)) μ
def t__law_made_9 : TS3 := (sRet (vVar 1))
def t__law_made_8 : TS3 := sSeq (sSet 1 (vOp gAdd (vVar 1) (vLst (vCons (vMkX "NotSafe" "index" (vCons (vVar 0) vNil)) vNil)))) t__law_made_9
def t__law_made_7 : TS3 := sSeq (sSet 1 (vOp gAdd (vVar 1) (vLst (vCons (vMkX "NotBehind" "value" (vCons (vVar 0) vNil)) (vCons (vMkX "TooLong" "total" (vCons (vVar 0) vNil)) (vCons (vMkX "Endless" "event" (vCons (vVar 0) vNil)) (vCons (vMkX "Misfit" "index" (vCons (vVar 0) vNil)) vNil))))))) t__law_made_8
def t__law_made_6 : TS3 := sSeq (sSet 1 (vOp gAdd (vVar 1) (vLst (vCons (vMkX "NoTie" "index" (vCons (vVar 0) vNil)) (vCons (vMkX "NoEntry" "name" (vCons (vVar 0) vNil)) (vCons (vMkX "Barred" "index" (vCons (vVar 0) vNil)) (vCons (vMkX "NotMoment" "value" (vCons (vVar 0) vNil)) vNil))))))) t__law_made_7
def t__law_made_5 : TS3 := sSeq (sSet 1 (vOp gAdd (vVar 1) (vLst (vCons (vMkX "InvalidLog" "value" (vCons (vVar 0) vNil)) (vCons (vMkX "InvalidLogs" "value" (vCons (vVar 0) vNil)) (vCons (vMkX "InvalidEntry" "value" (vCons (vVar 0) vNil)) (vCons (vMkX "UnknownEvent" "name" (vCons (vVar 0) vNil)) vNil))))))) t__law_made_6
def t__law_made_4 : TS3 := sSeq (sSet 1 (vOp gAdd (vVar 1) (vLst (vCons (vMkX "InvalidNames" "value" (vCons (vVar 0) vNil)) (vCons (vMkX "InvalidCommand" "value" (vCons (vVar 0) vNil)) (vCons (vMkX "InvalidCommands" "value" (vCons (vVar 0) vNil)) (vCons (vMkX "TooMany" "bound" (vCons (vVar 0) vNil)) vNil))))))) t__law_made_5
def t__law_made_3 : TS3 := sSeq (sSet 1 (vOp gAdd (vVar 1) (vLst (vCons (vMkX "InvalidRun" "value" (vCons (vVar 0) vNil)) (vCons (vMkX "InvalidStock" "value" (vCons (vVar 0) vNil)) (vCons (vMkX "InvalidAmounts" "value" (vCons (vVar 0) vNil)) (vCons (vMkX "InvalidBounds" "value" (vCons (vVar 0) vNil)) vNil))))))) t__law_made_4
def t__law_made_2 : TS3 := sSeq (sSet 1 (vOp gAdd (vVar 1) (vLst (vCons (vMkX "InvalidPlan" "value" (vCons (vVar 0) vNil)) (vCons (vMkX "UnlikeEvents" "members" (vCons (vVar 0) vNil)) (vCons (vMkX "InvalidText" "value" (vCons (vVar 0) vNil)) (vCons (vMkX "InvalidCounts" "value" (vCons (vVar 0) vNil)) vNil))))))) t__law_made_3
def t__law_made_1 : TS3 := sSeq (sSet 1 (vOp gAdd (vVar 1) (vLst (vCons (vMkX "InvalidTies" "value" (vCons (vVar 0) vNil)) (vCons (vMkX "InvalidTie" "value" (vCons (vVar 0) vNil)) (vCons (vMkX "InvalidLimits" "value" (vCons (vVar 0) vNil)) (vCons (vMkX "Ring" "members" (vCons (vVar 0) vNil)) vNil))))))) t__law_made_2
def t__law_made : TS3 := sSeq (sSet 1 (vLst (vCons (vMkX "InvalidInteger" "value" (vCons (vVar 0) vNil)) (vCons (vMkX "InvalidName" "value" (vCons (vVar 0) vNil)) (vCons (vMkX "Duplicate" "name" (vCons (vVar 0) vNil)) (vCons (vMkX "InvalidEvents" "value" (vCons (vVar 0) vNil)) vNil)))))) t__law_made_1
theorem pure__law_made (ds : List D) (μ : Mu) (R : DK) (hl : ds.length = 1) (h : sp__law_made ds μ R) : t__law_made (endsOf R) (start3 ["_law_value_here", "_law_found"] ds) μ := by
  obtain ⟨d, rfl, h⟩ := h
  show t__law_made (endsOf R) [some d, none] μ
  unfold t__law_made
  walk_at "x3"
  walk_at "w3"
  refine ⟨d, rfl, ⟨d, rfl, ⟨d, rfl, ⟨d, rfl, ⟨by simp [sizeLine], ?_⟩⟩⟩⟩⟩
  unfold t__law_made_1
  walk_at "x3"
  walk_at "w3"
  refine ⟨d, rfl, ⟨d, rfl, ⟨d, rfl, ⟨d, rfl, ⟨by simp [sizeLine], ?_⟩⟩⟩⟩⟩
  refine ⟨_, _, rfl, rfl, by simp [sizeLine], ?_⟩
  unfold t__law_made_2
  walk_at "x3"
  walk_at "w3"
  refine ⟨d, rfl, ⟨d, rfl, ⟨d, rfl, ⟨d, rfl, ⟨by simp [sizeLine], ?_⟩⟩⟩⟩⟩
  refine ⟨_, _, rfl, rfl, by simp [sizeLine], ?_⟩
  unfold t__law_made_3
  walk_at "x3"
  walk_at "w3"
  refine ⟨d, rfl, ⟨d, rfl, ⟨d, rfl, ⟨d, rfl, ⟨by simp [sizeLine], ?_⟩⟩⟩⟩⟩
  refine ⟨_, _, rfl, rfl, by simp [sizeLine], ?_⟩
  unfold t__law_made_4
  walk_at "x3"
  walk_at "w3"
  refine ⟨d, rfl, ⟨d, rfl, ⟨d, rfl, ⟨d, rfl, ⟨by simp [sizeLine], ?_⟩⟩⟩⟩⟩
  refine ⟨_, _, rfl, rfl, by simp [sizeLine], ?_⟩
  unfold t__law_made_5
  walk_at "x3"
  walk_at "w3"
  refine ⟨d, rfl, ⟨d, rfl, ⟨d, rfl, ⟨d, rfl, ⟨by simp [sizeLine], ?_⟩⟩⟩⟩⟩
  refine ⟨_, _, rfl, rfl, by simp [sizeLine], ?_⟩
  unfold t__law_made_6
  walk_at "x3"
  walk_at "w3"
  refine ⟨d, rfl, ⟨d, rfl, ⟨d, rfl, ⟨d, rfl, ⟨by simp [sizeLine], ?_⟩⟩⟩⟩⟩
  refine ⟨_, _, rfl, rfl, by simp [sizeLine], ?_⟩
  unfold t__law_made_7
  walk_at "x3"
  walk_at "w3"
  refine ⟨d, rfl, ⟨d, rfl, ⟨d, rfl, ⟨d, rfl, ⟨by simp [sizeLine], ?_⟩⟩⟩⟩⟩
  refine ⟨_, _, rfl, rfl, by simp [sizeLine], ?_⟩
  unfold t__law_made_8
  walk_at "x3"
  walk_at "w3"
  refine ⟨d, rfl, ⟨by simp [sizeLine], ?_⟩⟩
  refine ⟨_, _, rfl, rfl, by simp [sizeLine], ?_⟩
  unfold t__law_made_9
  walk_at "x3"
  exact fin_now h
def kindD (p : XP) : List D := ((List.range 37).filter fun k => p.1.contains (kindN.getD k Str.empty)).map fun k : Nat => D.int (0 + (k : Int))
def sp__law_kinds : Sp3 := fun ds μ R => ∃ n fs p, ds = [.exc n fs] ∧ xtB.lookup n = some p ∧ R (.lst (kindD p)) μ
def t__law_kinds_19 : TS3 := (sRet (vLc (iRg1 (vCons (vCB gLen (vCons (vVar 1) vNil)) vNil)) (gN 2) (vB (vOp gAt (vVar 1) (vVar 2))) (vVar 2) [2]))
def t__law_kinds_18 : TS3 := sSeq (sSet 1 (vOp gAdd (vVar 1) (vLst (vCons (vCB (gIsX (isT xtB tsX)) (vCons (vVar 0) (vCons (vC (.cls "NothingToRedo")) vNil))) vNil)))) t__law_kinds_19
def t__law_kinds_17 : TS3 := sSeq (sSet 1 (vOp gAdd (vVar 1) (vLst (vCons (vCB (gIsX (isT xtB tsX)) (vCons (vVar 0) (vCons (vC (.cls "NoRun")) vNil))) (vCons (vCB (gIsX (isT xtB tsX)) (vCons (vVar 0) (vCons (vC (.cls "NothingToUndo")) vNil))) vNil))))) t__law_kinds_18
def t__law_kinds_16 : TS3 := sSeq (sSet 1 (vOp gAdd (vVar 1) (vLst (vCons (vCB (gIsX (isT xtB tsX)) (vCons (vVar 0) (vCons (vC (.cls "NotSafe")) vNil))) (vCons (vCB (gIsX (isT xtB tsX)) (vCons (vVar 0) (vCons (vC (.cls "NotPossible")) vNil))) vNil))))) t__law_kinds_17
def t__law_kinds_15 : TS3 := sSeq (sSet 1 (vOp gAdd (vVar 1) (vLst (vCons (vCB (gIsX (isT xtB tsX)) (vCons (vVar 0) (vCons (vC (.cls "Endless")) vNil))) (vCons (vCB (gIsX (isT xtB tsX)) (vCons (vVar 0) (vCons (vC (.cls "Misfit")) vNil))) vNil))))) t__law_kinds_16
def t__law_kinds_14 : TS3 := sSeq (sSet 1 (vOp gAdd (vVar 1) (vLst (vCons (vCB (gIsX (isT xtB tsX)) (vCons (vVar 0) (vCons (vC (.cls "NotBehind")) vNil))) (vCons (vCB (gIsX (isT xtB tsX)) (vCons (vVar 0) (vCons (vC (.cls "TooLong")) vNil))) vNil))))) t__law_kinds_15
def t__law_kinds_13 : TS3 := sSeq (sSet 1 (vOp gAdd (vVar 1) (vLst (vCons (vCB (gIsX (isT xtB tsX)) (vCons (vVar 0) (vCons (vC (.cls "Barred")) vNil))) (vCons (vCB (gIsX (isT xtB tsX)) (vCons (vVar 0) (vCons (vC (.cls "NotMoment")) vNil))) vNil))))) t__law_kinds_14
def t__law_kinds_12 : TS3 := sSeq (sSet 1 (vOp gAdd (vVar 1) (vLst (vCons (vCB (gIsX (isT xtB tsX)) (vCons (vVar 0) (vCons (vC (.cls "NoTie")) vNil))) (vCons (vCB (gIsX (isT xtB tsX)) (vCons (vVar 0) (vCons (vC (.cls "NoEntry")) vNil))) vNil))))) t__law_kinds_13
def t__law_kinds_11 : TS3 := sSeq (sSet 1 (vOp gAdd (vVar 1) (vLst (vCons (vCB (gIsX (isT xtB tsX)) (vCons (vVar 0) (vCons (vC (.cls "InvalidEntry")) vNil))) (vCons (vCB (gIsX (isT xtB tsX)) (vCons (vVar 0) (vCons (vC (.cls "UnknownEvent")) vNil))) vNil))))) t__law_kinds_12
def t__law_kinds_10 : TS3 := sSeq (sSet 1 (vOp gAdd (vVar 1) (vLst (vCons (vCB (gIsX (isT xtB tsX)) (vCons (vVar 0) (vCons (vC (.cls "InvalidLog")) vNil))) (vCons (vCB (gIsX (isT xtB tsX)) (vCons (vVar 0) (vCons (vC (.cls "InvalidLogs")) vNil))) vNil))))) t__law_kinds_11
def t__law_kinds_9 : TS3 := sSeq (sSet 1 (vOp gAdd (vVar 1) (vLst (vCons (vCB (gIsX (isT xtB tsX)) (vCons (vVar 0) (vCons (vC (.cls "InvalidCommands")) vNil))) (vCons (vCB (gIsX (isT xtB tsX)) (vCons (vVar 0) (vCons (vC (.cls "TooMany")) vNil))) vNil))))) t__law_kinds_10
def t__law_kinds_8 : TS3 := sSeq (sSet 1 (vOp gAdd (vVar 1) (vLst (vCons (vCB (gIsX (isT xtB tsX)) (vCons (vVar 0) (vCons (vC (.cls "InvalidNames")) vNil))) (vCons (vCB (gIsX (isT xtB tsX)) (vCons (vVar 0) (vCons (vC (.cls "InvalidCommand")) vNil))) vNil))))) t__law_kinds_9
def t__law_kinds_7 : TS3 := sSeq (sSet 1 (vOp gAdd (vVar 1) (vLst (vCons (vCB (gIsX (isT xtB tsX)) (vCons (vVar 0) (vCons (vC (.cls "InvalidAmounts")) vNil))) (vCons (vCB (gIsX (isT xtB tsX)) (vCons (vVar 0) (vCons (vC (.cls "InvalidBounds")) vNil))) vNil))))) t__law_kinds_8
def t__law_kinds_6 : TS3 := sSeq (sSet 1 (vOp gAdd (vVar 1) (vLst (vCons (vCB (gIsX (isT xtB tsX)) (vCons (vVar 0) (vCons (vC (.cls "InvalidRun")) vNil))) (vCons (vCB (gIsX (isT xtB tsX)) (vCons (vVar 0) (vCons (vC (.cls "InvalidStock")) vNil))) vNil))))) t__law_kinds_7
def t__law_kinds_5 : TS3 := sSeq (sSet 1 (vOp gAdd (vVar 1) (vLst (vCons (vCB (gIsX (isT xtB tsX)) (vCons (vVar 0) (vCons (vC (.cls "InvalidText")) vNil))) (vCons (vCB (gIsX (isT xtB tsX)) (vCons (vVar 0) (vCons (vC (.cls "InvalidCounts")) vNil))) vNil))))) t__law_kinds_6
def t__law_kinds_4 : TS3 := sSeq (sSet 1 (vOp gAdd (vVar 1) (vLst (vCons (vCB (gIsX (isT xtB tsX)) (vCons (vVar 0) (vCons (vC (.cls "InvalidPlan")) vNil))) (vCons (vCB (gIsX (isT xtB tsX)) (vCons (vVar 0) (vCons (vC (.cls "UnlikeEvents")) vNil))) vNil))))) t__law_kinds_5
def t__law_kinds_3 : TS3 := sSeq (sSet 1 (vOp gAdd (vVar 1) (vLst (vCons (vCB (gIsX (isT xtB tsX)) (vCons (vVar 0) (vCons (vC (.cls "InvalidLimits")) vNil))) (vCons (vCB (gIsX (isT xtB tsX)) (vCons (vVar 0) (vCons (vC (.cls "Ring")) vNil))) vNil))))) t__law_kinds_4
def t__law_kinds_2 : TS3 := sSeq (sSet 1 (vOp gAdd (vVar 1) (vLst (vCons (vCB (gIsX (isT xtB tsX)) (vCons (vVar 0) (vCons (vC (.cls "InvalidTies")) vNil))) (vCons (vCB (gIsX (isT xtB tsX)) (vCons (vVar 0) (vCons (vC (.cls "InvalidTie")) vNil))) vNil))))) t__law_kinds_3
def t__law_kinds_1 : TS3 := sSeq (sSet 1 (vOp gAdd (vVar 1) (vLst (vCons (vCB (gIsX (isT xtB tsX)) (vCons (vVar 0) (vCons (vC (.cls "Duplicate")) vNil))) (vCons (vCB (gIsX (isT xtB tsX)) (vCons (vVar 0) (vCons (vC (.cls "InvalidEvents")) vNil))) vNil))))) t__law_kinds_2
def t__law_kinds : TS3 := sSeq (sSet 1 (vLst (vCons (vCB (gIsX (isT xtB tsX)) (vCons (vVar 0) (vCons (vC (.cls "InvalidInteger")) vNil))) (vCons (vCB (gIsX (isT xtB tsX)) (vCons (vVar 0) (vCons (vC (.cls "InvalidName")) vNil))) vNil)))) t__law_kinds_1
theorem pure__law_kinds (ds : List D) (μ : Mu) (R : DK) (hl : ds.length = 1) (h : sp__law_kinds ds μ R) : t__law_kinds (endsOf R) (start3 ["_law_error", "_law_found", "_law_k"] ds) μ := by
  obtain ⟨n, fs, p, rfl, hn, h⟩ := h
  show t__law_kinds (endsOf R) [some (.exc n fs), none, none] μ
  unfold t__law_kinds
  walk_at "x3"
  refine isx_go hn (by decide) (isx_go hn (by decide) (⟨by simp [sizeLine], ?_⟩))
  unfold t__law_kinds_1
  walk_at "x3"
  refine isx_go hn (by decide) (isx_go hn (by decide) (⟨by simp [sizeLine], ?_⟩))
  refine ⟨_, _, rfl, rfl, by simp [sizeLine], ?_⟩
  unfold t__law_kinds_2
  walk_at "x3"
  refine isx_go hn (by decide) (isx_go hn (by decide) (⟨by simp [sizeLine], ?_⟩))
  refine ⟨_, _, rfl, rfl, by simp [sizeLine], ?_⟩
  unfold t__law_kinds_3
  walk_at "x3"
  refine isx_go hn (by decide) (isx_go hn (by decide) (⟨by simp [sizeLine], ?_⟩))
  refine ⟨_, _, rfl, rfl, by simp [sizeLine], ?_⟩
  unfold t__law_kinds_4
  walk_at "x3"
  refine isx_go hn (by decide) (isx_go hn (by decide) (⟨by simp [sizeLine], ?_⟩))
  refine ⟨_, _, rfl, rfl, by simp [sizeLine], ?_⟩
  unfold t__law_kinds_5
  walk_at "x3"
  refine isx_go hn (by decide) (isx_go hn (by decide) (⟨by simp [sizeLine], ?_⟩))
  refine ⟨_, _, rfl, rfl, by simp [sizeLine], ?_⟩
  unfold t__law_kinds_6
  walk_at "x3"
  refine isx_go hn (by decide) (isx_go hn (by decide) (⟨by simp [sizeLine], ?_⟩))
  refine ⟨_, _, rfl, rfl, by simp [sizeLine], ?_⟩
  unfold t__law_kinds_7
  walk_at "x3"
  refine isx_go hn (by decide) (isx_go hn (by decide) (⟨by simp [sizeLine], ?_⟩))
  refine ⟨_, _, rfl, rfl, by simp [sizeLine], ?_⟩
  unfold t__law_kinds_8
  walk_at "x3"
  refine isx_go hn (by decide) (isx_go hn (by decide) (⟨by simp [sizeLine], ?_⟩))
  refine ⟨_, _, rfl, rfl, by simp [sizeLine], ?_⟩
  unfold t__law_kinds_9
  walk_at "x3"
  refine isx_go hn (by decide) (isx_go hn (by decide) (⟨by simp [sizeLine], ?_⟩))
  refine ⟨_, _, rfl, rfl, by simp [sizeLine], ?_⟩
  unfold t__law_kinds_10
  walk_at "x3"
  refine isx_go hn (by decide) (isx_go hn (by decide) (⟨by simp [sizeLine], ?_⟩))
  refine ⟨_, _, rfl, rfl, by simp [sizeLine], ?_⟩
  unfold t__law_kinds_11
  walk_at "x3"
  refine isx_go hn (by decide) (isx_go hn (by decide) (⟨by simp [sizeLine], ?_⟩))
  refine ⟨_, _, rfl, rfl, by simp [sizeLine], ?_⟩
  unfold t__law_kinds_12
  walk_at "x3"
  refine isx_go hn (by decide) (isx_go hn (by decide) (⟨by simp [sizeLine], ?_⟩))
  refine ⟨_, _, rfl, rfl, by simp [sizeLine], ?_⟩
  unfold t__law_kinds_13
  walk_at "x3"
  refine isx_go hn (by decide) (isx_go hn (by decide) (⟨by simp [sizeLine], ?_⟩))
  refine ⟨_, _, rfl, rfl, by simp [sizeLine], ?_⟩
  unfold t__law_kinds_14
  walk_at "x3"
  refine isx_go hn (by decide) (isx_go hn (by decide) (⟨by simp [sizeLine], ?_⟩))
  refine ⟨_, _, rfl, rfl, by simp [sizeLine], ?_⟩
  unfold t__law_kinds_15
  walk_at "x3"
  refine isx_go hn (by decide) (isx_go hn (by decide) (⟨by simp [sizeLine], ?_⟩))
  refine ⟨_, _, rfl, rfl, by simp [sizeLine], ?_⟩
  unfold t__law_kinds_16
  walk_at "x3"
  refine isx_go hn (by decide) (isx_go hn (by decide) (⟨by simp [sizeLine], ?_⟩))
  refine ⟨_, _, rfl, rfl, by simp [sizeLine], ?_⟩
  unfold t__law_kinds_17
  walk_at "x3"
  refine isx_go hn (by decide) (isx_go hn (by decide) (⟨by simp [sizeLine], ?_⟩))
  refine ⟨_, _, rfl, rfl, by simp [sizeLine], ?_⟩
  unfold t__law_kinds_18
  walk_at "x3"
  refine isx_go hn (by decide) (⟨by simp [sizeLine], ?_⟩)
  refine ⟨_, _, rfl, rfl, by simp [sizeLine], ?_⟩
  have fin0 : t__law_kinds_19 (endsOf R) [some (.exc n fs), some (.lst (kindN.map fun m => .bl (p.1.contains m))), none] μ := by
    unfold t__law_kinds_19
    walk_at "x3"
    refine ⟨_, rfl, ?_⟩
    rw [List.length_map]
    refine ⟨by decide, by decide, ?_⟩
    refine lcg_filter (fun k => p.1.contains (kindN.getD k Str.empty)) (fun k : Nat => D.int (0 + (k : Int))) (fun k : Nat => D.int (0 + (k : Int))) trivial (List.range 37) [] (fun k hk => ⟨_, rfl, fun R' hR => ?_, fun _ R' hR => hR⟩) (by simp [sizeLine]) ?_
    · walk_at "x3"
      have hk2 : k < 37 := List.mem_range.mp hk
      refine .inr (.inl ⟨_, _, .bl (p.1.contains (kindN.getD k Str.empty)), rfl, rfl, ?_, hR⟩)
      have hk3 : k < kindN.length := hk2
      have e : kindN[k]? = some (kindN.getD k Str.empty) := by
        rw [List.getD_eq_getElem?_getD, List.getElem?_eq_getElem hk3]
        rfl
      rw [Int.zero_add]
      refine atI_of (Int.natCast_nonneg k) ?_
      rw [Int.toNat_natCast, List.getElem?_map, e]
      rfl
    · exact fin_now h
  exact fin0
end
section
open PySem PySem.Spec L2 L3
local macro_rules | `(tactic| walk_at "x3") => `(tactic| simp only [vCallX, vMetAX, vMakX, vCalX, sRaise, sSeq, sNext, sIf, sRet, sRetN, sSet, sDrop, sSub, sFor, sAsg, sPar2, sPar3, sCont, sFld3, sFld2, sAug, vVar, vC, vNil, vCons, vOp, vB, vChain, vAnd, vOr, vNot, vAndV, vOrV, vNotV, vIf, vUn, vCB, vLst, vTup, vLstT, vCall, vCal, vMak, vMetA, vFld, vSl, vPart, vNoP, vLc, vLcT, vDc, vBM, vBM0, vGet1, vGet2, vItems, vRev, vLRg, vStar, vDZip, iRg1, iRg2, iRgD, iAny, iEnm, iItm, iVal, vDict0, vDict0T, vDict0N, vDisp, vDispT, vPairs,
  List.getElem?_cons_zero, List.getElem?_cons_succ, List.set_cons_zero, List.set_cons_succ, wipe3, endsOf_rt, endsOf_nx, gLt, gLe, gGt, gGe, L3.gSub, gMul, gMod, gDiv, gPow, g2I, g2I0, gN, gT, gGo, Option.bind_some, gAdd_ii, gAdd_ss, gNeg_i, gMax2_ii, gMin2_ii, gLen_s, gEqS_ii, gEqS_ss, gEqS_bb, gNeS_ii, gNeS_ss, gIsN_n, gNotN_n, gSl_s, isNonD, if_true, if_false, Bool.false_eq_true, Bool.not_true, Bool.not_false])
local macro_rules | `(tactic| walk_at "w3") => `(tactic| simp only [vMkX, vMkX0, vMkXB, vExf])
def basesD (p : XP) : List D := [.bl (p.1.contains ("PlanError" : Str)), .bl (p.1.contains ("MissingError" : Str)), .bl (p.1.contains ("StateError" : Str)), .bl (p.2.contains "ValueError"), .bl (p.2.contains "KeyError"), .bl (p.2.contains "LookupError")]
theorem noIdx {n : Str} {p : XP} (h : xtB.lookup n = some p) : p.2.contains "IndexError" = false := by
  have h1 : (xtB.all fun q => !q.2.2.contains "IndexError") = true := by decide +kernel
  have h2 := List.all_eq_true.mp h1 _ (lookup_mem h)
  simpa using h2
def sp__law_bases : Sp3 := fun ds μ R => ∃ n fs p, ds = [.exc n fs] ∧ xtB.lookup n = some p ∧ R (.lst (basesD p)) μ
def t__law_bases_2 : TS3 := (sRet (vOp gAdd (vVar 1) (vLst (vCons (vCB (gIsX (isT xtB tsX)) (vCons (vVar 0) (vCons (vC (.ty "ValueError")) vNil))) (vCons (vCB (gIsX (isT xtB tsX)) (vCons (vVar 0) (vCons (vC (.ty "KeyError")) vNil))) (vCons (vCB (gIsX (isT xtB tsX)) (vCons (vVar 0) (vCons (vC (.ty "LookupError")) vNil))) vNil))))))
def t__law_bases_1 : TS3 := sSeq (sIf (vB (vCB (gIsX (isT xtB tsX)) (vCons (vVar 0) (vCons (vC (.ty "IndexError")) vNil)))) (sRet (vLst vNil)) sNext) t__law_bases_2
def t__law_bases : TS3 := sSeq (sSet 1 (vLst (vCons (vCB (gIsX (isT xtB tsX)) (vCons (vVar 0) (vCons (vC (.cls "PlanError")) vNil))) (vCons (vCB (gIsX (isT xtB tsX)) (vCons (vVar 0) (vCons (vC (.cls "MissingError")) vNil))) (vCons (vCB (gIsX (isT xtB tsX)) (vCons (vVar 0) (vCons (vC (.cls "StateError")) vNil))) vNil))))) t__law_bases_1
theorem pure__law_bases (ds : List D) (μ : Mu) (R : DK) (hl : ds.length = 1) (h : sp__law_bases ds μ R) : t__law_bases (endsOf R) (start3 ["_law_error", "_law_found"] ds) μ := by
  obtain ⟨n, fs, p, rfl, hn, h⟩ := h
  show t__law_bases (endsOf R) [some (.exc n fs), none] μ
  unfold t__law_bases
  walk_at "x3"
  refine isx_go hn (by decide) (isx_go hn (by decide) (isx_go hn (by decide) ⟨by simp [sizeLine], ?_⟩))
  unfold t__law_bases_1
  walk_at "x3"
  refine isx_ty hn (by decide) ?_
  rw [noIdx hn]
  dsimp only
  rw [if_neg (by decide)]
  unfold t__law_bases_2
  walk_at "x3"
  refine isx_ty hn (by decide) (isx_ty hn (by decide) (isx_ty hn (by decide) ⟨by simp [sizeLine], ?_⟩))
  exact ⟨_, _, rfl, rfl, by simp [sizeLine], fin_now h⟩
def dueD (k : Int) : List D := if k < 23 then [.bl true, .bl false, .bl false, .bl true, .bl false, .bl false] else if k < 26 then [.bl false, .bl true, .bl false, .bl false, .bl true, .bl true] else [.bl false, .bl false, .bl true, .bl false, .bl false, .bl true]
def sp__law_due : Sp3 := fun ds μ R => ∃ k, ds = [.int k] ∧ R (.lst (dueD k)) μ
def t__law_due_2 : TS3 := (sRet (vLst (vCons (vC (.bl false)) (vCons (vC (.bl false)) (vCons (vC (.bl true)) (vCons (vC (.bl false)) (vCons (vC (.bl false)) (vCons (vC (.bl true)) vNil))))))))
def t__law_due_1 : TS3 := sSeq (sIf (vB (vOp gLt (vVar 0) (vC (.int 26)))) (sRet (vLst (vCons (vC (.bl false)) (vCons (vC (.bl true)) (vCons (vC (.bl false)) (vCons (vC (.bl false)) (vCons (vC (.bl true)) (vCons (vC (.bl true)) vNil)))))))) sNext) t__law_due_2
def t__law_due : TS3 := sSeq (sIf (vB (vOp gLt (vVar 0) (vC (.int 23)))) (sRet (vLst (vCons (vC (.bl true)) (vCons (vC (.bl false)) (vCons (vC (.bl false)) (vCons (vC (.bl true)) (vCons (vC (.bl false)) (vCons (vC (.bl false)) vNil)))))))) sNext) t__law_due_1
theorem pure__law_due (ds : List D) (μ : Mu) (R : DK) (hl : ds.length = 1) (h : sp__law_due ds μ R) : t__law_due (endsOf R) (start3 ["_law_k"] ds) μ := by
  obtain ⟨k, rfl, h⟩ := h
  show t__law_due (endsOf R) [some (.int k)] μ
  unfold dueD at h
  unfold t__law_due
  walk_at "x3"
  by_cases h1 : k < 23
  · rw [if_pos h1] at h
    rw [if_pos (decide_eq_true h1)]
    exact ⟨by simp [sizeLine], fin_now h⟩
  · rw [if_neg h1] at h
    rw [if_neg (by simpa using h1)]
    unfold t__law_due_1
    walk_at "x3"
    by_cases h2 : k < 26
    · rw [if_pos h2] at h
      rw [if_pos (decide_eq_true h2)]
      exact ⟨by simp [sizeLine], fin_now h⟩
    · rw [if_neg h2] at h
      rw [if_neg (by simpa using h2)]
      unfold t__law_due_2
      walk_at "x3"
      exact ⟨by simp [sizeLine], fin_now h⟩
def inI (k : Int) (l : List Int) : Bool := inD (.int k) (l.map D.int)
def whichF (k : Int) : Str × List Str := if inI k [2, 23, 25] then ("name", xns_name) else if inI k [7, 9] then ("members", xns_members) else if k = 19 then ("bound", xns_bound) else if inI k [24, 26, 31, 32] then ("index", xns_index) else if inI k [27, 28] then ("value", xns_value) else if k = 29 then ("total", xns_total) else if k = 30 then ("event", xns_event) else ("value", xns_value)
theorem which_of {k : Nat} {n f : Str} (h : madeN[k]? = some (n, f)) : f = (whichF k).1 ∧ n ∈ (whichF k).2 := by
  have h1 : ((List.range 33).all fun k => match madeN[k]? with | some (n, f) => f == (whichF k).1 && (whichF k).2.contains n | none => true) = true := by decide +kernel
  have hk : k < 33 := (List.getElem?_eq_some_iff.mp h).1
  have h2 := List.all_eq_true.mp h1 k (List.mem_range.mpr hk)
  rw [h] at h2
  simp only [Bool.and_eq_true, beq_iff_eq, List.contains_iff_mem] at h2
  exact h2
def sp__law_field : Sp3 := fun ds μ R => ∃ n f d k, ds = [.exc n [(f, d)], .int ((k : Nat) : Int)] ∧ madeN[k]? = some (n, f) ∧ R d μ
def t__law_field_7 : TS3 := (sRet (vExf xns_value "value" (vVar 0)))
def t__law_field_6 : TS3 := sSeq (sIf (vB (vOp gEqS (vVar 1) (vC (.int 30)))) (sRet (vExf xns_event "event" (vVar 0))) sNext) t__law_field_7
def t__law_field_5 : TS3 := sSeq (sIf (vB (vOp gEqS (vVar 1) (vC (.int 29)))) (sRet (vExf xns_total "total" (vVar 0))) sNext) t__law_field_6
def t__law_field_4 : TS3 := sSeq (sIf (vB (vOp (gIn false) (vVar 1) (vTup (vCons (vC (.int 27)) (vCons (vC (.int 28)) vNil))))) (sRet (vExf xns_value "value" (vVar 0))) sNext) t__law_field_5
def t__law_field_3 : TS3 := sSeq (sIf (vB (vOp (gIn false) (vVar 1) (vTup (vCons (vC (.int 24)) (vCons (vC (.int 26)) (vCons (vC (.int 31)) (vCons (vC (.int 32)) vNil))))))) (sRet (vExf xns_index "index" (vVar 0))) sNext) t__law_field_4
def t__law_field_2 : TS3 := sSeq (sIf (vB (vOp gEqS (vVar 1) (vC (.int 19)))) (sRet (vExf xns_bound "bound" (vVar 0))) sNext) t__law_field_3
def t__law_field_1 : TS3 := sSeq (sIf (vB (vOp (gIn false) (vVar 1) (vTup (vCons (vC (.int 7)) (vCons (vC (.int 9)) vNil))))) (sRet (vExf xns_members "members" (vVar 0))) sNext) t__law_field_2
def t__law_field : TS3 := sSeq (sIf (vB (vOp (gIn false) (vVar 1) (vTup (vCons (vC (.int 2)) (vCons (vC (.int 23)) (vCons (vC (.int 25)) vNil)))))) (sRet (vExf xns_name "name" (vVar 0))) sNext) t__law_field_1
theorem exf_go {ns : List Str} {n f : Str} {d : D} {i : Nat} {δ : St3} {μ : Mu} {R : DK} (h0 : δ[i]? = some (some (.exc n [(f, d)]))) (hn : n ∈ ns) (h : R d μ) : vExf ns f (vVar i) δ μ R := by
  unfold vExf vVar
  rw [h0]
  exact ⟨n, _, d, rfl, hn, by simp, h⟩
theorem pure__law_field (ds : List D) (μ : Mu) (R : DK) (hl : ds.length = 2) (h : sp__law_field ds μ R) : t__law_field (endsOf R) (start3 ["_law_error", "_law_k"] ds) μ := by
  obtain ⟨n, f, d, k, rfl, hk, h⟩ := h
  show t__law_field (endsOf R) [some (.exc n [(f, d)]), some (.int k)] μ
  obtain ⟨ef, hn⟩ := which_of hk
  unfold whichF at ef hn
  unfold t__law_field
  walk_at "x3"
  refine ⟨by simp [sizeLine], .inr (.inl ⟨_, rfl, rfl, by decide, ?_⟩)⟩
  show (if inI k [2, 23, 25] = true then _ else _)
  cases b1 : inI k [2, 23, 25] with
  | true =>
    rw [b1, if_pos rfl] at ef hn
    cases ef
    exact exf_go rfl hn (fin_now h)
  | false =>
  rw [b1, if_neg (by decide)] at ef hn
  rw [if_neg (by decide)]
  unfold t__law_field_1
  walk_at "x3"
  refine ⟨by simp [sizeLine], .inr (.inl ⟨_, rfl, rfl, by decide, ?_⟩)⟩
  show (if inI k [7, 9] = true then _ else _)
  cases b2 : inI k [7, 9] with
  | true =>
    rw [b2, if_pos rfl] at ef hn
    cases ef
    exact exf_go rfl hn (fin_now h)
  | false =>
  rw [b2, if_neg (by decide)] at ef hn
  rw [if_neg (by decide)]
  unfold t__law_field_2
  walk_at "x3"
  by_cases b3 : (k : Int) = 19
  · rw [if_pos b3] at ef hn
    rw [if_pos (by simpa using b3)]
    cases ef
    exact exf_go rfl hn (fin_now h)
  rw [if_neg b3] at ef hn
  rw [if_neg (by simpa using b3)]
  unfold t__law_field_3
  walk_at "x3"
  refine ⟨by simp [sizeLine], .inr (.inl ⟨_, rfl, rfl, by decide, ?_⟩)⟩
  show (if inI k [24, 26, 31, 32] = true then _ else _)
  cases b4 : inI k [24, 26, 31, 32] with
  | true =>
    rw [b4, if_pos rfl] at ef hn
    cases ef
    exact exf_go rfl hn (fin_now h)
  | false =>
  rw [b4, if_neg (by decide)] at ef hn
  rw [if_neg (by decide)]
  unfold t__law_field_4
  walk_at "x3"
  refine ⟨by simp [sizeLine], .inr (.inl ⟨_, rfl, rfl, by decide, ?_⟩)⟩
  show (if inI k [27, 28] = true then _ else _)
  cases b5 : inI k [27, 28] with
  | true =>
    rw [b5, if_pos rfl] at ef hn
    cases ef
    exact exf_go rfl hn (fin_now h)
  | false =>
  rw [b5, if_neg (by decide)] at ef hn
  rw [if_neg (by decide)]
  unfold t__law_field_5
  walk_at "x3"
  by_cases b6 : (k : Int) = 29
  · rw [if_pos b6] at ef hn
    rw [if_pos (by simpa using b6)]
    cases ef
    exact exf_go rfl hn (fin_now h)
  rw [if_neg b6] at ef hn
  rw [if_neg (by simpa using b6)]
  unfold t__law_field_6
  walk_at "x3"
  by_cases b7 : (k : Int) = 30
  · rw [if_pos b7] at ef hn
    rw [if_pos (by simpa using b7)]
    cases ef
    exact exf_go rfl hn (fin_now h)
  rw [if_neg b7] at ef hn
  rw [if_neg (by simpa using b7)]
  unfold t__law_field_7
  walk_at "x3"
  cases ef
  exact exf_go rfl hn (fin_now h)
def fixV : List D := [.non, .bl true, .int 0, .int 7, .int (-3), .int (10 ^ 29), .str "", .str "load", .tup [], .tup [.str "a", .str "b", .int 2]]
def VOk (μ : Mu) (d : D) : Prop := d ∈ fixV ∨ (∃ q xs, d = .ref q ∧ μ q = some (.lst xs) ∧ (xs = [] ∨ xs = [.str "a", .int 1])) ∨ (∃ q ks, d = .ref q ∧ μ q = some (.dct ks) ∧ (ks = [] ∨ ks = [(.inr "a", .int 1)])) ∨ (∃ q, d = .tup [.ref q, .dct [(.inr "b", .int 2)]] ∧ μ q = some (.lst [.int 1]))
def sp__law_value : Sp3 := fun ds μ R => ∃ b n, ds = [.ref b] ∧ Box μ b n ∧ n < 1000 ∧ ∀ d μ', VOk μ' d → R d μ'
def t__law_value_1 : TS3 := (sRet (vOp gAt (vVar 1) (vCall 2 sp__law_take (vCons (vVar 0) (vCons (vC (.int 15)) vNil)))))
def t__law_value : TS3 := sSeq (sSet 1 (vLst (vCons (vC .non) (vCons (vC (.bl true)) (vCons (vC (.int 0)) (vCons (vC (.int 7)) (vCons (vUn gNeg (vC (.int 3))) (vCons (vOp gPow (vC (.int 10)) (vC (.int 29))) (vCons (vC (.str "")) (vCons (vC (.str "load")) (vCons (vTup vNil) (vCons (vTup (vCons (vC (.str "a")) (vCons (vC (.str "b")) (vCons (vC (.int 2)) vNil)))) (vCons (vLstT vNil) (vCons (vLstT (vCons (vC (.str "a")) (vCons (vC (.int 1)) vNil))) (vCons vDict0T (vCons (vDispT [((vC (.str "a")), (vC (.int 1)))]) (vCons (vTup (vCons (vLstT (vCons (vC (.int 1)) vNil)) (vCons (vDisp [((vC (.str "b")), (vC (.int 2)))]) vNil))) vNil))))))))))))))))) t__law_value_1
theorem pure__law_value (ds : List D) (μ : Mu) (R : DK) (hl : ds.length = 1) (h : sp__law_value ds μ R) : t__law_value (endsOf R) (start3 ["_law_box_here", "_law_some"] ds) μ := by
  obtain ⟨b, n, rfl, bx, hn, h⟩ := h
  show t__law_value (endsOf R) [some (.ref b), none] μ
  unfold t__law_value
  walk_at "x3"
  have sl : ∀ n : Nat, n ≤ 20 → n ≤ sizeLine := by
    intro n hn
    have : sizeLine = 16777216 := by decide
    omega
  refine ⟨⟨by decide, by decide, by decide⟩, sl _ (by simp), sl _ (by simp), sl _ (by simp), fun q1 h1 => ⟨sl _ (by simp), fun q2 h2 q3 h3 => ⟨_, rfl, by decide, fun q4 h4 => ⟨sl _ (by simp), fun q5 h5 => ⟨_, rfl, by decide, sl _ (by simp), sl _ (by simp), ?_⟩⟩⟩⟩⟩
  obtain ⟨c0, c1, c2, eb, k⟩ := bx
  have n21 : q2 ≠ q1 := fun z => by rw [z, mset_same] at h2; cases h2
  have n31 : q3 ≠ q1 ∧ q3 ≠ q2 := by
    refine ⟨fun z => ?_, fun z => ?_⟩
    · rw [z, mset_ne n21.symm, mset_same] at h3; cases h3
    · rw [z, mset_same] at h3; cases h3
  have n41 : q4 ≠ q1 ∧ q4 ≠ q2 ∧ q4 ≠ q3 := by
    refine ⟨fun z => ?_, fun z => ?_, fun z => ?_⟩
    · rw [z, mset_ne n31.1.symm, mset_ne n21.symm, mset_same] at h4; cases h4
    · rw [z, mset_ne n31.2.symm, mset_same] at h4; cases h4
    · rw [z, mset_same] at h4; cases h4
  have n51 : q5 ≠ q1 ∧ q5 ≠ q2 ∧ q5 ≠ q3 ∧ q5 ≠ q4 := by
    refine ⟨fun z => ?_, fun z => ?_, fun z => ?_, fun z => ?_⟩
    · rw [z, mset_ne n41.1.symm, mset_ne n31.1.symm, mset_ne n21.symm, mset_same] at h5; cases h5
    · rw [z, mset_ne n41.2.1.symm, mset_ne n31.2.symm, mset_same] at h5; cases h5
    · rw [z, mset_ne n41.2.2.symm, mset_same] at h5; cases h5
    · rw [z, mset_same] at h5; cases h5
  have b1 : b ≠ q1 := fun z => by rw [← z, eb] at h1; cases h1
  have b2 : b ≠ q2 := fun z => by rw [← z, mset_ne b1, eb] at h2; cases h2
  have b3 : b ≠ q3 := fun z => by rw [← z, mset_ne b2, mset_ne b1, eb] at h3; cases h3
  have b4 : b ≠ q4 := fun z => by rw [← z, mset_ne b3, mset_ne b2, mset_ne b1, eb] at h4; cases h4
  have b5 : b ≠ q5 := fun z => by rw [← z, mset_ne b4, mset_ne b3, mset_ne b2, mset_ne b1, eb] at h5; cases h5
  unfold t__law_value_1
  walk_at "x3"
  refine ⟨rfl, b, 15, n, rfl, ⟨c0, c1, c2, by rw [mset_ne b5, mset_ne b4, mset_ne b3, mset_ne b2, mset_ne b1]; exact eb, k⟩, by omega, by decide, by decide, fun r μ1 r0 r1 o1 _ => ?_⟩
  have at1 : μ1 q1 = some (.lst []) := by rw [o1 q1 b1.symm, mset_ne n51.1.symm, mset_ne n41.1.symm, mset_ne n31.1.symm, mset_ne n21.symm, mset_same]
  have at2 : μ1 q2 = some (.lst [.str "a", .int 1]) := by rw [o1 q2 b2.symm, mset_ne n51.2.1.symm, mset_ne n41.2.1.symm, mset_ne n31.2.symm, mset_same]
  have at3 : μ1 q3 = some (.dct []) := by rw [o1 q3 b3.symm, mset_ne n51.2.2.1.symm, mset_ne n41.2.2.symm, mset_same]
  have at4 : μ1 q4 = some (.dct [(.inr "a", .int 1)]) := by rw [o1 q4 b4.symm, mset_ne n51.2.2.2.symm, mset_same]; rfl
  have at5 : μ1 q5 = some (.lst [.int 1]) := by rw [o1 q5 b5.symm, mset_same]
  have pick : ∀ (xs : List D) (i : Nat) (d : D), r = (i : Int) → xs[i]? = some d → VOk μ1 d → gAt (.lst xs) (.int r) μ1 fun d μ => fin R d μ := fun xs i d e hd v => by
    subst e
    exact .inr (.inl ⟨xs, _, d, rfl, rfl, atI_of (Int.natCast_nonneg i) (by rw [Int.toNat_natCast]; exact hd), fin_now (h d μ1 v)⟩)
  have hc : r = 0 ∨ r = 1 ∨ r = 2 ∨ r = 3 ∨ r = 4 ∨ r = 5 ∨ r = 6 ∨ r = 7 ∨ r = 8 ∨ r = 9 ∨ r = 10 ∨ r = 11 ∨ r = 12 ∨ r = 13 ∨ r = 14 := by omega
  have fx : ∀ (i : Nat) (d : D), fixV[i]? = some d → VOk μ1 d := fun i d e => .inl (List.mem_of_getElem? e)
  rcases hc with e | e | e | e | e | e | e | e | e | e | e | e | e | e | e
  · exact pick _ 0 _ e rfl (fx 0 _ rfl)
  · exact pick _ 1 _ e rfl (fx 1 _ rfl)
  · exact pick _ 2 _ e rfl (fx 2 _ rfl)
  · exact pick _ 3 _ e rfl (fx 3 _ rfl)
  · exact pick _ 4 _ e rfl (fx 4 _ rfl)
  · exact pick _ 5 _ e rfl (fx 5 _ rfl)
  · exact pick _ 6 _ e rfl (fx 6 _ rfl)
  · exact pick _ 7 _ e rfl (fx 7 _ rfl)
  · exact pick _ 8 _ e rfl (fx 8 _ rfl)
  · exact pick _ 9 _ e rfl (fx 9 _ rfl)
  · exact pick _ 10 _ e rfl (.inr (.inl ⟨q1, _, rfl, at1, .inl rfl⟩))
  · exact pick _ 11 _ e rfl (.inr (.inl ⟨q2, _, rfl, at2, .inr rfl⟩))
  · exact pick _ 12 _ e rfl (.inr (.inr (.inl ⟨q3, _, rfl, at3, .inl rfl⟩)))
  · exact pick _ 13 _ e rfl (.inr (.inr (.inl ⟨q4, _, rfl, at4, .inr rfl⟩)))
  · exact pick _ 14 _ e rfl (.inr (.inr (.inr ⟨q5, rfl, at5⟩)))
end
end C1
namespace K03
open PySem PySem.Spec L2 L3 C1
local macro_rules | `(tactic| walk_at "l3") => `(tactic| simp only [sSeq, sNext, sIf, sRet, sRetN, sSet, sDrop, sSub, sFor, sAsg, sPar2, sPar3, sCont, sFld3, sFld2, sAug, vVar, vC, vNil, vCons, vOp, vB, vChain, vAnd, vOr, vNot, vAndV, vOrV, vNotV, vIf, vUn, vCB, vLst, vTup, vLstT, vCall, vCal, vMak, vMetA, vFld, vSl, vPart, vNoP, vLc, vLcT, vDc, vBM, vBM0, vGet1, vGet2, vItems, vRev, vLRg, vStar, vDZip, iRg1, iRg2, iRgD, iAny, iEnm, iItm, iVal, vDict0, vDict0T, vDict0N, vDisp, vDispT, vPairs,
  List.getElem?_cons_zero, List.getElem?_cons_succ, List.set_cons_zero, List.set_cons_succ, wipe3, endsOf_rt, endsOf_nx, gLt, gLe, gGt, gGe, L3.gSub, gMul, gMod, gDiv, gPow, g2I, g2I0, gN, gT, gGo, Option.bind_some, gAdd_ii, gAdd_ss, gNeg_i, gMax2_ii, gMin2_ii, gLen_s, gEqS_ii, gEqS_ss, gEqS_bb, gNeS_ii, gNeS_ss, gIsN_n, gNotN_n, gSl_s, isNonD, if_true, if_false, Bool.false_eq_true, Bool.not_true, Bool.not_false])
local macro_rules | `(tactic| walk_at "x3") => `(tactic| simp only [vCallX, vMetAX, vMakX, vCalX, sRaise, sSeq, sNext, sIf, sRet, sRetN, sSet, sDrop, sSub, sFor, sAsg, sPar2, sPar3, sCont, sFld3, sFld2, sAug, vVar, vC, vNil, vCons, vOp, vB, vChain, vAnd, vOr, vNot, vAndV, vOrV, vNotV, vIf, vUn, vCB, vLst, vTup, vLstT, vCall, vCal, vMak, vMetA, vFld, vSl, vPart, vNoP, vLc, vLcT, vDc, vBM, vBM0, vGet1, vGet2, vItems, vRev, vLRg, vStar, vDZip, iRg1, iRg2, iRgD, iAny, iEnm, iItm, iVal, vDict0, vDict0T, vDict0N, vDisp, vDispT, vPairs,
  List.getElem?_cons_zero, List.getElem?_cons_succ, List.set_cons_zero, List.set_cons_succ, wipe3, endsOf_rt, endsOf_nx, gLt, gLe, gGt, gGe, L3.gSub, gMul, gMod, gDiv, gPow, g2I, g2I0, gN, gT, gGo, Option.bind_some, gAdd_ii, gAdd_ss, gNeg_i, gMax2_ii, gMin2_ii, gLen_s, gEqS_ii, gEqS_ss, gEqS_bb, gNeS_ii, gNeS_ss, gIsN_n, gNotN_n, gSl_s, isNonD, if_true, if_false, Bool.false_eq_true, Bool.not_true, Bool.not_false])
local macro_rules | `(tactic| walk_at "w3") => `(tactic| simp only [vMkX, vMkX0, vMkXB, vExf])
def sp_law : Sp3 := fun ds μ R => ∃ ns : List Int, ds = [.scr (ns.map D.int)] ∧ ns.length ≤ 63 ∧ ∀ μ', R (.bl true) μ'
def t_law_3 : TS3 := (sRet (vC (.bl true)))
def t_law_2 : TS3 := sSeq (sFor (iEnm (vCons (vLst (vCons (vMkXB "PlanError" (vCons (vC (.str "a")) vNil)) (vCons (vMkXB "MissingError" (vCons (vC (.str "a")) vNil)) (vCons (vMkXB "StateError" (vCons (vC (.str "a")) vNil)) vNil)))) vNil)) (gT [(gN 1), (gN 6)]) (sIf (vOr (vB (vOp gNeD (vCall 1 sp__law_kinds (vCons (vVar 6) vNil)) (vLst vNil))) (vB (vOp gNeD (vCall 1 sp__law_bases (vCons (vVar 6) vNil)) (vCall 1 sp__law_due (vCons (vOp gAt (vLst (vCons (vC (.int 0)) (vCons (vC (.int 23)) (vCons (vC (.int 26)) vNil)))) (vVar 1)) vNil))))) (sRet (vC (.bl false))) sNext)) t_law_3
def t_law_1 : TS3 := sSeq (sFor (iEnm (vCons (vLst (vCons (vMkX0 "NotPossible") (vCons (vMkX0 "NoRun") (vCons (vMkX0 "NothingToUndo") (vCons (vMkX0 "NothingToRedo") vNil))))) vNil)) (gT [(gN 1), (gN 6)]) (sIf (vOr (vB (vOp gNeD (vCall 1 sp__law_kinds (vCons (vVar 6) vNil)) (vLst (vCons (vOp gAdd (vC (.int 33)) (vVar 1)) vNil)))) (vB (vOp gNeD (vCall 1 sp__law_bases (vCons (vVar 6) vNil)) (vCall 1 sp__law_due (vCons (vC (.int 26)) vNil))))) (sRet (vC (.bl false))) sNext)) t_law_2
def t_law : TS3 := sSeq (sFor (iRg1 (vCons (vCB gMax2 (vCons (vC (.int 2)) (vCons (vCB gMin2 (vCons (vC (.int 12)) (vCons (vCB gLen (vCons (vVar 0) vNil)) vNil))) vNil))) vNil)) (gN 1) (sSeq (sSet 2 (vCall 1 sp__law_box (vCons (vCall 2 sp__law_cell (vCons (vVar 0) (vCons (vVar 1) vNil))) vNil))) (sSeq (sSet 3 (vCall 1 sp__law_value (vCons (vVar 2) vNil))) (sSeq (sSet 4 (vCall 1 sp__law_made (vCons (vVar 3) vNil))) (sSeq (sFor (iEnm (vCons (vVar 4) vNil)) (gT [(gN 5), (gN 6)]) (sIf (vOr (vB (vOp gNeD (vCall 1 sp__law_kinds (vCons (vVar 6) vNil)) (vLst (vCons (vVar 5) vNil)))) (vB (vOp gNeD (vCall 1 sp__law_bases (vCons (vVar 6) vNil)) (vCall 1 sp__law_due (vCons (vVar 5) vNil))))) (sRet (vC (.bl false))) sNext)) (sSeq (sIf (vAnd (vB (vCB gIsi (vCons (vVar 3) (vCons (vC (.ty "tuple")) vNil)))) (vB (vOp gEqS (vCB gLen (vCons (vVar 3) vNil)) (vC (.int 2))))) (sDrop (vBM "list" gApp (vOp gAt (vVar 3) (vC (.int 0))) (vCons (vC (.str "late")) vNil))) sNext) (sSeq (sIf (vB (vCB gIsi (vCons (vVar 3) (vCons (vC (.ty "list")) vNil)))) (sDrop (vBM "list" gApp (vVar 3) (vCons (vC (.str "late")) vNil))) sNext) (sSeq (sIf (vB (vCB gIsi (vCons (vVar 3) (vCons (vC (.ty "dict")) vNil)))) (sSub gSet (vC (.int 1)) (vVar 3) (vC (.str "late"))) sNext) (sIf (vB (vOp gNeD (vLc (iEnm (vCons (vVar 4) vNil)) (gT [(gN 5), (gN 6)]) (vB (vOp gNeS (vCB gReprX (vCons (vCall 2 sp__law_field (vCons (vVar 6) (vCons (vVar 5) vNil))) vNil)) (vCB gReprX (vCons (vVar 3) vNil)))) (vVar 5) [5, 6]) (vLst vNil))) (sRet (vC (.bl false))) sNext))))))))) t_law_1
def tA : TS3 := (sSeq (sIf (vAnd (vB (vCB gIsi (vCons (vVar 3) (vCons (vC (.ty "tuple")) vNil)))) (vB (vOp gEqS (vCB gLen (vCons (vVar 3) vNil)) (vC (.int 2))))) (sDrop (vBM "list" gApp (vOp gAt (vVar 3) (vC (.int 0))) (vCons (vC (.str "late")) vNil))) sNext) (sSeq (sIf (vB (vCB gIsi (vCons (vVar 3) (vCons (vC (.ty "list")) vNil)))) (sDrop (vBM "list" gApp (vVar 3) (vCons (vC (.str "late")) vNil))) sNext) (sSeq (sIf (vB (vCB gIsi (vCons (vVar 3) (vCons (vC (.ty "dict")) vNil)))) (sSub gSet (vC (.int 1)) (vVar 3) (vC (.str "late"))) sNext) (sIf (vB (vOp gNeD (vLc (iEnm (vCons (vVar 4) vNil)) (gT [(gN 5), (gN 6)]) (vB (vOp gNeS (vCB gReprX (vCons (vCall 2 sp__law_field (vCons (vVar 6) (vCons (vVar 5) vNil))) vNil)) (vCB gReprX (vCons (vVar 3) vNil)))) (vVar 5) [5, 6]) (vLst vNil))) (sRet (vC (.bl false))) sNext))))
def tB : TS3 := (sSeq (sIf (vB (vCB gIsi (vCons (vVar 3) (vCons (vC (.ty "list")) vNil)))) (sDrop (vBM "list" gApp (vVar 3) (vCons (vC (.str "late")) vNil))) sNext) (sSeq (sIf (vB (vCB gIsi (vCons (vVar 3) (vCons (vC (.ty "dict")) vNil)))) (sSub gSet (vC (.int 1)) (vVar 3) (vC (.str "late"))) sNext) (sIf (vB (vOp gNeD (vLc (iEnm (vCons (vVar 4) vNil)) (gT [(gN 5), (gN 6)]) (vB (vOp gNeS (vCB gReprX (vCons (vCall 2 sp__law_field (vCons (vVar 6) (vCons (vVar 5) vNil))) vNil)) (vCB gReprX (vCons (vVar 3) vNil)))) (vVar 5) [5, 6]) (vLst vNil))) (sRet (vC (.bl false))) sNext)))
def tC : TS3 := (sSeq (sIf (vB (vCB gIsi (vCons (vVar 3) (vCons (vC (.ty "dict")) vNil)))) (sSub gSet (vC (.int 1)) (vVar 3) (vC (.str "late"))) sNext) (sIf (vB (vOp gNeD (vLc (iEnm (vCons (vVar 4) vNil)) (gT [(gN 5), (gN 6)]) (vB (vOp gNeS (vCB gReprX (vCons (vCall 2 sp__law_field (vCons (vVar 6) (vCons (vVar 5) vNil))) vNil)) (vCB gReprX (vCons (vVar 3) vNil)))) (vVar 5) [5, 6]) (vLst vNil))) (sRet (vC (.bl false))) sNext))
def s1 : TS3 := (sSet 2 (vCall 1 sp__law_box (vCons (vCall 2 sp__law_cell (vCons (vVar 0) (vCons (vVar 1) vNil))) vNil)))
def s2 : TS3 := (sSet 3 (vCall 1 sp__law_value (vCons (vVar 2) vNil)))
def s3 : TS3 := (sSet 4 (vCall 1 sp__law_made (vCons (vVar 3) vNil)))
def l1 : TS3 := (sFor (iEnm (vCons (vVar 4) vNil)) (gT [(gN 5), (gN 6)]) (sIf (vOr (vB (vOp gNeD (vCall 1 sp__law_kinds (vCons (vVar 6) vNil)) (vLst (vCons (vVar 5) vNil)))) (vB (vOp gNeD (vCall 1 sp__law_bases (vCons (vVar 6) vNil)) (vCall 1 sp__law_due (vCons (vVar 5) vNil))))) (sRet (vC (.bl false))) sNext))
def tD : TS3 := (sIf (vB (vOp gNeD (vLc (iEnm (vCons (vVar 4) vNil)) (gT [(gN 5), (gN 6)]) (vB (vOp gNeS (vCB gReprX (vCons (vCall 2 sp__law_field (vCons (vVar 6) (vCons (vVar 5) vNil))) vNil)) (vCB gReprX (vCons (vVar 3) vNil)))) (vVar 5) [5, 6]) (vLst vNil))) (sRet (vC (.bl false))) sNext)
def kindI (p : XP) : List Nat := (List.range 37).filter fun k => p.1.contains (kindN.getD k Str.empty)
theorem kindD_eq (p : XP) : kindD p = (kindI p).map fun k : Nat => D.int (0 + (k : Int)) := rfl
def basesB (p : XP) : List Bool := [p.1.contains ("PlanError" : Str), p.1.contains ("MissingError" : Str), p.1.contains ("StateError" : Str), p.2.contains "ValueError", p.2.contains "KeyError", p.2.contains "LookupError"]
def dueB (k : Int) : List Bool := if k < 23 then [true, false, false, true, false, false] else if k < 26 then [false, true, false, false, true, true] else [false, false, true, false, false, true]
theorem basesD_eq (p : XP) : basesD p = (basesB p).map D.bl := rfl
theorem dueD_eq (k : Int) : dueD k = (dueB k).map D.bl := by
  unfold dueD dueB
  split
  · rfl
  · split <;> rfl
def rowB (n : Str) (ks : List Nat) (b : Int) : Bool := match xtB.lookup n with
  | some p => kindI p == ks && basesB p == dueB b
  | none => false
theorem row_of {n : Str} {ks : List Nat} {b : Int} (h : rowB n ks b = true) : ∃ p, xtB.lookup n = some p ∧ kindI p = ks ∧ basesB p = dueB b := by
  unfold rowB at h
  split at h
  · rename_i p e
    simp only [Bool.and_eq_true, beq_iff_eq] at h
    exact ⟨p, e, h.1, h.2⟩
  · cases h
theorem made_row {k : Nat} {n f : Str} (h : madeN[k]? = some (n, f)) : ∃ p, xtB.lookup n = some p ∧ kindI p = [k] ∧ basesB p = dueB k := by
  have h1 : ((List.range 33).all fun k => match madeN[k]? with | some (n, f) => rowB n [k] k | none => true) = true := by decide +kernel
  have h2 := List.all_eq_true.mp h1 k (List.mem_range.mpr (List.getElem?_eq_some_iff.mp h).1)
  rw [h] at h2
  exact row_of h2
theorem eqv_int (k : Int) : PyData.eqv (.list [.int k]) (.list [.int k]) = true := by simp [PyData.eqv, PyData.eqvAll]
theorem eqv_nil2 : PyData.eqv (.list []) (.list []) = true := by simp [PyData.eqv, PyData.eqvAll]
theorem ne_int {μ : Mu} {R : DK} {k : Int} (h : R (.bl false) μ) : gNeD (.lst [.int k]) (.lst [.int k]) μ R := ⟨.list [.int k], .list [.int k], .lst (.cons (.int k) .nil), .lst (.cons (.int k) .nil), rfl, rfl, by rw [eqv_int]; exact h⟩
theorem ne_nil {μ : Mu} {R : DK} (h : R (.bl false) μ) : gNeD (.lst []) (.lst []) μ R := ⟨.list [], .list [], .lst .nil, .lst .nil, rfl, rfl, by rw [eqv_nil2]; exact h⟩
theorem shs_bl {μ : Mu} : ∀ bs : List Bool, Shs μ (bs.map D.bl) (bs.map PyData.bool)
  | [] => .nil
  | b :: r => .cons (.bl b) (shs_bl r)
theorem eqv_bls : ∀ bs : List Bool, PyData.eqvAll (bs.map PyData.bool) (bs.map PyData.bool) = true
  | [] => by simp [PyData.eqvAll]
  | b :: r => by
    rw [List.map_cons, PyData.eqvAll, eqv_bls r]
    cases b <;> simp [PyData.eqv]
theorem ne_bls {μ : Mu} {R : DK} (bs : List Bool) (hs : SeqAt.shaped (.list (bs.map PyData.bool)) = true) (h : R (.bl false) μ) : gNeD (.lst (bs.map D.bl)) (.lst (bs.map D.bl)) μ R :=
  ⟨_, _, .lst (shs_bl bs), .lst (shs_bl bs), hs, hs, by
    have e : PyData.eqv (.list (bs.map PyData.bool)) (.list (bs.map PyData.bool)) = true := by rw [PyData.eqv]; exact eqv_bls bs
    rw [e]; exact h⟩
theorem due_shaped (k : Int) : SeqAt.shaped (.list ((dueB k).map PyData.bool)) = true := by
  unfold dueB
  split
  · rfl
  · split <;> rfl
def mkE (d : D) (k : Nat) : D := .tup [.int (k : Nat), .exc (madeN.getD k (Str.empty, Str.empty)).1 [((madeN.getD k (Str.empty, Str.empty)).2, d)]]
theorem enum_made (d : D) : enumD (madeD d) = (List.range 33).map (mkE d) := rfl
theorem made_get {k : Nat} (h : k ∈ List.range 33) : madeN[k]? = some ((madeN.getD k (Str.empty, Str.empty)).1, (madeN.getD k (Str.empty, Str.empty)).2) := by
  have hk : k < madeN.length := List.mem_range.mp h
  rw [List.getD_eq_getElem?_getD, List.getElem?_eq_getElem hk]
  rfl
theorem enm_lst {R : List D → (Mu → Prop) → Mu → Prop} {μ : Mu} {xs : List D} (h : R (enumD xs) (fun _ => True) μ) : enmI R μ [.lst xs] := h
theorem len_rg : ([] : List D).length + (List.range 33).length ≤ sizeLine := by
  have : sizeLine = 16777216 := by decide
  rw [List.length_range, this]
  decide
theorem tD_ok {ms : List D} {μ : Mu} {d : D} {p : PyData} {y0 y1 y2 y5 y6 : Option D} {E : Ends3} (hm : enumD ms = (List.range 33).map (mkE d)) (sh : ShX μ d p) (sw : ShowX p) (h : E.nx [y0, y1, y2, some d, some (.lst ms), y5, y6] μ) : tD E [y0, y1, y2, some d, some (.lst ms), y5, y6] μ := by
  unfold tD
  walk_at "x3"
  refine enm_lst ?_
  rw [hm]
  refine lcg_filter (fun _ => false) (mkE d) (fun k : Nat => D.int (k : Nat)) trivial (List.range 33) [] (fun k hk => ⟨_, rfl, fun R' hR => ?_, fun z => nomatch z⟩) len_rg ?_
  · walk_at "x3"
    refine ⟨rfl, _, _, d, k, rfl, made_get hk, d, p, rfl, sh, sw, d, p, rfl, sh, sw, ?_⟩
    show gNeS (.str p.shown) (.str p.shown) μ _
    rw [gNeS_ss]
    simpa using hR
  · rw [show (List.range 33).filter (fun _ => false) = [] from List.filter_eq_nil_iff.mpr fun _ _ => by decide, List.map_nil, List.append_nil]
    refine ⟨Nat.zero_le _, ne_nil ?_⟩
    walk_at "x3"
    exact h
theorem isi_go {μ : Mu} {R : DK} {d : D} {m n : String} {b : Bool} (e : tyD μ d = some n) (k : kitB n m = some b) (h : R (.bl b) μ) : gIsi [d, .ty m] μ R := ⟨n, b, e, k, h⟩
theorem tC_no {μ : Mu} {d : D} {p : PyData} {n : String} {ms : List D} {y0 y1 y2 y5 y6 : Option D} {E : Ends3} (hm : enumD ms = (List.range 33).map (mkE d)) (sh : ShX μ d p) (sw : ShowX p) (e : tyD μ d = some n) (k : kitB n "dict" = some false) (h : E.nx [y0, y1, y2, some d, some (.lst ms), y5, y6] μ) :
    tC E [y0, y1, y2, some d, some (.lst ms), y5, y6] μ := by
  unfold tC
  walk_at "x3"
  refine isi_go e k ?_
  walk_at "x3"
  exact tD_ok hm sh sw h
theorem tB_no {μ : Mu} {d : D} {n : String} {ms : List D} {y0 y1 y2 y5 y6 : Option D} {E : Ends3} (e : tyD μ d = some n) (k : kitB n "list" = some false) (h : tC E [y0, y1, y2, some d, some (.lst ms), y5, y6] μ) : tB E [y0, y1, y2, some d, some (.lst ms), y5, y6] μ := by
  unfold tB
  walk_at "x3"
  refine isi_go e k ?_
  walk_at "x3"
  exact h
theorem tA_no {μ : Mu} {d : D} {n : String} {ms : List D} {y0 y1 y2 y5 y6 : Option D} {E : Ends3} (e : tyD μ d = some n) (k : kitB n "tuple" = some false) (h : tB E [y0, y1, y2, some d, some (.lst ms), y5, y6] μ) : tA E [y0, y1, y2, some d, some (.lst ms), y5, y6] μ := by
  unfold tA
  walk_at "x3"
  refine isi_go e k ?_
  walk_at "x3"
  exact h
theorem tA_tup {μ : Mu} {xs : List D} {ms : List D} {y0 y1 y2 y5 y6 : Option D} {E : Ends3} (ne : ((xs.length : Nat) : Int) ≠ 2) (h : tB E [y0, y1, y2, some (.tup xs), some (.lst ms), y5, y6] μ) : tA E [y0, y1, y2, some (.tup xs), some (.lst ms), y5, y6] μ := by
  unfold tA
  walk_at "x3"
  refine isi_go rfl rfl ?_
  walk_at "x3"
  refine gLen_of rfl ?_
  walk_at "x3"
  rw [if_neg (by simpa using ne)]
  exact h
theorem show_k (p : PyData) (h : (p.showable && decide (p.depth ≤ 100) && decide (p.shown.length ≤ 1000)) = true) : ShowX p := by
  simp only [Bool.and_eq_true, decide_eq_true_eq] at h
  have : sizeLine = 16777216 := by decide
  exact ⟨h.1.1, h.1.2, by omega⟩
theorem ty_lst {μ : Mu} {q : Addr} {xs : List D} (h : μ q = some (.lst xs)) : tyD μ (.ref q) = some "list" := by
  show (match μ q with | some (.lst _) => some "list" | some (.dct _) => some "dict" | _ => none) = _
  rw [h]
theorem ty_dct {μ : Mu} {q : Addr} {xs : List (Key × D)} (h : μ q = some (.dct xs)) : tyD μ (.ref q) = some "dict" := by
  show (match μ q with | some (.lst _) => some "list" | some (.dct _) => some "dict" | _ => none) = _
  rw [h]
theorem tA_ok {μ : Mu} {d : D} {ms : List D} {y0 y1 y2 y5 y6 : Option D} {E : Ends3} (hm : enumD ms = (List.range 33).map (mkE d)) (v : VOk μ d) (h : ∀ μ', E.nx [y0, y1, y2, some d, some (.lst ms), y5, y6] μ') : tA E [y0, y1, y2, some d, some (.lst ms), y5, y6] μ := by
  rcases v with v | ⟨q, xs, rfl, eq, v⟩ | ⟨q, ks, rfl, eq, v⟩ | ⟨q, rfl, eq⟩
  · unfold fixV at v
    simp only [List.mem_cons, List.not_mem_nil, or_false] at v
    rcases v with rfl | rfl | rfl | rfl | rfl | rfl | rfl | rfl | rfl | rfl
    · exact tA_no rfl rfl (tB_no rfl rfl (tC_no hm .non (show_k _ (by decide +kernel)) rfl rfl (h _)))
    · exact tA_no rfl rfl (tB_no rfl rfl (tC_no hm (.bl _) (show_k _ (by decide +kernel)) rfl rfl (h _)))
    · exact tA_no rfl rfl (tB_no rfl rfl (tC_no hm (.int _) (show_k _ (by decide +kernel)) rfl rfl (h _)))
    · exact tA_no rfl rfl (tB_no rfl rfl (tC_no hm (.int _) (show_k _ (by decide +kernel)) rfl rfl (h _)))
    · exact tA_no rfl rfl (tB_no rfl rfl (tC_no hm (.int _) (show_k _ (by decide +kernel)) rfl rfl (h _)))
    · exact tA_no rfl rfl (tB_no rfl rfl (tC_no hm (.int _) (show_k _ (by decide +kernel)) rfl rfl (h _)))
    · exact tA_no rfl rfl (tB_no rfl rfl (tC_no hm (.str _) (show_k _ (by decide +kernel)) rfl rfl (h _)))
    · exact tA_no rfl rfl (tB_no rfl rfl (tC_no hm (.str _) (show_k _ (by decide +kernel)) rfl rfl (h _)))
    · exact tA_tup (by simp) (tB_no rfl rfl (tC_no hm (.tup .nil) (show_k _ (by decide +kernel)) rfl rfl (h _)))
    · exact tA_tup (by simp) (tB_no rfl rfl (tC_no hm (.tup (.cons (.str _) (.cons (.str _) (.cons (.int _) .nil)))) (show_k _ (by decide +kernel)) rfl rfl (h _)))
  · have ty := ty_lst eq
    refine tA_no ty rfl ?_
    unfold tB
    walk_at "x3"
    refine isi_go ty rfl ?_
    walk_at "x3"
    have lx : xs.length < sizeLine := by
      have : sizeLine = 16777216 := by decide
      rcases v with rfl | rfl <;> simp <;> omega
    refine ⟨.inl ⟨rfl, xs, eq⟩, q, xs, _, rfl, rfl, eq, lx, ?_⟩
    have e2 : mset μ q (.lst (xs ++ [.str "late"])) q = some (.lst (xs ++ [.str "late"])) := mset_same
    have ty2 := ty_lst e2
    rcases v with rfl | rfl
    · exact tC_no hm (.ref e2 (.cons (.str _) .nil)) (show_k _ (by decide +kernel)) ty2 rfl (h _)
    · exact tC_no hm (.ref e2 (.cons (.str _) (.cons (.int _) (.cons (.str _) .nil)))) (show_k _ (by decide +kernel)) ty2 rfl (h _)
  · have ty := ty_dct eq
    refine tA_no ty rfl (tB_no ty rfl ?_)
    unfold tC
    walk_at "x3"
    refine isi_go ty rfl ?_
    walk_at "x3"
    have lk : ks.length < sizeLine := by
      have : sizeLine = 16777216 := by decide
      rcases v with rfl | rfl <;> simp <;> omega
    refine ⟨q, rfl, .inr ⟨.k ks, .k (putD ks (.inr "late") (.int 1)), eq, lk, rfl, ?_⟩⟩
    have e2 : mset μ q (.dct (putD ks (.inr "late") (.int 1))) q = some (.dct (putD ks (.inr "late") (.int 1))) := mset_same
    rcases v with rfl | rfl
    · exact tD_ok hm (.refd e2 (.cons (.int _) .nil)) (show_k _ (by decide +kernel)) (h _)
    · exact tD_ok hm (.refd e2 (.cons (.int _) (.cons (.int _) .nil))) (show_k _ (by decide +kernel)) (h _)
  · unfold tA
    walk_at "x3"
    refine isi_go rfl rfl ?_
    walk_at "x3"
    refine gLen_of rfl ?_
    walk_at "x3"
    rw [if_pos (by simp)]
    refine .inr (.inl ⟨_, 0, .ref q, rfl, rfl, rfl, ?_⟩)
    have l1 : ([.int 1] : List D).length < sizeLine := by
      have : sizeLine = 16777216 := by decide
      rw [this]
      decide
    refine ⟨.inl ⟨rfl, _, eq⟩, q, _, _, rfl, rfl, eq, l1, ?_⟩
    have e2 : mset μ q (.lst ([.int 1] ++ [.str "late"])) q = some (.lst ([.int 1] ++ [.str "late"])) := mset_same
    exact tB_no rfl rfl (tC_no hm (.tup (.cons (.ref e2 (.cons (.int _) (.cons (.str _) .nil))) (.cons (.dct (.cons (.int _) .nil)) .nil))) (show_k _ (by decide +kernel)) rfl rfl (h _))
section
variable {y0 y1 y2 y3 y4 y5 y6 : Option D} {μ : Mu} {E : Ends3} {K : TS3}
theorem one_len {d : D} : [d].length ≤ sizeLine := by
  have : sizeLine = 16777216 := by decide
  rw [this]
  exact Nat.succ_le_of_lt (by decide)
theorem s1_ok {ns : List Int} {k : Nat} (hn : ns.length ≤ 63) (hk : k ≤ 100) (h : ∀ b μ1, Box μ1 b 0 → K E [some (.scr (ns.map D.int)), some (.int k), some (.ref b), y3, y4, y5, y6] μ1) : sSeq s1 K E [some (.scr (ns.map D.int)), some (.int k), y2, y3, y4, y5, y6] μ := by
  unfold s1
  walk_at "x3"
  exact ⟨rfl, ns, k, rfl, hk, fun z => ⟨rfl, z, rfl, fun b μ1 hb o1 b1 => h b μ1 b1⟩⟩
theorem s2_ok {b : Addr} (bx : Box μ b 0) (h : ∀ d μ1, VOk μ1 d → K E [y0, y1, some (.ref b), some d, y4, y5, y6] μ1) : sSeq s2 K E [y0, y1, some (.ref b), y3, y4, y5, y6] μ := by
  unfold s2
  walk_at "x3"
  exact ⟨rfl, b, 0, rfl, bx, by decide, fun d μ2 v => h d μ2 v⟩
theorem s3_ok {d : D} (h : K E [y0, y1, y2, some d, some (.lst (madeD d)), y5, y6] μ) : sSeq s3 K E [y0, y1, y2, some d, y4, y5, y6] μ := by
  unfold s3
  walk_at "x3"
  exact ⟨rfl, d, rfl, h⟩
theorem l1_ok {d : D} {ms : List D} (hm : enumD ms = (List.range 33).map (mkE d)) (h : ∀ y5 y6, K E [y0, y1, y2, some d, some (.lst ms), y5, y6] μ) : sSeq l1 K E [y0, y1, y2, some d, some (.lst ms), y5, y6] μ := by
  unfold l1
  walk_at "x3"
  refine enm_lst ?_
  rw [hm]
  refine for_same (List.range 33) (mkE d) (fun δ => ∃ y5 y6, δ = [y0, y1, y2, some d, some (.lst ms), y5, y6]) trivial ⟨y5, y6, rfl⟩ ?_ ?_
  · rintro δ ⟨y5, y6, rfl⟩
    exact h _ _
  · rintro j hj δ ⟨y5, y6, rfl⟩
    refine ⟨_, rfl, fun N hN => ?_⟩
    walk_at "x3"
    obtain ⟨p, hp, e1, e2⟩ := made_row (made_get hj)
    refine ⟨rfl, _, _, p, rfl, hp, ?_⟩
    rw [kindD_eq, e1, List.map_cons, List.map_nil, Int.zero_add]
    refine ⟨one_len, ne_int ?_⟩
    refine ⟨rfl, _, _, p, rfl, hp, rfl, _, rfl, ?_⟩
    rw [basesD_eq, dueD_eq, e2]
    exact ne_bls (dueB j) (due_shaped j) (hN _ ⟨_, _, rfl⟩)
end
def n4 : List Str := [("NotPossible" : Str), ("NoRun" : Str), ("NothingToUndo" : Str), ("NothingToRedo" : Str)]
def n3 : List Str := [("PlanError" : Str), ("MissingError" : Str), ("StateError" : Str)]
def e4 (k : Nat) : D := .tup [.int (k : Nat), .exc (n4.getD k Str.empty) []]
theorem enum4 : enumD [.exc "NotPossible" [], .exc "NoRun" [], .exc "NothingToUndo" [], .exc "NothingToRedo" []] = (List.range 4).map e4 := rfl
theorem row4 {k : Nat} (h : k ∈ List.range 4) : ∃ p, xtB.lookup (n4.getD k Str.empty) = some p ∧ kindI p = [33 + k] ∧ basesB p = dueB 26 := by
  have h1 : ((List.range 4).all fun k => rowB (n4.getD k Str.empty) [33 + k] 26) = true := by decide +kernel
  exact row_of (List.all_eq_true.mp h1 k h)
def e3 (k : Nat) : D := .tup [.int (k : Nat), .exc (n3.getD k Str.empty) []]
theorem enum3 : enumD [.exc "PlanError" [], .exc "MissingError" [], .exc "StateError" []] = (List.range 3).map e3 := rfl
theorem row3 {k : Nat} (h : k ∈ List.range 3) : ∃ p, xtB.lookup (n3.getD k Str.empty) = some p ∧ kindI p = [] ∧ basesB p = dueB (([0, 23, 26] : List Int).getD k 0) := by
  have h1 : ((List.range 3).all fun k => rowB (n3.getD k Str.empty) [] (([0, 23, 26] : List Int).getD k 0)) = true := by decide +kernel
  exact row_of (List.all_eq_true.mp h1 k h)
theorem at3 {j : Nat} (h : j ∈ List.range 3) : ([.int 0, .int 23, .int 26] : List D)[j]? = some (.int (([0, 23, 26] : List Int).getD j 0)) := by
  have h := List.mem_range.mp h
  have : j = 0 ∨ j = 1 ∨ j = 2 := by omega
  rcases this with rfl | rfl | rfl <;> rfl
theorem len3 : ([.int 0, .int 23, .int 26] : List D).length ≤ sizeLine := by
  have : sizeLine = 16777216 := by decide
  rw [this]
  exact Nat.le_of_lt (show 3 < 16777216 by decide)
theorem for4 {g : TG3} {tb K : TS3} {E : Ends3} {δ : St3} {μ : Mu} (h : forW (fun _ => True) g tb { E with nx := K E } ((List.range 4).map e4) δ μ) :
    sSeq (sFor (iEnm (vCons (vLst (vCons (vMkX0 "NotPossible") (vCons (vMkX0 "NoRun") (vCons (vMkX0 "NothingToUndo") (vCons (vMkX0 "NothingToRedo") vNil))))) vNil)) g tb) K E δ μ := by
  have l : ∀ a b c d : D, [a, b, c, d].length ≤ sizeLine := fun a b c d => by
    have : sizeLine = 16777216 := by decide
    rw [this]
    exact Nat.le_of_lt (show 4 < 16777216 by decide)
  unfold sSeq sFor iEnm vCons vLst vMkX0 vNil
  refine ⟨l _ _ _ _, enm_lst ?_⟩
  rw [enum4]
  exact h
theorem for3 {g : TG3} {tb K : TS3} {E : Ends3} {δ : St3} {μ : Mu} (h : forW (fun _ => True) g tb { E with nx := K E } ((List.range 3).map e3) δ μ) :
    sSeq (sFor (iEnm (vCons (vLst (vCons (vMkXB "PlanError" (vCons (vC (.str "a")) vNil)) (vCons (vMkXB "MissingError" (vCons (vC (.str "a")) vNil)) (vCons (vMkXB "StateError" (vCons (vC (.str "a")) vNil)) vNil)))) vNil)) g tb) K E δ μ := by
  have l : ∀ a b c : D, [a, b, c].length ≤ sizeLine := fun a b c => by
    have : sizeLine = 16777216 := by decide
    rw [this]
    exact Nat.le_of_lt (show 3 < 16777216 by decide)
  unfold sSeq sFor iEnm vCons vLst vMkXB vC vNil
  refine ⟨rfl, rfl, rfl, l _ _ _, enm_lst ?_⟩
  rw [enum3]
  exact h
theorem pure_law (ds : List D) (μ : Mu) (R : DK) (hl : ds.length = 1) (h : sp_law ds μ R) : t_law (endsOf R) (start3 ["_law_script", "_law_k", "_law_box_here", "_law_value_here", "_law_errors", "_law_at", "_law_error"] ds) μ := by
  obtain ⟨ns, rfl, hn, h⟩ := h
  show t_law (endsOf R) [some (.scr (ns.map D.int)), none, none, none, none, none, none] μ
  unfold t_law
  show sSeq (sFor _ _ (sSeq s1 (sSeq s2 (sSeq s3 (sSeq l1 tA))))) _ _ _ _
  generalize eb : sSeq s1 (sSeq s2 (sSeq s3 (sSeq l1 tA))) = body
  walk_at "x3"
  refine gLen_of rfl ?_
  walk_at "x3"
  generalize hq : (max 2 (min 12 ((ns.map D.int).length : Int))) = q
  have hq2 : 0 ≤ q ∧ q ≤ 12 := by omega
  refine ⟨by omega, by omega, ?_⟩
  refine for_rg (fun k δ μ' => ∃ y1 y2 y3 y4 y5 y6, δ = [some (.scr (ns.map D.int)), y1, y2, y3, y4, y5, y6]) ⟨none, none, none, none, none, none, rfl⟩ ?_ ?_
  · rintro δ μ' ⟨y1, y2, y3, y4, y5, y6, rfl⟩
    unfold t_law_1
    refine for4 ?_
    refine for_same (List.range 4) e4 (fun δ => ∃ y1 y6, δ = [some (.scr (ns.map D.int)), y1, y2, y3, y4, y5, y6]) trivial ⟨y1, y6, rfl⟩ ?_ ?_
    · rintro δ ⟨y1, y6, rfl⟩
      unfold t_law_2
      refine for3 ?_
      refine for_same (List.range 3) e3 (fun δ => ∃ y1 y6, δ = [some (.scr (ns.map D.int)), y1, y2, y3, y4, y5, y6]) trivial ⟨y1, y6, rfl⟩ ?_ ?_
      · rintro δ ⟨y1, y6, rfl⟩
        unfold t_law_3
        walk_at "x3"
        exact fin_now (h _)
      · rintro j hj δ ⟨y1, y6, rfl⟩
        refine ⟨_, rfl, fun N hN => ?_⟩
        walk_at "x3"
        obtain ⟨p, hp, e1, e2⟩ := row3 hj
        refine ⟨rfl, _, _, p, rfl, hp, ?_⟩
        rw [kindD_eq, e1, List.map_nil]
        refine ⟨Nat.zero_le _, ne_nil ?_⟩
        refine ⟨rfl, _, _, p, rfl, hp, len3, .inr (.inl ⟨_, _, _, rfl, rfl, atI_of (Int.natCast_nonneg j) (by rw [Int.toNat_natCast]; exact at3 hj), ⟨rfl, _, rfl, ?_⟩⟩)⟩
        rw [basesD_eq, dueD_eq, e2]
        exact ne_bls _ (due_shaped _) (hN _ ⟨_, _, rfl⟩)
    · rintro j hj δ ⟨y1, y6, rfl⟩
      refine ⟨_, rfl, fun N hN => ?_⟩
      walk_at "x3"
      obtain ⟨p, hp, e1, e2⟩ := row4 hj
      refine ⟨rfl, _, _, p, rfl, hp, ?_⟩
      rw [kindD_eq, e1, List.map_cons, List.map_nil, Int.zero_add]
      have e : (((33 + j : Nat)) : Int) = 33 + (j : Int) := by omega
      rw [e]
      refine ⟨one_len, ne_int ⟨rfl, _, _, p, rfl, hp, rfl, _, rfl, ?_⟩⟩
      rw [basesD_eq, dueD_eq, e2]
      exact ne_bls _ (due_shaped _) (hN _ ⟨_, _, rfl⟩)
  · rintro k δ μ' hk ⟨y1, y2, y3, y4, y5, y6, rfl⟩ N hN
    subst eb
    simp only [List.set_cons_succ, List.set_cons_zero, Int.zero_add]
    refine s1_ok hn (by omega) fun b μ1 bx => s2_ok bx fun d μ2 v => s3_ok ?_
    have hm := enum_made d
    generalize madeD d = ms at hm ⊢
    refine l1_ok hm fun y5 y6 => tA_ok hm v fun μ3 => hN _ _ ⟨_, _, _, _, _, _, rfl⟩
theorem enter {K : Kn} {H : Hp} {a : Addr} {ns : List Int} (hl : ns.length ≤ 63) (hS : SqL K.K H a (ns.map V.int)) : lift K 1 sp_law [.ref a] H (fun v _ => v = .bl true) fun _ _ _ => False := enter_scr hS ⟨ns, rfl, hl, fun _ => rfl⟩
end K03
namespace K03
open PySem PySem.Spec L2 L3 C1
structure Bl (K : PySem.W.Frag) (mg : Str → Option Value) : Prop where
  b_IndexError : mg "IndexError" = none
  b_KeyError : mg "KeyError" = none
  b_LookupError : mg "LookupError" = none
  b_ValueError : mg "ValueError" = none
  b_dict : mg "dict" = none
  b_enumerate : mg "enumerate" = none
  b_isinstance : mg "isinstance" = none
  b_len : mg "len" = none
  b_list : mg "list" = none
  b_max : mg "max" = none
  b_min : mg "min" = none
  b_range : mg "range" = none
  b_repr : mg "repr" = none
  b_tuple : mg "tuple" = none
  cxn : Cxn K mg xcnB
  isx : ∀ n c b, isT xtB tsX n c = some b → Xc3 K n ∧ isXk K n c b
  xfs_bound : ∀ n ∈ xns_bound, Xf3 K n "bound"
  xfs_event : ∀ n ∈ xns_event, Xf3 K n "event"
  xfs_index : ∀ n ∈ xns_index, Xf3 K n "index"
  xfs_members : ∀ n ∈ xns_members, Xf3 K n "members"
  xfs_name : ∀ n ∈ xns_name, Xf3 K n "name"
  xfs_total : ∀ n ∈ xns_total, Xf3 K n "total"
  xfs_value : ∀ n ∈ xns_value, Xf3 K n "value"
section
variable {P : Program} {w : World} {K : PySem.W.Frag} {mg : Str → Option Value} {base : Heap}
theorem sc_xi_Barred : FnScope ["self", "index"] ["self", "index"] (defScope (inClass (topS 30) 0)) := ⟨rfl, rfl, rfl, by decide +kernel, rfl, by decide +kernel, by decide +kernel⟩
theorem xi_Barred {f C : Addr} {fd : FuncData} {bm : List Value} (xb : XBase K mg "StateError" "LookupError" "LookupError.__init__") (F : Def3 K "__init__" "Barred.__init__" (inClass (topS 30) 0) [] [] f fd) (O : OexG K C bm) (hno : PySem.W.findIn K (.ref C) "index" = some none) (hB : bm.contains (.type "LookupError") = true) : FnG P w K mg base CX0 1 f fd ["self", "index"] (spXI C "index") :=
  xinit_fn (txt := "an event that cannot come") F sc_xi_Barred O hno hB fun cdv A fs s H E => pss_cons (ps_expr (pe_xini xb rfl (pa_cons (pe_var (i := 0) rfl (Or.inl rfl)) (pa_cons pe_str pa_nil)))) (pss_one (ps_xst (pe_var (i := 0) rfl (Or.inl rfl)) (pe_var (i := 1) rfl (Or.inl rfl))))
theorem sc_xi_Duplicate : FnScope ["self", "name"] ["self", "name"] (defScope (inClass (topS 6) 0)) := ⟨rfl, rfl, rfl, by decide +kernel, rfl, by decide +kernel, by decide +kernel⟩
theorem xi_Duplicate {f C : Addr} {fd : FuncData} {bm : List Value} (xb : XBase K mg "PlanError" "ValueError" "ValueError.__init__") (F : Def3 K "__init__" "Duplicate.__init__" (inClass (topS 6) 0) [] [] f fd) (O : OexG K C bm) (hno : PySem.W.findIn K (.ref C) "name" = some none) (hB : bm.contains (.type "ValueError") = true) : FnG P w K mg base CX0 1 f fd ["self", "name"] (spXI C "name") :=
  xinit_fn (txt := "a name that is there already") F sc_xi_Duplicate O hno hB fun cdv A fs s H E => pss_cons (ps_expr (pe_xini xb rfl (pa_cons (pe_var (i := 0) rfl (Or.inl rfl)) (pa_cons pe_str pa_nil)))) (pss_one (ps_xst (pe_var (i := 0) rfl (Or.inl rfl)) (pe_var (i := 1) rfl (Or.inl rfl))))
theorem sc_xi_Endless : FnScope ["self", "event"] ["self", "event"] (defScope (inClass (topS 34) 0)) := ⟨rfl, rfl, rfl, by decide +kernel, rfl, by decide +kernel, by decide +kernel⟩
theorem xi_Endless {f C : Addr} {fd : FuncData} {bm : List Value} (xb : XBase K mg "StateError" "LookupError" "LookupError.__init__") (F : Def3 K "__init__" "Endless.__init__" (inClass (topS 34) 0) [] [] f fd) (O : OexG K C bm) (hno : PySem.W.findIn K (.ref C) "event" = some none) (hB : bm.contains (.type "LookupError") = true) : FnG P w K mg base CX0 1 f fd ["self", "event"] (spXI C "event") :=
  xinit_fn (txt := "an event that can come any number of times") F sc_xi_Endless O hno hB fun cdv A fs s H E => pss_cons (ps_expr (pe_xini xb rfl (pa_cons (pe_var (i := 0) rfl (Or.inl rfl)) (pa_cons pe_str pa_nil)))) (pss_one (ps_xst (pe_var (i := 0) rfl (Or.inl rfl)) (pe_var (i := 1) rfl (Or.inl rfl))))
theorem sc_xi_InvalidAmounts : FnScope ["self", "value"] ["self", "value"] (defScope (inClass (topS 18) 0)) := ⟨rfl, rfl, rfl, by decide +kernel, rfl, by decide +kernel, by decide +kernel⟩
theorem xi_InvalidAmounts {f C : Addr} {fd : FuncData} {bm : List Value} (xb : XBase K mg "PlanError" "ValueError" "ValueError.__init__") (F : Def3 K "__init__" "InvalidAmounts.__init__" (inClass (topS 18) 0) [] [] f fd) (O : OexG K C bm) (hno : PySem.W.findIn K (.ref C) "value" = some none) (hB : bm.contains (.type "ValueError") = true) : FnG P w K mg base CX0 1 f fd ["self", "value"] (spXI C "value") :=
  xinit_fn (txt := "not a dict of amounts") F sc_xi_InvalidAmounts O hno hB fun cdv A fs s H E => pss_cons (ps_expr (pe_xini xb rfl (pa_cons (pe_var (i := 0) rfl (Or.inl rfl)) (pa_cons pe_str pa_nil)))) (pss_one (ps_xst (pe_var (i := 0) rfl (Or.inl rfl)) (pe_var (i := 1) rfl (Or.inl rfl))))
theorem sc_xi_InvalidBounds : FnScope ["self", "value"] ["self", "value"] (defScope (inClass (topS 19) 0)) := ⟨rfl, rfl, rfl, by decide +kernel, rfl, by decide +kernel, by decide +kernel⟩
theorem xi_InvalidBounds {f C : Addr} {fd : FuncData} {bm : List Value} (xb : XBase K mg "PlanError" "ValueError" "ValueError.__init__") (F : Def3 K "__init__" "InvalidBounds.__init__" (inClass (topS 19) 0) [] [] f fd) (O : OexG K C bm) (hno : PySem.W.findIn K (.ref C) "value" = some none) (hB : bm.contains (.type "ValueError") = true) : FnG P w K mg base CX0 1 f fd ["self", "value"] (spXI C "value") :=
  xinit_fn (txt := "not bounds that are asked for") F sc_xi_InvalidBounds O hno hB fun cdv A fs s H E => pss_cons (ps_expr (pe_xini xb rfl (pa_cons (pe_var (i := 0) rfl (Or.inl rfl)) (pa_cons pe_str pa_nil)))) (pss_one (ps_xst (pe_var (i := 0) rfl (Or.inl rfl)) (pe_var (i := 1) rfl (Or.inl rfl))))
theorem sc_xi_InvalidCommand : FnScope ["self", "value"] ["self", "value"] (defScope (inClass (topS 21) 0)) := ⟨rfl, rfl, rfl, by decide +kernel, rfl, by decide +kernel, by decide +kernel⟩
theorem xi_InvalidCommand {f C : Addr} {fd : FuncData} {bm : List Value} (xb : XBase K mg "PlanError" "ValueError" "ValueError.__init__") (F : Def3 K "__init__" "InvalidCommand.__init__" (inClass (topS 21) 0) [] [] f fd) (O : OexG K C bm) (hno : PySem.W.findIn K (.ref C) "value" = some none) (hB : bm.contains (.type "ValueError") = true) : FnG P w K mg base CX0 1 f fd ["self", "value"] (spXI C "value") :=
  xinit_fn (txt := "not a command") F sc_xi_InvalidCommand O hno hB fun cdv A fs s H E => pss_cons (ps_expr (pe_xini xb rfl (pa_cons (pe_var (i := 0) rfl (Or.inl rfl)) (pa_cons pe_str pa_nil)))) (pss_one (ps_xst (pe_var (i := 0) rfl (Or.inl rfl)) (pe_var (i := 1) rfl (Or.inl rfl))))
theorem sc_xi_InvalidCommands : FnScope ["self", "value"] ["self", "value"] (defScope (inClass (topS 22) 0)) := ⟨rfl, rfl, rfl, by decide +kernel, rfl, by decide +kernel, by decide +kernel⟩
theorem xi_InvalidCommands {f C : Addr} {fd : FuncData} {bm : List Value} (xb : XBase K mg "PlanError" "ValueError" "ValueError.__init__") (F : Def3 K "__init__" "InvalidCommands.__init__" (inClass (topS 22) 0) [] [] f fd) (O : OexG K C bm) (hno : PySem.W.findIn K (.ref C) "value" = some none) (hB : bm.contains (.type "ValueError") = true) : FnG P w K mg base CX0 1 f fd ["self", "value"] (spXI C "value") :=
  xinit_fn (txt := "not a list of commands") F sc_xi_InvalidCommands O hno hB fun cdv A fs s H E => pss_cons (ps_expr (pe_xini xb rfl (pa_cons (pe_var (i := 0) rfl (Or.inl rfl)) (pa_cons pe_str pa_nil)))) (pss_one (ps_xst (pe_var (i := 0) rfl (Or.inl rfl)) (pe_var (i := 1) rfl (Or.inl rfl))))
theorem sc_xi_InvalidCounts : FnScope ["self", "value"] ["self", "value"] (defScope (inClass (topS 15) 0)) := ⟨rfl, rfl, rfl, by decide +kernel, rfl, by decide +kernel, by decide +kernel⟩
theorem xi_InvalidCounts {f C : Addr} {fd : FuncData} {bm : List Value} (xb : XBase K mg "PlanError" "ValueError" "ValueError.__init__") (F : Def3 K "__init__" "InvalidCounts.__init__" (inClass (topS 15) 0) [] [] f fd) (O : OexG K C bm) (hno : PySem.W.findIn K (.ref C) "value" = some none) (hB : bm.contains (.type "ValueError") = true) : FnG P w K mg base CX0 1 f fd ["self", "value"] (spXI C "value") :=
  xinit_fn (txt := "not counts of the events") F sc_xi_InvalidCounts O hno hB fun cdv A fs s H E => pss_cons (ps_expr (pe_xini xb rfl (pa_cons (pe_var (i := 0) rfl (Or.inl rfl)) (pa_cons pe_str pa_nil)))) (pss_one (ps_xst (pe_var (i := 0) rfl (Or.inl rfl)) (pe_var (i := 1) rfl (Or.inl rfl))))
theorem sc_xi_InvalidEntry : FnScope ["self", "value"] ["self", "value"] (defScope (inClass (topS 26) 0)) := ⟨rfl, rfl, rfl, by decide +kernel, rfl, by decide +kernel, by decide +kernel⟩
theorem xi_InvalidEntry {f C : Addr} {fd : FuncData} {bm : List Value} (xb : XBase K mg "PlanError" "ValueError" "ValueError.__init__") (F : Def3 K "__init__" "InvalidEntry.__init__" (inClass (topS 26) 0) [] [] f fd) (O : OexG K C bm) (hno : PySem.W.findIn K (.ref C) "value" = some none) (hB : bm.contains (.type "ValueError") = true) : FnG P w K mg base CX0 1 f fd ["self", "value"] (spXI C "value") :=
  xinit_fn (txt := "neither a plan nor a stock") F sc_xi_InvalidEntry O hno hB fun cdv A fs s H E => pss_cons (ps_expr (pe_xini xb rfl (pa_cons (pe_var (i := 0) rfl (Or.inl rfl)) (pa_cons pe_str pa_nil)))) (pss_one (ps_xst (pe_var (i := 0) rfl (Or.inl rfl)) (pe_var (i := 1) rfl (Or.inl rfl))))
theorem sc_xi_InvalidEvents : FnScope ["self", "value"] ["self", "value"] (defScope (inClass (topS 7) 0)) := ⟨rfl, rfl, rfl, by decide +kernel, rfl, by decide +kernel, by decide +kernel⟩
theorem xi_InvalidEvents {f C : Addr} {fd : FuncData} {bm : List Value} (xb : XBase K mg "PlanError" "ValueError" "ValueError.__init__") (F : Def3 K "__init__" "InvalidEvents.__init__" (inClass (topS 7) 0) [] [] f fd) (O : OexG K C bm) (hno : PySem.W.findIn K (.ref C) "value" = some none) (hB : bm.contains (.type "ValueError") = true) : FnG P w K mg base CX0 1 f fd ["self", "value"] (spXI C "value") :=
  xinit_fn (txt := "not a list of events that is asked for") F sc_xi_InvalidEvents O hno hB fun cdv A fs s H E => pss_cons (ps_expr (pe_xini xb rfl (pa_cons (pe_var (i := 0) rfl (Or.inl rfl)) (pa_cons pe_str pa_nil)))) (pss_one (ps_xst (pe_var (i := 0) rfl (Or.inl rfl)) (pe_var (i := 1) rfl (Or.inl rfl))))
theorem sc_xi_InvalidInteger : FnScope ["self", "value"] ["self", "value"] (defScope (inClass (topS 4) 0)) := ⟨rfl, rfl, rfl, by decide +kernel, rfl, by decide +kernel, by decide +kernel⟩
theorem xi_InvalidInteger {f C : Addr} {fd : FuncData} {bm : List Value} (xb : XBase K mg "PlanError" "ValueError" "ValueError.__init__") (F : Def3 K "__init__" "InvalidInteger.__init__" (inClass (topS 4) 0) [] [] f fd) (O : OexG K C bm) (hno : PySem.W.findIn K (.ref C) "value" = some none) (hB : bm.contains (.type "ValueError") = true) : FnG P w K mg base CX0 1 f fd ["self", "value"] (spXI C "value") :=
  xinit_fn (txt := "not an integer that is asked for") F sc_xi_InvalidInteger O hno hB fun cdv A fs s H E => pss_cons (ps_expr (pe_xini xb rfl (pa_cons (pe_var (i := 0) rfl (Or.inl rfl)) (pa_cons pe_str pa_nil)))) (pss_one (ps_xst (pe_var (i := 0) rfl (Or.inl rfl)) (pe_var (i := 1) rfl (Or.inl rfl))))
theorem sc_xi_InvalidLimits : FnScope ["self", "value"] ["self", "value"] (defScope (inClass (topS 10) 0)) := ⟨rfl, rfl, rfl, by decide +kernel, rfl, by decide +kernel, by decide +kernel⟩
theorem xi_InvalidLimits {f C : Addr} {fd : FuncData} {bm : List Value} (xb : XBase K mg "PlanError" "ValueError" "ValueError.__init__") (F : Def3 K "__init__" "InvalidLimits.__init__" (inClass (topS 10) 0) [] [] f fd) (O : OexG K C bm) (hno : PySem.W.findIn K (.ref C) "value" = some none) (hB : bm.contains (.type "ValueError") = true) : FnG P w K mg base CX0 1 f fd ["self", "value"] (spXI C "value") :=
  xinit_fn (txt := "not a dict of limits") F sc_xi_InvalidLimits O hno hB fun cdv A fs s H E => pss_cons (ps_expr (pe_xini xb rfl (pa_cons (pe_var (i := 0) rfl (Or.inl rfl)) (pa_cons pe_str pa_nil)))) (pss_one (ps_xst (pe_var (i := 0) rfl (Or.inl rfl)) (pe_var (i := 1) rfl (Or.inl rfl))))
theorem sc_xi_InvalidLog : FnScope ["self", "value"] ["self", "value"] (defScope (inClass (topS 24) 0)) := ⟨rfl, rfl, rfl, by decide +kernel, rfl, by decide +kernel, by decide +kernel⟩
theorem xi_InvalidLog {f C : Addr} {fd : FuncData} {bm : List Value} (xb : XBase K mg "PlanError" "ValueError" "ValueError.__init__") (F : Def3 K "__init__" "InvalidLog.__init__" (inClass (topS 24) 0) [] [] f fd) (O : OexG K C bm) (hno : PySem.W.findIn K (.ref C) "value" = some none) (hB : bm.contains (.type "ValueError") = true) : FnG P w K mg base CX0 1 f fd ["self", "value"] (spXI C "value") :=
  xinit_fn (txt := "not a list of seen events") F sc_xi_InvalidLog O hno hB fun cdv A fs s H E => pss_cons (ps_expr (pe_xini xb rfl (pa_cons (pe_var (i := 0) rfl (Or.inl rfl)) (pa_cons pe_str pa_nil)))) (pss_one (ps_xst (pe_var (i := 0) rfl (Or.inl rfl)) (pe_var (i := 1) rfl (Or.inl rfl))))
theorem sc_xi_InvalidLogs : FnScope ["self", "value"] ["self", "value"] (defScope (inClass (topS 25) 0)) := ⟨rfl, rfl, rfl, by decide +kernel, rfl, by decide +kernel, by decide +kernel⟩
theorem xi_InvalidLogs {f C : Addr} {fd : FuncData} {bm : List Value} (xb : XBase K mg "PlanError" "ValueError" "ValueError.__init__") (F : Def3 K "__init__" "InvalidLogs.__init__" (inClass (topS 25) 0) [] [] f fd) (O : OexG K C bm) (hno : PySem.W.findIn K (.ref C) "value" = some none) (hB : bm.contains (.type "ValueError") = true) : FnG P w K mg base CX0 1 f fd ["self", "value"] (spXI C "value") :=
  xinit_fn (txt := "not a list of logs that is asked for") F sc_xi_InvalidLogs O hno hB fun cdv A fs s H E => pss_cons (ps_expr (pe_xini xb rfl (pa_cons (pe_var (i := 0) rfl (Or.inl rfl)) (pa_cons pe_str pa_nil)))) (pss_one (ps_xst (pe_var (i := 0) rfl (Or.inl rfl)) (pe_var (i := 1) rfl (Or.inl rfl))))
theorem sc_xi_InvalidName : FnScope ["self", "value"] ["self", "value"] (defScope (inClass (topS 5) 0)) := ⟨rfl, rfl, rfl, by decide +kernel, rfl, by decide +kernel, by decide +kernel⟩
theorem xi_InvalidName {f C : Addr} {fd : FuncData} {bm : List Value} (xb : XBase K mg "PlanError" "ValueError" "ValueError.__init__") (F : Def3 K "__init__" "InvalidName.__init__" (inClass (topS 5) 0) [] [] f fd) (O : OexG K C bm) (hno : PySem.W.findIn K (.ref C) "value" = some none) (hB : bm.contains (.type "ValueError") = true) : FnG P w K mg base CX0 1 f fd ["self", "value"] (spXI C "value") :=
  xinit_fn (txt := "not a name") F sc_xi_InvalidName O hno hB fun cdv A fs s H E => pss_cons (ps_expr (pe_xini xb rfl (pa_cons (pe_var (i := 0) rfl (Or.inl rfl)) (pa_cons pe_str pa_nil)))) (pss_one (ps_xst (pe_var (i := 0) rfl (Or.inl rfl)) (pe_var (i := 1) rfl (Or.inl rfl))))
theorem sc_xi_InvalidNames : FnScope ["self", "value"] ["self", "value"] (defScope (inClass (topS 20) 0)) := ⟨rfl, rfl, rfl, by decide +kernel, rfl, by decide +kernel, by decide +kernel⟩
theorem xi_InvalidNames {f C : Addr} {fd : FuncData} {bm : List Value} (xb : XBase K mg "PlanError" "ValueError" "ValueError.__init__") (F : Def3 K "__init__" "InvalidNames.__init__" (inClass (topS 20) 0) [] [] f fd) (O : OexG K C bm) (hno : PySem.W.findIn K (.ref C) "value" = some none) (hB : bm.contains (.type "ValueError") = true) : FnG P w K mg base CX0 1 f fd ["self", "value"] (spXI C "value") :=
  xinit_fn (txt := "not a list of names that is asked for") F sc_xi_InvalidNames O hno hB fun cdv A fs s H E => pss_cons (ps_expr (pe_xini xb rfl (pa_cons (pe_var (i := 0) rfl (Or.inl rfl)) (pa_cons pe_str pa_nil)))) (pss_one (ps_xst (pe_var (i := 0) rfl (Or.inl rfl)) (pe_var (i := 1) rfl (Or.inl rfl))))
theorem sc_xi_InvalidPlan : FnScope ["self", "value"] ["self", "value"] (defScope (inClass (topS 12) 0)) := ⟨rfl, rfl, rfl, by decide +kernel, rfl, by decide +kernel, by decide +kernel⟩
theorem xi_InvalidPlan {f C : Addr} {fd : FuncData} {bm : List Value} (xb : XBase K mg "PlanError" "ValueError" "ValueError.__init__") (F : Def3 K "__init__" "InvalidPlan.__init__" (inClass (topS 12) 0) [] [] f fd) (O : OexG K C bm) (hno : PySem.W.findIn K (.ref C) "value" = some none) (hB : bm.contains (.type "ValueError") = true) : FnG P w K mg base CX0 1 f fd ["self", "value"] (spXI C "value") :=
  xinit_fn (txt := "not a plan") F sc_xi_InvalidPlan O hno hB fun cdv A fs s H E => pss_cons (ps_expr (pe_xini xb rfl (pa_cons (pe_var (i := 0) rfl (Or.inl rfl)) (pa_cons pe_str pa_nil)))) (pss_one (ps_xst (pe_var (i := 0) rfl (Or.inl rfl)) (pe_var (i := 1) rfl (Or.inl rfl))))
theorem sc_xi_InvalidRun : FnScope ["self", "value"] ["self", "value"] (defScope (inClass (topS 16) 0)) := ⟨rfl, rfl, rfl, by decide +kernel, rfl, by decide +kernel, by decide +kernel⟩
theorem xi_InvalidRun {f C : Addr} {fd : FuncData} {bm : List Value} (xb : XBase K mg "PlanError" "ValueError" "ValueError.__init__") (F : Def3 K "__init__" "InvalidRun.__init__" (inClass (topS 16) 0) [] [] f fd) (O : OexG K C bm) (hno : PySem.W.findIn K (.ref C) "value" = some none) (hB : bm.contains (.type "ValueError") = true) : FnG P w K mg base CX0 1 f fd ["self", "value"] (spXI C "value") :=
  xinit_fn (txt := "not a list of events") F sc_xi_InvalidRun O hno hB fun cdv A fs s H E => pss_cons (ps_expr (pe_xini xb rfl (pa_cons (pe_var (i := 0) rfl (Or.inl rfl)) (pa_cons pe_str pa_nil)))) (pss_one (ps_xst (pe_var (i := 0) rfl (Or.inl rfl)) (pe_var (i := 1) rfl (Or.inl rfl))))
theorem sc_xi_InvalidStock : FnScope ["self", "value"] ["self", "value"] (defScope (inClass (topS 17) 0)) := ⟨rfl, rfl, rfl, by decide +kernel, rfl, by decide +kernel, by decide +kernel⟩
theorem xi_InvalidStock {f C : Addr} {fd : FuncData} {bm : List Value} (xb : XBase K mg "PlanError" "ValueError" "ValueError.__init__") (F : Def3 K "__init__" "InvalidStock.__init__" (inClass (topS 17) 0) [] [] f fd) (O : OexG K C bm) (hno : PySem.W.findIn K (.ref C) "value" = some none) (hB : bm.contains (.type "ValueError") = true) : FnG P w K mg base CX0 1 f fd ["self", "value"] (spXI C "value") :=
  xinit_fn (txt := "not a stock") F sc_xi_InvalidStock O hno hB fun cdv A fs s H E => pss_cons (ps_expr (pe_xini xb rfl (pa_cons (pe_var (i := 0) rfl (Or.inl rfl)) (pa_cons pe_str pa_nil)))) (pss_one (ps_xst (pe_var (i := 0) rfl (Or.inl rfl)) (pe_var (i := 1) rfl (Or.inl rfl))))
theorem sc_xi_InvalidText : FnScope ["self", "value"] ["self", "value"] (defScope (inClass (topS 14) 0)) := ⟨rfl, rfl, rfl, by decide +kernel, rfl, by decide +kernel, by decide +kernel⟩
theorem xi_InvalidText {f C : Addr} {fd : FuncData} {bm : List Value} (xb : XBase K mg "PlanError" "ValueError" "ValueError.__init__") (F : Def3 K "__init__" "InvalidText.__init__" (inClass (topS 14) 0) [] [] f fd) (O : OexG K C bm) (hno : PySem.W.findIn K (.ref C) "value" = some none) (hB : bm.contains (.type "ValueError") = true) : FnG P w K mg base CX0 1 f fd ["self", "value"] (spXI C "value") :=
  xinit_fn (txt := "not a text that is asked for") F sc_xi_InvalidText O hno hB fun cdv A fs s H E => pss_cons (ps_expr (pe_xini xb rfl (pa_cons (pe_var (i := 0) rfl (Or.inl rfl)) (pa_cons pe_str pa_nil)))) (pss_one (ps_xst (pe_var (i := 0) rfl (Or.inl rfl)) (pe_var (i := 1) rfl (Or.inl rfl))))
theorem sc_xi_InvalidTie : FnScope ["self", "value"] ["self", "value"] (defScope (inClass (topS 9) 0)) := ⟨rfl, rfl, rfl, by decide +kernel, rfl, by decide +kernel, by decide +kernel⟩
theorem xi_InvalidTie {f C : Addr} {fd : FuncData} {bm : List Value} (xb : XBase K mg "PlanError" "ValueError" "ValueError.__init__") (F : Def3 K "__init__" "InvalidTie.__init__" (inClass (topS 9) 0) [] [] f fd) (O : OexG K C bm) (hno : PySem.W.findIn K (.ref C) "value" = some none) (hB : bm.contains (.type "ValueError") = true) : FnG P w K mg base CX0 1 f fd ["self", "value"] (spXI C "value") :=
  xinit_fn (txt := "not a tie") F sc_xi_InvalidTie O hno hB fun cdv A fs s H E => pss_cons (ps_expr (pe_xini xb rfl (pa_cons (pe_var (i := 0) rfl (Or.inl rfl)) (pa_cons pe_str pa_nil)))) (pss_one (ps_xst (pe_var (i := 0) rfl (Or.inl rfl)) (pe_var (i := 1) rfl (Or.inl rfl))))
theorem sc_xi_InvalidTies : FnScope ["self", "value"] ["self", "value"] (defScope (inClass (topS 8) 0)) := ⟨rfl, rfl, rfl, by decide +kernel, rfl, by decide +kernel, by decide +kernel⟩
theorem xi_InvalidTies {f C : Addr} {fd : FuncData} {bm : List Value} (xb : XBase K mg "PlanError" "ValueError" "ValueError.__init__") (F : Def3 K "__init__" "InvalidTies.__init__" (inClass (topS 8) 0) [] [] f fd) (O : OexG K C bm) (hno : PySem.W.findIn K (.ref C) "value" = some none) (hB : bm.contains (.type "ValueError") = true) : FnG P w K mg base CX0 1 f fd ["self", "value"] (spXI C "value") :=
  xinit_fn (txt := "not a list of ties that is asked for") F sc_xi_InvalidTies O hno hB fun cdv A fs s H E => pss_cons (ps_expr (pe_xini xb rfl (pa_cons (pe_var (i := 0) rfl (Or.inl rfl)) (pa_cons pe_str pa_nil)))) (pss_one (ps_xst (pe_var (i := 0) rfl (Or.inl rfl)) (pe_var (i := 1) rfl (Or.inl rfl))))
theorem sc_xi_Misfit : FnScope ["self", "index"] ["self", "index"] (defScope (inClass (topS 36) 0)) := ⟨rfl, rfl, rfl, by decide +kernel, rfl, by decide +kernel, by decide +kernel⟩
theorem xi_Misfit {f C : Addr} {fd : FuncData} {bm : List Value} (xb : XBase K mg "StateError" "LookupError" "LookupError.__init__") (F : Def3 K "__init__" "Misfit.__init__" (inClass (topS 36) 0) [] [] f fd) (O : OexG K C bm) (hno : PySem.W.findIn K (.ref C) "index" = some none) (hB : bm.contains (.type "LookupError") = true) : FnG P w K mg base CX0 1 f fd ["self", "index"] (spXI C "index") :=
  xinit_fn (txt := "an event of a log that cannot come") F sc_xi_Misfit O hno hB fun cdv A fs s H E => pss_cons (ps_expr (pe_xini xb rfl (pa_cons (pe_var (i := 0) rfl (Or.inl rfl)) (pa_cons pe_str pa_nil)))) (pss_one (ps_xst (pe_var (i := 0) rfl (Or.inl rfl)) (pe_var (i := 1) rfl (Or.inl rfl))))
theorem sc_xi_NoEntry : FnScope ["self", "name"] ["self", "name"] (defScope (inClass (topS 29) 0)) := ⟨rfl, rfl, rfl, by decide +kernel, rfl, by decide +kernel, by decide +kernel⟩
theorem xi_NoEntry {f C : Addr} {fd : FuncData} {bm : List Value} (xb : XBase K mg "MissingError" "KeyError" "KeyError.__init__") (F : Def3 K "__init__" "NoEntry.__init__" (inClass (topS 29) 0) [] [] f fd) (O : OexG K C bm) (hno : PySem.W.findIn K (.ref C) "name" = some none) (hB : bm.contains (.type "KeyError") = true) : FnG P w K mg base CX0 1 f fd ["self", "name"] (spXI C "name") :=
  xinit_fn (txt := "no plan or stock with this name") F sc_xi_NoEntry O hno hB fun cdv A fs s H E => pss_cons (ps_expr (pe_xini xb rfl (pa_cons (pe_var (i := 0) rfl (Or.inl rfl)) (pa_cons pe_str pa_nil)))) (pss_one (ps_xst (pe_var (i := 0) rfl (Or.inl rfl)) (pe_var (i := 1) rfl (Or.inl rfl))))
theorem sc_xi_NoRun : FnScope ["self"] ["self"] (defScope (inClass (topS 38) 0)) := ⟨rfl, rfl, rfl, by decide +kernel, rfl, by decide +kernel, by decide +kernel⟩
theorem xi_NoRun {f C : Addr} {fd : FuncData} {bm : List Value} (xb : XBase K mg "StateError" "LookupError" "LookupError.__init__") (F : Def3 K "__init__" "NoRun.__init__" (inClass (topS 38) 0) [] [] f fd) (O : OexG K C bm) (hB : bm.contains (.type "LookupError") = true) : FnG P w K mg base CX0 1 f fd ["self"] (spXI0 C) :=
  xinit0_fn (txt := "no plan is run") F sc_xi_NoRun O hB fun cdv A fs s H E => pss_one (ps_expr (pe_xini xb rfl (pa_cons (pe_var (i := 0) rfl (Or.inl rfl)) (pa_cons pe_str pa_nil))))
theorem sc_xi_NoTie : FnScope ["self", "index"] ["self", "index"] (defScope (inClass (topS 28) 0)) := ⟨rfl, rfl, rfl, by decide +kernel, rfl, by decide +kernel, by decide +kernel⟩
theorem xi_NoTie {f C : Addr} {fd : FuncData} {bm : List Value} (xb : XBase K mg "MissingError" "KeyError" "KeyError.__init__") (F : Def3 K "__init__" "NoTie.__init__" (inClass (topS 28) 0) [] [] f fd) (O : OexG K C bm) (hno : PySem.W.findIn K (.ref C) "index" = some none) (hB : bm.contains (.type "KeyError") = true) : FnG P w K mg base CX0 1 f fd ["self", "index"] (spXI C "index") :=
  xinit_fn (txt := "no such tie") F sc_xi_NoTie O hno hB fun cdv A fs s H E => pss_cons (ps_expr (pe_xini xb rfl (pa_cons (pe_var (i := 0) rfl (Or.inl rfl)) (pa_cons pe_str pa_nil)))) (pss_one (ps_xst (pe_var (i := 0) rfl (Or.inl rfl)) (pe_var (i := 1) rfl (Or.inl rfl))))
theorem sc_xi_NotBehind : FnScope ["self", "value"] ["self", "value"] (defScope (inClass (topS 32) 0)) := ⟨rfl, rfl, rfl, by decide +kernel, rfl, by decide +kernel, by decide +kernel⟩
theorem xi_NotBehind {f C : Addr} {fd : FuncData} {bm : List Value} (xb : XBase K mg "StateError" "LookupError" "LookupError.__init__") (F : Def3 K "__init__" "NotBehind.__init__" (inClass (topS 32) 0) [] [] f fd) (O : OexG K C bm) (hno : PySem.W.findIn K (.ref C) "value" = some none) (hB : bm.contains (.type "LookupError") = true) : FnG P w K mg base CX0 1 f fd ["self", "value"] (spXI C "value") :=
  xinit_fn (txt := "a moment that is not behind the other one") F sc_xi_NotBehind O hno hB fun cdv A fs s H E => pss_cons (ps_expr (pe_xini xb rfl (pa_cons (pe_var (i := 0) rfl (Or.inl rfl)) (pa_cons pe_str pa_nil)))) (pss_one (ps_xst (pe_var (i := 0) rfl (Or.inl rfl)) (pe_var (i := 1) rfl (Or.inl rfl))))
theorem sc_xi_NotMoment : FnScope ["self", "value"] ["self", "value"] (defScope (inClass (topS 31) 0)) := ⟨rfl, rfl, rfl, by decide +kernel, rfl, by decide +kernel, by decide +kernel⟩
theorem xi_NotMoment {f C : Addr} {fd : FuncData} {bm : List Value} (xb : XBase K mg "StateError" "LookupError" "LookupError.__init__") (F : Def3 K "__init__" "NotMoment.__init__" (inClass (topS 31) 0) [] [] f fd) (O : OexG K C bm) (hno : PySem.W.findIn K (.ref C) "value" = some none) (hB : bm.contains (.type "LookupError") = true) : FnG P w K mg base CX0 1 f fd ["self", "value"] (spXI C "value") :=
  xinit_fn (txt := "no moment of the plan") F sc_xi_NotMoment O hno hB fun cdv A fs s H E => pss_cons (ps_expr (pe_xini xb rfl (pa_cons (pe_var (i := 0) rfl (Or.inl rfl)) (pa_cons pe_str pa_nil)))) (pss_one (ps_xst (pe_var (i := 0) rfl (Or.inl rfl)) (pe_var (i := 1) rfl (Or.inl rfl))))
theorem sc_xi_NotPossible : FnScope ["self"] ["self"] (defScope (inClass (topS 35) 0)) := ⟨rfl, rfl, rfl, by decide +kernel, rfl, by decide +kernel, by decide +kernel⟩
theorem xi_NotPossible {f C : Addr} {fd : FuncData} {bm : List Value} (xb : XBase K mg "StateError" "LookupError" "LookupError.__init__") (F : Def3 K "__init__" "NotPossible.__init__" (inClass (topS 35) 0) [] [] f fd) (O : OexG K C bm) (hB : bm.contains (.type "LookupError") = true) : FnG P w K mg base CX0 1 f fd ["self"] (spXI0 C) :=
  xinit0_fn (txt := "no moment is possible") F sc_xi_NotPossible O hB fun cdv A fs s H E => pss_one (ps_expr (pe_xini xb rfl (pa_cons (pe_var (i := 0) rfl (Or.inl rfl)) (pa_cons pe_str pa_nil))))
theorem sc_xi_NotSafe : FnScope ["self", "index"] ["self", "index"] (defScope (inClass (topS 37) 0)) := ⟨rfl, rfl, rfl, by decide +kernel, rfl, by decide +kernel, by decide +kernel⟩
theorem xi_NotSafe {f C : Addr} {fd : FuncData} {bm : List Value} (xb : XBase K mg "StateError" "LookupError" "LookupError.__init__") (F : Def3 K "__init__" "NotSafe.__init__" (inClass (topS 37) 0) [] [] f fd) (O : OexG K C bm) (hno : PySem.W.findIn K (.ref C) "index" = some none) (hB : bm.contains (.type "LookupError") = true) : FnG P w K mg base CX0 1 f fd ["self", "index"] (spXI C "index") :=
  xinit_fn (txt := "not safe with any lag") F sc_xi_NotSafe O hno hB fun cdv A fs s H E => pss_cons (ps_expr (pe_xini xb rfl (pa_cons (pe_var (i := 0) rfl (Or.inl rfl)) (pa_cons pe_str pa_nil)))) (pss_one (ps_xst (pe_var (i := 0) rfl (Or.inl rfl)) (pe_var (i := 1) rfl (Or.inl rfl))))
theorem sc_xi_NothingToRedo : FnScope ["self"] ["self"] (defScope (inClass (topS 40) 0)) := ⟨rfl, rfl, rfl, by decide +kernel, rfl, by decide +kernel, by decide +kernel⟩
theorem xi_NothingToRedo {f C : Addr} {fd : FuncData} {bm : List Value} (xb : XBase K mg "StateError" "LookupError" "LookupError.__init__") (F : Def3 K "__init__" "NothingToRedo.__init__" (inClass (topS 40) 0) [] [] f fd) (O : OexG K C bm) (hB : bm.contains (.type "LookupError") = true) : FnG P w K mg base CX0 1 f fd ["self"] (spXI0 C) :=
  xinit0_fn (txt := "nothing to redo") F sc_xi_NothingToRedo O hB fun cdv A fs s H E => pss_one (ps_expr (pe_xini xb rfl (pa_cons (pe_var (i := 0) rfl (Or.inl rfl)) (pa_cons pe_str pa_nil))))
theorem sc_xi_NothingToUndo : FnScope ["self"] ["self"] (defScope (inClass (topS 39) 0)) := ⟨rfl, rfl, rfl, by decide +kernel, rfl, by decide +kernel, by decide +kernel⟩
theorem xi_NothingToUndo {f C : Addr} {fd : FuncData} {bm : List Value} (xb : XBase K mg "StateError" "LookupError" "LookupError.__init__") (F : Def3 K "__init__" "NothingToUndo.__init__" (inClass (topS 39) 0) [] [] f fd) (O : OexG K C bm) (hB : bm.contains (.type "LookupError") = true) : FnG P w K mg base CX0 1 f fd ["self"] (spXI0 C) :=
  xinit0_fn (txt := "nothing to undo") F sc_xi_NothingToUndo O hB fun cdv A fs s H E => pss_one (ps_expr (pe_xini xb rfl (pa_cons (pe_var (i := 0) rfl (Or.inl rfl)) (pa_cons pe_str pa_nil))))
theorem sc_xi_Ring : FnScope ["self", "members"] ["self", "members"] (defScope (inClass (topS 11) 0)) := ⟨rfl, rfl, rfl, by decide +kernel, rfl, by decide +kernel, by decide +kernel⟩
theorem xi_Ring {f C : Addr} {fd : FuncData} {bm : List Value} (xb : XBase K mg "PlanError" "ValueError" "ValueError.__init__") (F : Def3 K "__init__" "Ring.__init__" (inClass (topS 11) 0) [] [] f fd) (O : OexG K C bm) (hno : PySem.W.findIn K (.ref C) "members" = some none) (hB : bm.contains (.type "ValueError") = true) : FnG P w K mg base CX0 1 f fd ["self", "members"] (spXI C "members") :=
  xinit_fn (txt := "a ring of ties with the lag 0") F sc_xi_Ring O hno hB fun cdv A fs s H E => pss_cons (ps_expr (pe_xini xb rfl (pa_cons (pe_var (i := 0) rfl (Or.inl rfl)) (pa_cons pe_str pa_nil)))) (pss_one (ps_xst (pe_var (i := 0) rfl (Or.inl rfl)) (pe_var (i := 1) rfl (Or.inl rfl))))
theorem sc_xi_TooLong : FnScope ["self", "total"] ["self", "total"] (defScope (inClass (topS 33) 0)) := ⟨rfl, rfl, rfl, by decide +kernel, rfl, by decide +kernel, by decide +kernel⟩
theorem xi_TooLong {f C : Addr} {fd : FuncData} {bm : List Value} (xb : XBase K mg "StateError" "LookupError" "LookupError.__init__") (F : Def3 K "__init__" "TooLong.__init__" (inClass (topS 33) 0) [] [] f fd) (O : OexG K C bm) (hno : PySem.W.findIn K (.ref C) "total" = some none) (hB : bm.contains (.type "LookupError") = true) : FnG P w K mg base CX0 1 f fd ["self", "total"] (spXI C "total") :=
  xinit_fn (txt := "a run that is too long") F sc_xi_TooLong O hno hB fun cdv A fs s H E => pss_cons (ps_expr (pe_xini xb rfl (pa_cons (pe_var (i := 0) rfl (Or.inl rfl)) (pa_cons pe_str pa_nil)))) (pss_one (ps_xst (pe_var (i := 0) rfl (Or.inl rfl)) (pe_var (i := 1) rfl (Or.inl rfl))))
theorem sc_xi_TooMany : FnScope ["self", "bound"] ["self", "bound"] (defScope (inClass (topS 23) 0)) := ⟨rfl, rfl, rfl, by decide +kernel, rfl, by decide +kernel, by decide +kernel⟩
theorem xi_TooMany {f C : Addr} {fd : FuncData} {bm : List Value} (xb : XBase K mg "PlanError" "ValueError" "ValueError.__init__") (F : Def3 K "__init__" "TooMany.__init__" (inClass (topS 23) 0) [] [] f fd) (O : OexG K C bm) (hno : PySem.W.findIn K (.ref C) "bound" = some none) (hB : bm.contains (.type "ValueError") = true) : FnG P w K mg base CX0 1 f fd ["self", "bound"] (spXI C "bound") :=
  xinit_fn (txt := "more than is allowed") F sc_xi_TooMany O hno hB fun cdv A fs s H E => pss_cons (ps_expr (pe_xini xb rfl (pa_cons (pe_var (i := 0) rfl (Or.inl rfl)) (pa_cons pe_str pa_nil)))) (pss_one (ps_xst (pe_var (i := 0) rfl (Or.inl rfl)) (pe_var (i := 1) rfl (Or.inl rfl))))
theorem sc_xi_UnknownEvent : FnScope ["self", "name"] ["self", "name"] (defScope (inClass (topS 27) 0)) := ⟨rfl, rfl, rfl, by decide +kernel, rfl, by decide +kernel, by decide +kernel⟩
theorem xi_UnknownEvent {f C : Addr} {fd : FuncData} {bm : List Value} (xb : XBase K mg "MissingError" "KeyError" "KeyError.__init__") (F : Def3 K "__init__" "UnknownEvent.__init__" (inClass (topS 27) 0) [] [] f fd) (O : OexG K C bm) (hno : PySem.W.findIn K (.ref C) "name" = some none) (hB : bm.contains (.type "KeyError") = true) : FnG P w K mg base CX0 1 f fd ["self", "name"] (spXI C "name") :=
  xinit_fn (txt := "no such event") F sc_xi_UnknownEvent O hno hB fun cdv A fs s H E => pss_cons (ps_expr (pe_xini xb rfl (pa_cons (pe_var (i := 0) rfl (Or.inl rfl)) (pa_cons pe_str pa_nil)))) (pss_one (ps_xst (pe_var (i := 0) rfl (Or.inl rfl)) (pe_var (i := 1) rfl (Or.inl rfl))))
theorem sc_xi_UnlikeEvents : FnScope ["self", "members"] ["self", "members"] (defScope (inClass (topS 13) 0)) := ⟨rfl, rfl, rfl, by decide +kernel, rfl, by decide +kernel, by decide +kernel⟩
theorem xi_UnlikeEvents {f C : Addr} {fd : FuncData} {bm : List Value} (xb : XBase K mg "PlanError" "ValueError" "ValueError.__init__") (F : Def3 K "__init__" "UnlikeEvents.__init__" (inClass (topS 13) 0) [] [] f fd) (O : OexG K C bm) (hno : PySem.W.findIn K (.ref C) "members" = some none) (hB : bm.contains (.type "ValueError") = true) : FnG P w K mg base CX0 1 f fd ["self", "members"] (spXI C "members") :=
  xinit_fn (txt := "a plan with other events") F sc_xi_UnlikeEvents O hno hB fun cdv A fs s H E => pss_cons (ps_expr (pe_xini xb rfl (pa_cons (pe_var (i := 0) rfl (Or.inl rfl)) (pa_cons pe_str pa_nil)))) (pss_one (ps_xst (pe_var (i := 0) rfl (Or.inl rfl)) (pe_var (i := 1) rfl (Or.inl rfl))))
theorem sc__law_box : FnScope ["_law_cell_here"] ["_law_cell_here"] (defScope (topS 43)) := ⟨rfl, rfl, rfl, by decide +kernel, rfl, by decide +kernel, by decide +kernel⟩
theorem ok__law_box {f : Addr} {fd : FuncData}  (T : Bl K mg)  (F : Def3 K "_law_box" "_law_box" (topS 43) [] [] f fd) : FnG P w K mg base CX0 1 f fd ["_law_cell_here"] (lift ⟨K, P, w⟩ 1 sp__law_box) := by
  have nd := sc__law_box.nd
  refine F.ok3 sc__law_box fun cdv A outer s H E hr => ⟨t__law_box, ?_, pure__law_box⟩
  exact (ss_one (s_ret (e_lstT (a_cons (e_callB (c_max2 rfl) T.b_max (by decide +kernel) (a_cons e_int (a_cons (e_op o_sub (e_var 0) (e_op o_pow e_int e_int)) a_nil))) (a_cons (e_op o_mod (e_var 0) e_int) (a_cons e_int a_nil))))))
theorem sc__law_cell : FnScope ["_law_script", "_law_k"] ["_law_script", "_law_k"] (defScope (topS 42)) := ⟨rfl, rfl, rfl, by decide +kernel, rfl, by decide +kernel, by decide +kernel⟩
theorem ok__law_cell {f : Addr} {fd : FuncData}  (T : Bl K mg)  (F : Def3 K "_law_cell" "_law_cell" (topS 42) [] [] f fd) : FnG P w K mg base CX0 1 f fd ["_law_script", "_law_k"] (lift ⟨K, P, w⟩ 2 sp__law_cell) := by
  have nd := sc__law_cell.nd
  refine F.ok3 sc__law_cell fun cdv A outer s H E hr => ⟨t__law_cell, ?_, pure__law_cell⟩
  exact (ss_cons (s_if (t_cmp o_lt (e_var 1) (e_callB (c_len) T.b_len PySem.boot_len (a_cons (e_var 0) a_nil))) (ss_one (s_ret (e_at hr (e_var 0) (e_var 1)))) ss_nil) (ss_one (s_ret (e_op o_add (e_op o_mul e_int (e_var 1)) e_int))))
theorem sc__law_take : FnScope ["_law_box_here", "_law_many", "_law_digit", "_law_number"] ["_law_box_here", "_law_many"] (defScope (topS 44)) := ⟨rfl, rfl, rfl, by decide +kernel, rfl, by decide +kernel, by decide +kernel⟩
theorem ok__law_take {f : Addr} {fd : FuncData}  (T : Bl K mg)  (F : Def3 K "_law_take" "_law_take" (topS 44) [] [] f fd) : FnG P w K mg base CX0 1 f fd ["_law_box_here", "_law_many"] (lift ⟨K, P, w⟩ 2 sp__law_take) := by
  have nd := sc__law_take.nd
  refine F.ok3 sc__law_take fun cdv A outer s H E hr => ⟨t__law_take, ?_, pure__law_take⟩
  exact (ss_cons (s_if (t_cmp o_gt (e_at hr (e_var 0) e_int) e_int) (ss_cons (s_set (i := 2) nd (e_op o_mod (e_at hr (e_var 0) e_int) (e_var 1))) (ss_cons (s_sub (st_any hr) (e_op o_div (e_at hr (e_var 0) e_int) (e_var 1)) (e_var 0) e_int) (ss_one (s_ret (e_var 2))))) ss_nil) (ss_cons (s_sub (st_any hr) (e_op o_add (e_at hr (e_var 0) e_int) e_int) (e_var 0) e_int) (ss_cons (s_set (i := 3) nd (e_op o_mod (e_op o_pow (e_op o_add (e_op o_add (e_at hr (e_var 0) e_int) (e_op o_mul e_int (e_at hr (e_var 0) e_int))) e_int) e_int) e_int)) (ss_cons (s_set (i := 3) nd (e_op o_mod (e_op o_pow (e_op o_add (e_var 3) (e_op o_mul e_int (e_at hr (e_var 0) e_int))) e_int) e_int)) (ss_one (s_ret (e_op o_mod (e_op o_div (e_var 3) e_int) (e_var 1))))))))
theorem sc__law_value : FnScope ["_law_box_here", "_law_some"] ["_law_box_here"] (defScope (topS 45)) := ⟨rfl, rfl, rfl, by decide +kernel, rfl, by decide +kernel, by decide +kernel⟩
theorem ok__law_value {f : Addr} {fd : FuncData}  (T : Bl K mg) (c__law_take : Cal3 P w K mg base CX0 1 "_law_take" 2 [] (allPos 2) [] 2 (lift ⟨K, P, w⟩ 2 sp__law_take)) (F : Def3 K "_law_value" "_law_value" (topS 45) [] [] f fd) : FnG P w K mg base CX0 2 f fd ["_law_box_here"] (lift ⟨K, P, w⟩ 1 sp__law_value) := by
  have nd := sc__law_value.nd
  refine F.ok3 sc__law_value fun cdv A outer s H E hr => ⟨t__law_value, ?_, pure__law_value⟩
  exact (ss_cons (s_set (i := 1) nd (e_lst (a_cons e_non (a_cons e_bl (a_cons e_int (a_cons e_int (a_cons (e_un u_neg e_int) (a_cons (e_op o_pow e_int e_int) (a_cons e_str (a_cons e_str (a_cons (e_tup a_nil) (a_cons (e_tup (a_cons e_str (a_cons e_str (a_cons e_int a_nil)))) (a_cons (e_lstT a_nil) (a_cons (e_lstT (a_cons e_str (a_cons e_int a_nil))) (a_cons e_dict0T (a_cons (e_dispT (ps3_cons e_str e_int ps3_nil)) (a_cons (e_tup (a_cons (e_lstT (a_cons e_int a_nil)) (a_cons (e_disp (ps3_cons e_str e_int ps3_nil)) a_nil))) a_nil))))))))))))))))) (ss_one (s_ret (e_at hr (e_var 1) (e_cal lf0 c__law_take hr (a_cons (e_var 0) (a_cons e_int a_nil)))))))
theorem sc__law_made : FnScope ["_law_value_here", "_law_found"] ["_law_value_here"] (defScope (topS 46)) := ⟨rfl, rfl, rfl, by decide +kernel, rfl, by decide +kernel, by decide +kernel⟩
theorem ok__law_made {f : Addr} {fd : FuncData}  (T : Bl K mg) (x_InvalidInteger : XMk P w K mg base 1 "InvalidInteger" "value") (x_InvalidName : XMk P w K mg base 1 "InvalidName" "value") (x_Duplicate : XMk P w K mg base 1 "Duplicate" "name") (x_InvalidEvents : XMk P w K mg base 1 "InvalidEvents" "value") (x_InvalidTies : XMk P w K mg base 1 "InvalidTies" "value") (x_InvalidTie : XMk P w K mg base 1 "InvalidTie" "value") (x_InvalidLimits : XMk P w K mg base 1 "InvalidLimits" "value") (x_Ring : XMk P w K mg base 1 "Ring" "members") (x_InvalidPlan : XMk P w K mg base 1 "InvalidPlan" "value") (x_UnlikeEvents : XMk P w K mg base 1 "UnlikeEvents" "members") (x_InvalidText : XMk P w K mg base 1 "InvalidText" "value") (x_InvalidCounts : XMk P w K mg base 1 "InvalidCounts" "value") (x_InvalidRun : XMk P w K mg base 1 "InvalidRun" "value") (x_InvalidStock : XMk P w K mg base 1 "InvalidStock" "value") (x_InvalidAmounts : XMk P w K mg base 1 "InvalidAmounts" "value") (x_InvalidBounds : XMk P w K mg base 1 "InvalidBounds" "value") (x_InvalidNames : XMk P w K mg base 1 "InvalidNames" "value") (x_InvalidCommand : XMk P w K mg base 1 "InvalidCommand" "value") (x_InvalidCommands : XMk P w K mg base 1 "InvalidCommands" "value") (x_TooMany : XMk P w K mg base 1 "TooMany" "bound") (x_InvalidLog : XMk P w K mg base 1 "InvalidLog" "value") (x_InvalidLogs : XMk P w K mg base 1 "InvalidLogs" "value") (x_InvalidEntry : XMk P w K mg base 1 "InvalidEntry" "value") (x_UnknownEvent : XMk P w K mg base 1 "UnknownEvent" "name") (x_NoTie : XMk P w K mg base 1 "NoTie" "index") (x_NoEntry : XMk P w K mg base 1 "NoEntry" "name") (x_Barred : XMk P w K mg base 1 "Barred" "index") (x_NotMoment : XMk P w K mg base 1 "NotMoment" "value") (x_NotBehind : XMk P w K mg base 1 "NotBehind" "value") (x_TooLong : XMk P w K mg base 1 "TooLong" "total") (x_Endless : XMk P w K mg base 1 "Endless" "event") (x_Misfit : XMk P w K mg base 1 "Misfit" "index") (x_NotSafe : XMk P w K mg base 1 "NotSafe" "index") (F : Def3 K "_law_made" "_law_made" (topS 46) [] [] f fd) : FnG P w K mg base CX0 3 f fd ["_law_value_here"] (lift ⟨K, P, w⟩ 1 sp__law_made) := by
  have nd := sc__law_made.nd
  refine F.ok3 sc__law_made fun cdv A outer s H E hr => ⟨t__law_made, ?_, pure__law_made⟩
  exact (ss_cons (s_set (i := 1) nd (e_lst (a_cons (e_mkX x_InvalidInteger hr (a_cons (e_var 0) a_nil)) (a_cons (e_mkX x_InvalidName hr (a_cons (e_var 0) a_nil)) (a_cons (e_mkX x_Duplicate hr (a_cons (e_var 0) a_nil)) (a_cons (e_mkX x_InvalidEvents hr (a_cons (e_var 0) a_nil)) a_nil)))))) (ss_cons (s_set (i := 1) nd (e_op o_add (e_var 1) (e_lst (a_cons (e_mkX x_InvalidTies hr (a_cons (e_var 0) a_nil)) (a_cons (e_mkX x_InvalidTie hr (a_cons (e_var 0) a_nil)) (a_cons (e_mkX x_InvalidLimits hr (a_cons (e_var 0) a_nil)) (a_cons (e_mkX x_Ring hr (a_cons (e_var 0) a_nil)) a_nil))))))) (ss_cons (s_set (i := 1) nd (e_op o_add (e_var 1) (e_lst (a_cons (e_mkX x_InvalidPlan hr (a_cons (e_var 0) a_nil)) (a_cons (e_mkX x_UnlikeEvents hr (a_cons (e_var 0) a_nil)) (a_cons (e_mkX x_InvalidText hr (a_cons (e_var 0) a_nil)) (a_cons (e_mkX x_InvalidCounts hr (a_cons (e_var 0) a_nil)) a_nil))))))) (ss_cons (s_set (i := 1) nd (e_op o_add (e_var 1) (e_lst (a_cons (e_mkX x_InvalidRun hr (a_cons (e_var 0) a_nil)) (a_cons (e_mkX x_InvalidStock hr (a_cons (e_var 0) a_nil)) (a_cons (e_mkX x_InvalidAmounts hr (a_cons (e_var 0) a_nil)) (a_cons (e_mkX x_InvalidBounds hr (a_cons (e_var 0) a_nil)) a_nil))))))) (ss_cons (s_set (i := 1) nd (e_op o_add (e_var 1) (e_lst (a_cons (e_mkX x_InvalidNames hr (a_cons (e_var 0) a_nil)) (a_cons (e_mkX x_InvalidCommand hr (a_cons (e_var 0) a_nil)) (a_cons (e_mkX x_InvalidCommands hr (a_cons (e_var 0) a_nil)) (a_cons (e_mkX x_TooMany hr (a_cons (e_var 0) a_nil)) a_nil))))))) (ss_cons (s_set (i := 1) nd (e_op o_add (e_var 1) (e_lst (a_cons (e_mkX x_InvalidLog hr (a_cons (e_var 0) a_nil)) (a_cons (e_mkX x_InvalidLogs hr (a_cons (e_var 0) a_nil)) (a_cons (e_mkX x_InvalidEntry hr (a_cons (e_var 0) a_nil)) (a_cons (e_mkX x_UnknownEvent hr (a_cons (e_var 0) a_nil)) a_nil))))))) (ss_cons (s_set (i := 1) nd (e_op o_add (e_var 1) (e_lst (a_cons (e_mkX x_NoTie hr (a_cons (e_var 0) a_nil)) (a_cons (e_mkX x_NoEntry hr (a_cons (e_var 0) a_nil)) (a_cons (e_mkX x_Barred hr (a_cons (e_var 0) a_nil)) (a_cons (e_mkX x_NotMoment hr (a_cons (e_var 0) a_nil)) a_nil))))))) (ss_cons (s_set (i := 1) nd (e_op o_add (e_var 1) (e_lst (a_cons (e_mkX x_NotBehind hr (a_cons (e_var 0) a_nil)) (a_cons (e_mkX x_TooLong hr (a_cons (e_var 0) a_nil)) (a_cons (e_mkX x_Endless hr (a_cons (e_var 0) a_nil)) (a_cons (e_mkX x_Misfit hr (a_cons (e_var 0) a_nil)) a_nil))))))) (ss_cons (s_set (i := 1) nd (e_op o_add (e_var 1) (e_lst (a_cons (e_mkX x_NotSafe hr (a_cons (e_var 0) a_nil)) a_nil)))) (ss_one (s_ret (e_var 1))))))))))))
theorem sc__law_kinds : FnScope ["_law_error", "_law_found", "_law_k"] ["_law_error"] (defScope (topS 48)) := ⟨rfl, rfl, rfl, by decide +kernel, rfl, by decide +kernel, by decide +kernel⟩
theorem ok__law_kinds {f : Addr} {fd : FuncData}  (T : Bl K mg)  (F : Def3 K "_law_kinds" "_law_kinds" (topS 48) [] [] f fd) : FnG P w K mg base CX0 1 f fd ["_law_error"] (lift ⟨K, P, w⟩ 1 sp__law_kinds) := by
  have nd := sc__law_kinds.nd
  refine F.ok3 sc__law_kinds fun cdv A outer s H E hr => ⟨t__law_kinds, ?_, pure__law_kinds⟩
  exact (ss_cons (s_set (i := 1) nd (e_lst (a_cons (e_callB (c_isX T.isx) T.b_isinstance (by decide +kernel) (a_cons (e_var 0) (a_cons (e_gclsX T.cxn (by decide)) a_nil))) (a_cons (e_callB (c_isX T.isx) T.b_isinstance (by decide +kernel) (a_cons (e_var 0) (a_cons (e_gclsX T.cxn (by decide)) a_nil))) a_nil)))) (ss_cons (s_set (i := 1) nd (e_op o_add (e_var 1) (e_lst (a_cons (e_callB (c_isX T.isx) T.b_isinstance (by decide +kernel) (a_cons (e_var 0) (a_cons (e_gclsX T.cxn (by decide)) a_nil))) (a_cons (e_callB (c_isX T.isx) T.b_isinstance (by decide +kernel) (a_cons (e_var 0) (a_cons (e_gclsX T.cxn (by decide)) a_nil))) a_nil))))) (ss_cons (s_set (i := 1) nd (e_op o_add (e_var 1) (e_lst (a_cons (e_callB (c_isX T.isx) T.b_isinstance (by decide +kernel) (a_cons (e_var 0) (a_cons (e_gclsX T.cxn (by decide)) a_nil))) (a_cons (e_callB (c_isX T.isx) T.b_isinstance (by decide +kernel) (a_cons (e_var 0) (a_cons (e_gclsX T.cxn (by decide)) a_nil))) a_nil))))) (ss_cons (s_set (i := 1) nd (e_op o_add (e_var 1) (e_lst (a_cons (e_callB (c_isX T.isx) T.b_isinstance (by decide +kernel) (a_cons (e_var 0) (a_cons (e_gclsX T.cxn (by decide)) a_nil))) (a_cons (e_callB (c_isX T.isx) T.b_isinstance (by decide +kernel) (a_cons (e_var 0) (a_cons (e_gclsX T.cxn (by decide)) a_nil))) a_nil))))) (ss_cons (s_set (i := 1) nd (e_op o_add (e_var 1) (e_lst (a_cons (e_callB (c_isX T.isx) T.b_isinstance (by decide +kernel) (a_cons (e_var 0) (a_cons (e_gclsX T.cxn (by decide)) a_nil))) (a_cons (e_callB (c_isX T.isx) T.b_isinstance (by decide +kernel) (a_cons (e_var 0) (a_cons (e_gclsX T.cxn (by decide)) a_nil))) a_nil))))) (ss_cons (s_set (i := 1) nd (e_op o_add (e_var 1) (e_lst (a_cons (e_callB (c_isX T.isx) T.b_isinstance (by decide +kernel) (a_cons (e_var 0) (a_cons (e_gclsX T.cxn (by decide)) a_nil))) (a_cons (e_callB (c_isX T.isx) T.b_isinstance (by decide +kernel) (a_cons (e_var 0) (a_cons (e_gclsX T.cxn (by decide)) a_nil))) a_nil))))) (ss_cons (s_set (i := 1) nd (e_op o_add (e_var 1) (e_lst (a_cons (e_callB (c_isX T.isx) T.b_isinstance (by decide +kernel) (a_cons (e_var 0) (a_cons (e_gclsX T.cxn (by decide)) a_nil))) (a_cons (e_callB (c_isX T.isx) T.b_isinstance (by decide +kernel) (a_cons (e_var 0) (a_cons (e_gclsX T.cxn (by decide)) a_nil))) a_nil))))) (ss_cons (s_set (i := 1) nd (e_op o_add (e_var 1) (e_lst (a_cons (e_callB (c_isX T.isx) T.b_isinstance (by decide +kernel) (a_cons (e_var 0) (a_cons (e_gclsX T.cxn (by decide)) a_nil))) (a_cons (e_callB (c_isX T.isx) T.b_isinstance (by decide +kernel) (a_cons (e_var 0) (a_cons (e_gclsX T.cxn (by decide)) a_nil))) a_nil))))) (ss_cons (s_set (i := 1) nd (e_op o_add (e_var 1) (e_lst (a_cons (e_callB (c_isX T.isx) T.b_isinstance (by decide +kernel) (a_cons (e_var 0) (a_cons (e_gclsX T.cxn (by decide)) a_nil))) (a_cons (e_callB (c_isX T.isx) T.b_isinstance (by decide +kernel) (a_cons (e_var 0) (a_cons (e_gclsX T.cxn (by decide)) a_nil))) a_nil))))) (ss_cons (s_set (i := 1) nd (e_op o_add (e_var 1) (e_lst (a_cons (e_callB (c_isX T.isx) T.b_isinstance (by decide +kernel) (a_cons (e_var 0) (a_cons (e_gclsX T.cxn (by decide)) a_nil))) (a_cons (e_callB (c_isX T.isx) T.b_isinstance (by decide +kernel) (a_cons (e_var 0) (a_cons (e_gclsX T.cxn (by decide)) a_nil))) a_nil))))) (ss_cons (s_set (i := 1) nd (e_op o_add (e_var 1) (e_lst (a_cons (e_callB (c_isX T.isx) T.b_isinstance (by decide +kernel) (a_cons (e_var 0) (a_cons (e_gclsX T.cxn (by decide)) a_nil))) (a_cons (e_callB (c_isX T.isx) T.b_isinstance (by decide +kernel) (a_cons (e_var 0) (a_cons (e_gclsX T.cxn (by decide)) a_nil))) a_nil))))) (ss_cons (s_set (i := 1) nd (e_op o_add (e_var 1) (e_lst (a_cons (e_callB (c_isX T.isx) T.b_isinstance (by decide +kernel) (a_cons (e_var 0) (a_cons (e_gclsX T.cxn (by decide)) a_nil))) (a_cons (e_callB (c_isX T.isx) T.b_isinstance (by decide +kernel) (a_cons (e_var 0) (a_cons (e_gclsX T.cxn (by decide)) a_nil))) a_nil))))) (ss_cons (s_set (i := 1) nd (e_op o_add (e_var 1) (e_lst (a_cons (e_callB (c_isX T.isx) T.b_isinstance (by decide +kernel) (a_cons (e_var 0) (a_cons (e_gclsX T.cxn (by decide)) a_nil))) (a_cons (e_callB (c_isX T.isx) T.b_isinstance (by decide +kernel) (a_cons (e_var 0) (a_cons (e_gclsX T.cxn (by decide)) a_nil))) a_nil))))) (ss_cons (s_set (i := 1) nd (e_op o_add (e_var 1) (e_lst (a_cons (e_callB (c_isX T.isx) T.b_isinstance (by decide +kernel) (a_cons (e_var 0) (a_cons (e_gclsX T.cxn (by decide)) a_nil))) (a_cons (e_callB (c_isX T.isx) T.b_isinstance (by decide +kernel) (a_cons (e_var 0) (a_cons (e_gclsX T.cxn (by decide)) a_nil))) a_nil))))) (ss_cons (s_set (i := 1) nd (e_op o_add (e_var 1) (e_lst (a_cons (e_callB (c_isX T.isx) T.b_isinstance (by decide +kernel) (a_cons (e_var 0) (a_cons (e_gclsX T.cxn (by decide)) a_nil))) (a_cons (e_callB (c_isX T.isx) T.b_isinstance (by decide +kernel) (a_cons (e_var 0) (a_cons (e_gclsX T.cxn (by decide)) a_nil))) a_nil))))) (ss_cons (s_set (i := 1) nd (e_op o_add (e_var 1) (e_lst (a_cons (e_callB (c_isX T.isx) T.b_isinstance (by decide +kernel) (a_cons (e_var 0) (a_cons (e_gclsX T.cxn (by decide)) a_nil))) (a_cons (e_callB (c_isX T.isx) T.b_isinstance (by decide +kernel) (a_cons (e_var 0) (a_cons (e_gclsX T.cxn (by decide)) a_nil))) a_nil))))) (ss_cons (s_set (i := 1) nd (e_op o_add (e_var 1) (e_lst (a_cons (e_callB (c_isX T.isx) T.b_isinstance (by decide +kernel) (a_cons (e_var 0) (a_cons (e_gclsX T.cxn (by decide)) a_nil))) (a_cons (e_callB (c_isX T.isx) T.b_isinstance (by decide +kernel) (a_cons (e_var 0) (a_cons (e_gclsX T.cxn (by decide)) a_nil))) a_nil))))) (ss_cons (s_set (i := 1) nd (e_op o_add (e_var 1) (e_lst (a_cons (e_callB (c_isX T.isx) T.b_isinstance (by decide +kernel) (a_cons (e_var 0) (a_cons (e_gclsX T.cxn (by decide)) a_nil))) (a_cons (e_callB (c_isX T.isx) T.b_isinstance (by decide +kernel) (a_cons (e_var 0) (a_cons (e_gclsX T.cxn (by decide)) a_nil))) a_nil))))) (ss_cons (s_set (i := 1) nd (e_op o_add (e_var 1) (e_lst (a_cons (e_callB (c_isX T.isx) T.b_isinstance (by decide +kernel) (a_cons (e_var 0) (a_cons (e_gclsX T.cxn (by decide)) a_nil))) a_nil)))) (ss_one (s_ret (e_lcG (own := [("_law_k", 2)]) (tt := (vB (vOp gAt (vVar 1) (vVar 2)))) (te := (vVar 2)) rfl nd (i_range1 T.b_range (a_cons (e_callB (c_len) T.b_len PySem.boot_len (a_cons (e_var 1) a_nil)) a_nil)) (blkOk_by (N := ["_law_error", "_law_found", "_law_k"]) (sc := defScope (topS 48)) (by decide +kernel)) (u_name 2 (fun _ _ _ _ _ => pg_name (i := 2) nd rfl (by first | exact Or.inl rfl | exact Or.inr rfl))) (fun j hj => hj) (fun _ _ _ _ _ => ts_one (t_val (e_at hr (e_var 1) (e_var 2)))) (fun _ _ _ _ _ => (e_var 2))))))))))))))))))))))))
theorem sc__law_bases : FnScope ["_law_error", "_law_found"] ["_law_error"] (defScope (topS 49)) := ⟨rfl, rfl, rfl, by decide +kernel, rfl, by decide +kernel, by decide +kernel⟩
theorem ok__law_bases {f : Addr} {fd : FuncData}  (T : Bl K mg)  (F : Def3 K "_law_bases" "_law_bases" (topS 49) [] [] f fd) : FnG P w K mg base CX0 1 f fd ["_law_error"] (lift ⟨K, P, w⟩ 1 sp__law_bases) := by
  have nd := sc__law_bases.nd
  refine F.ok3 sc__law_bases fun cdv A outer s H E hr => ⟨t__law_bases, ?_, pure__law_bases⟩
  exact (ss_cons (s_set (i := 1) nd (e_lst (a_cons (e_callB (c_isX T.isx) T.b_isinstance (by decide +kernel) (a_cons (e_var 0) (a_cons (e_gclsX T.cxn (by decide)) a_nil))) (a_cons (e_callB (c_isX T.isx) T.b_isinstance (by decide +kernel) (a_cons (e_var 0) (a_cons (e_gclsX T.cxn (by decide)) a_nil))) (a_cons (e_callB (c_isX T.isx) T.b_isinstance (by decide +kernel) (a_cons (e_var 0) (a_cons (e_gclsX T.cxn (by decide)) a_nil))) a_nil))))) (ss_cons (s_if (t_val (e_callB (c_isX T.isx) T.b_isinstance (by decide +kernel) (a_cons (e_var 0) (a_cons (e_bty T.b_IndexError (by decide +kernel)) a_nil)))) (ss_one (s_ret (e_lst a_nil))) ss_nil) (ss_one (s_ret (e_op o_add (e_var 1) (e_lst (a_cons (e_callB (c_isX T.isx) T.b_isinstance (by decide +kernel) (a_cons (e_var 0) (a_cons (e_bty T.b_ValueError (by decide +kernel)) a_nil))) (a_cons (e_callB (c_isX T.isx) T.b_isinstance (by decide +kernel) (a_cons (e_var 0) (a_cons (e_bty T.b_KeyError (by decide +kernel)) a_nil))) (a_cons (e_callB (c_isX T.isx) T.b_isinstance (by decide +kernel) (a_cons (e_var 0) (a_cons (e_bty T.b_LookupError (by decide +kernel)) a_nil))) a_nil)))))))))
theorem sc__law_due : FnScope ["_law_k"] ["_law_k"] (defScope (topS 50)) := ⟨rfl, rfl, rfl, by decide +kernel, rfl, by decide +kernel, by decide +kernel⟩
theorem ok__law_due {f : Addr} {fd : FuncData}  (T : Bl K mg)  (F : Def3 K "_law_due" "_law_due" (topS 50) [] [] f fd) : FnG P w K mg base CX0 1 f fd ["_law_k"] (lift ⟨K, P, w⟩ 1 sp__law_due) := by
  have nd := sc__law_due.nd
  refine F.ok3 sc__law_due fun cdv A outer s H E hr => ⟨t__law_due, ?_, pure__law_due⟩
  exact (ss_cons (s_if (t_cmp o_lt (e_var 0) e_int) (ss_one (s_ret (e_lst (a_cons e_bl (a_cons e_bl (a_cons e_bl (a_cons e_bl (a_cons e_bl (a_cons e_bl a_nil))))))))) ss_nil) (ss_cons (s_if (t_cmp o_lt (e_var 0) e_int) (ss_one (s_ret (e_lst (a_cons e_bl (a_cons e_bl (a_cons e_bl (a_cons e_bl (a_cons e_bl (a_cons e_bl a_nil))))))))) ss_nil) (ss_one (s_ret (e_lst (a_cons e_bl (a_cons e_bl (a_cons e_bl (a_cons e_bl (a_cons e_bl (a_cons e_bl a_nil)))))))))))
theorem sc__law_field : FnScope ["_law_error", "_law_k"] ["_law_error", "_law_k"] (defScope (topS 47)) := ⟨rfl, rfl, rfl, by decide +kernel, rfl, by decide +kernel, by decide +kernel⟩
theorem ok__law_field {f : Addr} {fd : FuncData}  (T : Bl K mg)  (F : Def3 K "_law_field" "_law_field" (topS 47) [] [] f fd) : FnG P w K mg base CX0 1 f fd ["_law_error", "_law_k"] (lift ⟨K, P, w⟩ 2 sp__law_field) := by
  have nd := sc__law_field.nd
  refine F.ok3 sc__law_field fun cdv A outer s H E hr => ⟨t__law_field, ?_, pure__law_field⟩
  exact (ss_cons (s_if (t_cmp (o_in hr) (e_var 1) (e_tup (a_cons e_int (a_cons e_int (a_cons e_int a_nil))))) (ss_one (s_ret (e_exf T.xfs_name (e_var 0)))) ss_nil) (ss_cons (s_if (t_cmp (o_in hr) (e_var 1) (e_tup (a_cons e_int (a_cons e_int a_nil)))) (ss_one (s_ret (e_exf T.xfs_members (e_var 0)))) ss_nil) (ss_cons (s_if (t_cmp o_eqS (e_var 1) e_int) (ss_one (s_ret (e_exf T.xfs_bound (e_var 0)))) ss_nil) (ss_cons (s_if (t_cmp (o_in hr) (e_var 1) (e_tup (a_cons e_int (a_cons e_int (a_cons e_int (a_cons e_int a_nil)))))) (ss_one (s_ret (e_exf T.xfs_index (e_var 0)))) ss_nil) (ss_cons (s_if (t_cmp (o_in hr) (e_var 1) (e_tup (a_cons e_int (a_cons e_int a_nil)))) (ss_one (s_ret (e_exf T.xfs_value (e_var 0)))) ss_nil) (ss_cons (s_if (t_cmp o_eqS (e_var 1) e_int) (ss_one (s_ret (e_exf T.xfs_total (e_var 0)))) ss_nil) (ss_cons (s_if (t_cmp o_eqS (e_var 1) e_int) (ss_one (s_ret (e_exf T.xfs_event (e_var 0)))) ss_nil) (ss_one (s_ret (e_exf T.xfs_value (e_var 0)))))))))))
theorem sc_law : FnScope ["_law_script", "_law_k", "_law_box_here", "_law_value_here", "_law_errors", "_law_at", "_law_error"] ["_law_script"] (defScope (topS 51)) := ⟨rfl, rfl, rfl, by decide +kernel, rfl, by decide +kernel, by decide +kernel⟩
theorem ok_law {f : Addr} {fd : FuncData}  (T : Bl K mg) (sy : SysB base) (c__law_box : Cal3 P w K mg base CX0 1 "_law_box" 1 [] (allPos 1) [] 1 (lift ⟨K, P, w⟩ 1 sp__law_box)) (c__law_cell : Cal3 P w K mg base CX0 1 "_law_cell" 2 [] (allPos 2) [] 2 (lift ⟨K, P, w⟩ 2 sp__law_cell)) (c__law_value : Cal3 P w K mg base CX0 2 "_law_value" 1 [] (allPos 1) [] 1 (lift ⟨K, P, w⟩ 1 sp__law_value)) (c__law_made : Cal3 P w K mg base CX0 3 "_law_made" 1 [] (allPos 1) [] 1 (lift ⟨K, P, w⟩ 1 sp__law_made)) (c__law_kinds : Cal3 P w K mg base CX0 1 "_law_kinds" 1 [] (allPos 1) [] 1 (lift ⟨K, P, w⟩ 1 sp__law_kinds)) (c__law_bases : Cal3 P w K mg base CX0 1 "_law_bases" 1 [] (allPos 1) [] 1 (lift ⟨K, P, w⟩ 1 sp__law_bases)) (c__law_due : Cal3 P w K mg base CX0 1 "_law_due" 1 [] (allPos 1) [] 1 (lift ⟨K, P, w⟩ 1 sp__law_due)) (c__law_field : Cal3 P w K mg base CX0 1 "_law_field" 2 [] (allPos 2) [] 2 (lift ⟨K, P, w⟩ 2 sp__law_field)) (x_NotPossible : XMk0 P w K mg base 1 "NotPossible") (x_NoRun : XMk0 P w K mg base 1 "NoRun") (x_NothingToUndo : XMk0 P w K mg base 1 "NothingToUndo") (x_NothingToRedo : XMk0 P w K mg base 1 "NothingToRedo") (x_PlanError : XMkB K mg "PlanError") (x_MissingError : XMkB K mg "MissingError") (x_StateError : XMkB K mg "StateError") (F : Def3 K "law" "law" (topS 51) [] [] f fd) : FnG P w K mg base CX0 4 f fd ["_law_script"] (lift ⟨K, P, w⟩ 1 sp_law) := by
  have nd := sc_law.nd
  refine F.ok3 sc_law fun cdv A outer s H E hr => ⟨t_law, ?_, pure_law⟩
  exact (ss_cons (s_for PassesOwn.never rfl (i_range1 T.b_range (a_cons (e_callB (c_max2 rfl) T.b_max (by decide +kernel) (a_cons e_int (a_cons (e_callB (c_min2 rfl) T.b_min (by decide +kernel) (a_cons e_int (a_cons (e_callB (c_len) T.b_len PySem.boot_len (a_cons (e_var 0) a_nil)) a_nil))) a_nil))) a_nil)) (g_name (i := 1) nd) (ss_cons (s_set (i := 2) nd (e_cal lf0 c__law_box hr (a_cons (e_cal lf0 c__law_cell hr (a_cons (e_var 0) (a_cons (e_var 1) a_nil))) a_nil))) (ss_cons (s_set (i := 3) nd (e_cal lf0 c__law_value hr (a_cons (e_var 2) a_nil))) (ss_cons (s_set (i := 4) nd (e_cal lf0 c__law_made hr (a_cons (e_var 3) a_nil))) (ss_cons (s_for PassesOwn.never rfl (i_enum T.b_enumerate (a_cons (e_var 4) a_nil)) (g_tup rfl (gs_cons (g_name (i := 5) nd) (gs_cons (g_name (i := 6) nd) gs_nil))) (ss_one (s_if (t_w (w_or (t_cmp (o_neD hr) (e_cal lf0 c__law_kinds hr (a_cons (e_var 6) a_nil)) (e_lst (a_cons (e_var 5) a_nil))) (w_or1 (t_cmp (o_neD hr) (e_cal lf0 c__law_bases hr (a_cons (e_var 6) a_nil)) (e_cal lf0 c__law_due hr (a_cons (e_var 5) a_nil)))))) (ss_one (s_ret e_bl)) ss_nil))) (ss_cons (s_if (t_w (w_and (t_val (e_callB c_isi T.b_isinstance (by decide +kernel) (a_cons (e_var 3) (a_cons (e_bty T.b_tuple (by decide +kernel)) a_nil)))) (w_and1 (t_cmp o_eqS (e_callB (c_len) T.b_len PySem.boot_len (a_cons (e_var 3) a_nil)) e_int)))) (ss_one (s_expr (e_bm PySem.F.plainAttrs_list PySem.F.slot_list_append PySem.F.type_list_append m_append (e_at hr (e_var 3) e_int) (a_cons e_str a_nil)))) ss_nil) (ss_cons (s_if (t_val (e_callB c_isi T.b_isinstance (by decide +kernel) (a_cons (e_var 3) (a_cons (e_bty T.b_list (by decide +kernel)) a_nil)))) (ss_one (s_expr (e_bm PySem.F.plainAttrs_list PySem.F.slot_list_append PySem.F.type_list_append m_append (e_var 3) (a_cons e_str a_nil)))) ss_nil) (ss_cons (s_if (t_val (e_callB c_isi T.b_isinstance (by decide +kernel) (a_cons (e_var 3) (a_cons (e_bty T.b_dict (by decide +kernel)) a_nil)))) (ss_one (s_sub (st_any hr) e_int (e_var 3) e_str)) ss_nil) (ss_one (s_if (t_cmp (o_neD hr) (e_lcG (own := [("_law_at", 5), ("_law_error", 6)]) (tt := (vB (vOp gNeS (vCB gReprX (vCons (vCall 2 sp__law_field (vCons (vVar 6) (vCons (vVar 5) vNil))) vNil)) (vCB gReprX (vCons (vVar 3) vNil))))) (te := (vVar 5)) rfl nd (i_enum T.b_enumerate (a_cons (e_var 4) a_nil)) (blkOk_by (N := ["_law_script", "_law_k", "_law_box_here", "_law_value_here", "_law_errors", "_law_at", "_law_error"]) (sc := defScope (topS 51)) (by decide +kernel)) (u_tup rfl (us_cons (u_name 5 (fun _ _ _ _ _ => pg_name (i := 5) nd rfl (by first | exact Or.inl rfl | exact Or.inr rfl))) (us_cons (u_name 6 (fun _ _ _ _ _ => pg_name (i := 6) nd rfl (by first | exact Or.inl rfl | exact Or.inr rfl))) us_nil))) (fun j hj => hj) (fun _ _ _ _ _ => ts_one (t_cmp o_neS (e_callB (c_reprX (have z := lt_un hr; z) (have z := hr.gd; z) sy) T.b_repr (by decide +kernel) (a_cons (e_cal lf0 c__law_field hr (a_cons (e_var 6) (a_cons (e_var 5) a_nil))) a_nil)) (e_callB (c_reprX (have z := lt_un hr; z) (have z := hr.gd; z) sy) T.b_repr (by decide +kernel) (a_cons (e_var 3) a_nil)))) (fun _ _ _ _ _ => (e_var 5))) (e_lst a_nil)) (ss_one (s_ret e_bl)) ss_nil)))))))))) (ss_cons (s_for PassesOwn.never rfl (i_enum T.b_enumerate (a_cons (e_lst (a_cons (e_mkX0 x_NotPossible hr) (a_cons (e_mkX0 x_NoRun hr) (a_cons (e_mkX0 x_NothingToUndo hr) (a_cons (e_mkX0 x_NothingToRedo hr) a_nil))))) a_nil)) (g_tup rfl (gs_cons (g_name (i := 1) nd) (gs_cons (g_name (i := 6) nd) gs_nil))) (ss_one (s_if (t_w (w_or (t_cmp (o_neD hr) (e_cal lf0 c__law_kinds hr (a_cons (e_var 6) a_nil)) (e_lst (a_cons (e_op o_add e_int (e_var 1)) a_nil))) (w_or1 (t_cmp (o_neD hr) (e_cal lf0 c__law_bases hr (a_cons (e_var 6) a_nil)) (e_cal lf0 c__law_due hr (a_cons e_int a_nil)))))) (ss_one (s_ret e_bl)) ss_nil))) (ss_cons (s_for PassesOwn.never rfl (i_enum T.b_enumerate (a_cons (e_lst (a_cons (e_mkXB x_PlanError (a_cons e_str a_nil)) (a_cons (e_mkXB x_MissingError (a_cons e_str a_nil)) (a_cons (e_mkXB x_StateError (a_cons e_str a_nil)) a_nil)))) a_nil)) (g_tup rfl (gs_cons (g_name (i := 1) nd) (gs_cons (g_name (i := 6) nd) gs_nil))) (ss_one (s_if (t_w (w_or (t_cmp (o_neD hr) (e_cal lf0 c__law_kinds hr (a_cons (e_var 6) a_nil)) (e_lst a_nil)) (w_or1 (t_cmp (o_neD hr) (e_cal lf0 c__law_bases hr (a_cons (e_var 6) a_nil)) (e_cal lf0 c__law_due hr (a_cons (e_at hr (e_lst (a_cons e_int (a_cons e_int (a_cons e_int a_nil)))) (e_var 1)) a_nil)))))) (ss_one (s_ret e_bl)) ss_nil))) (ss_one (s_ret e_bl)))))
end
theorem all_mk {l : PySem.W.OpenLaw} {w : World} {K : PySem.W.Frag} {h : Heap} {mg : Str → Option Value} {fa X_Barred X_Duplicate X_Endless X_InvalidAmounts X_InvalidBounds X_InvalidCommand X_InvalidCommands X_InvalidCounts X_InvalidEntry X_InvalidEvents X_InvalidInteger X_InvalidLimits X_InvalidLog X_InvalidLogs X_InvalidName X_InvalidNames X_InvalidPlan X_InvalidRun X_InvalidStock X_InvalidText X_InvalidTie X_InvalidTies X_Misfit X_MissingError X_NoEntry X_NoRun X_NoTie X_NotBehind X_NotMoment X_NotPossible X_NotSafe X_NothingToRedo X_NothingToUndo X_PlanError X_Ring X_StateError X_TooLong X_TooMany X_UnknownEvent X_UnlikeEvents fI_Barred fI_Duplicate fI_Endless fI_InvalidAmounts fI_InvalidBounds fI_InvalidCommand fI_InvalidCommands fI_InvalidCounts fI_InvalidEntry fI_InvalidEvents fI_InvalidInteger fI_InvalidLimits fI_InvalidLog fI_InvalidLogs fI_InvalidName fI_InvalidNames fI_InvalidPlan fI_InvalidRun fI_InvalidStock fI_InvalidText fI_InvalidTie fI_InvalidTies fI_Misfit fI_NoEntry fI_NoRun fI_NoTie fI_NotBehind fI_NotMoment fI_NotPossible fI_NotSafe fI_NothingToRedo fI_NothingToUndo fI_Ring fI_TooLong fI_TooMany fI_UnknownEvent fI_UnlikeEvents f0 f1 f2 f3 f4 f5 f6 f7 f8 f9 : Addr} (X : K.In h) (G : h.Ns mainGlobals mg) (hfa : mg "law" = some (.ref fa))
    (at_Barred : PySem.W.nsIn K mainGlobals "Barred" = some (some (.ref X_Barred)))
    (at_Duplicate : PySem.W.nsIn K mainGlobals "Duplicate" = some (some (.ref X_Duplicate)))
    (at_Endless : PySem.W.nsIn K mainGlobals "Endless" = some (some (.ref X_Endless)))
    (at_InvalidAmounts : PySem.W.nsIn K mainGlobals "InvalidAmounts" = some (some (.ref X_InvalidAmounts)))
    (at_InvalidBounds : PySem.W.nsIn K mainGlobals "InvalidBounds" = some (some (.ref X_InvalidBounds)))
    (at_InvalidCommand : PySem.W.nsIn K mainGlobals "InvalidCommand" = some (some (.ref X_InvalidCommand)))
    (at_InvalidCommands : PySem.W.nsIn K mainGlobals "InvalidCommands" = some (some (.ref X_InvalidCommands)))
    (at_InvalidCounts : PySem.W.nsIn K mainGlobals "InvalidCounts" = some (some (.ref X_InvalidCounts)))
    (at_InvalidEntry : PySem.W.nsIn K mainGlobals "InvalidEntry" = some (some (.ref X_InvalidEntry)))
    (at_InvalidEvents : PySem.W.nsIn K mainGlobals "InvalidEvents" = some (some (.ref X_InvalidEvents)))
    (at_InvalidInteger : PySem.W.nsIn K mainGlobals "InvalidInteger" = some (some (.ref X_InvalidInteger)))
    (at_InvalidLimits : PySem.W.nsIn K mainGlobals "InvalidLimits" = some (some (.ref X_InvalidLimits)))
    (at_InvalidLog : PySem.W.nsIn K mainGlobals "InvalidLog" = some (some (.ref X_InvalidLog)))
    (at_InvalidLogs : PySem.W.nsIn K mainGlobals "InvalidLogs" = some (some (.ref X_InvalidLogs)))
    (at_InvalidName : PySem.W.nsIn K mainGlobals "InvalidName" = some (some (.ref X_InvalidName)))
    (at_InvalidNames : PySem.W.nsIn K mainGlobals "InvalidNames" = some (some (.ref X_InvalidNames)))
    (at_InvalidPlan : PySem.W.nsIn K mainGlobals "InvalidPlan" = some (some (.ref X_InvalidPlan)))
    (at_InvalidRun : PySem.W.nsIn K mainGlobals "InvalidRun" = some (some (.ref X_InvalidRun)))
    (at_InvalidStock : PySem.W.nsIn K mainGlobals "InvalidStock" = some (some (.ref X_InvalidStock)))
    (at_InvalidText : PySem.W.nsIn K mainGlobals "InvalidText" = some (some (.ref X_InvalidText)))
    (at_InvalidTie : PySem.W.nsIn K mainGlobals "InvalidTie" = some (some (.ref X_InvalidTie)))
    (at_InvalidTies : PySem.W.nsIn K mainGlobals "InvalidTies" = some (some (.ref X_InvalidTies)))
    (at_Misfit : PySem.W.nsIn K mainGlobals "Misfit" = some (some (.ref X_Misfit)))
    (at_MissingError : PySem.W.nsIn K mainGlobals "MissingError" = some (some (.ref X_MissingError)))
    (at_NoEntry : PySem.W.nsIn K mainGlobals "NoEntry" = some (some (.ref X_NoEntry)))
    (at_NoRun : PySem.W.nsIn K mainGlobals "NoRun" = some (some (.ref X_NoRun)))
    (at_NoTie : PySem.W.nsIn K mainGlobals "NoTie" = some (some (.ref X_NoTie)))
    (at_NotBehind : PySem.W.nsIn K mainGlobals "NotBehind" = some (some (.ref X_NotBehind)))
    (at_NotMoment : PySem.W.nsIn K mainGlobals "NotMoment" = some (some (.ref X_NotMoment)))
    (at_NotPossible : PySem.W.nsIn K mainGlobals "NotPossible" = some (some (.ref X_NotPossible)))
    (at_NotSafe : PySem.W.nsIn K mainGlobals "NotSafe" = some (some (.ref X_NotSafe)))
    (at_NothingToRedo : PySem.W.nsIn K mainGlobals "NothingToRedo" = some (some (.ref X_NothingToRedo)))
    (at_NothingToUndo : PySem.W.nsIn K mainGlobals "NothingToUndo" = some (some (.ref X_NothingToUndo)))
    (at_PlanError : PySem.W.nsIn K mainGlobals "PlanError" = some (some (.ref X_PlanError)))
    (at_Ring : PySem.W.nsIn K mainGlobals "Ring" = some (some (.ref X_Ring)))
    (at_StateError : PySem.W.nsIn K mainGlobals "StateError" = some (some (.ref X_StateError)))
    (at_TooLong : PySem.W.nsIn K mainGlobals "TooLong" = some (some (.ref X_TooLong)))
    (at_TooMany : PySem.W.nsIn K mainGlobals "TooMany" = some (some (.ref X_TooMany)))
    (at_UnknownEvent : PySem.W.nsIn K mainGlobals "UnknownEvent" = some (some (.ref X_UnknownEvent)))
    (at_UnlikeEvents : PySem.W.nsIn K mainGlobals "UnlikeEvents" = some (some (.ref X_UnlikeEvents)))
    (bg_MissingError : PySem.W.specialIn K (.ref X_MissingError) "__getattribute__" = some (some (.builtin "type.__getattribute__")))
    (br_MissingError : PySem.W.readsIn K X_MissingError (.type "type") = true)
    (bi_MissingError : PySem.W.findCls K (.ref X_MissingError) (.type "type") "__init__" = some (.val (.builtin "KeyError.__init__")))
    (bg_PlanError : PySem.W.specialIn K (.ref X_PlanError) "__getattribute__" = some (some (.builtin "type.__getattribute__")))
    (br_PlanError : PySem.W.readsIn K X_PlanError (.type "type") = true)
    (bi_PlanError : PySem.W.findCls K (.ref X_PlanError) (.type "type") "__init__" = some (.val (.builtin "ValueError.__init__")))
    (bg_StateError : PySem.W.specialIn K (.ref X_StateError) "__getattribute__" = some (some (.builtin "type.__getattribute__")))
    (br_StateError : PySem.W.readsIn K X_StateError (.type "type") = true)
    (bi_StateError : PySem.W.findCls K (.ref X_StateError) (.type "type") "__init__" = some (.val (.builtin "LookupError.__init__")))
    (xl_MissingError : XlOk K X_MissingError [.type "KeyError", .type "LookupError", .type "Exception", .type "BaseException", .type "object"] "LookupError.__new__")
    (sa_MissingError : PySem.W.findIn K (.ref X_MissingError) "__setattr__" = some (some (.builtin "object.__setattr__")))
    (ty_MissingError : PySem.W.typeIn K (.ref X_MissingError) = some (.type "type"))
    (kp_MissingError : PySem.W.keepIn K (.ref X_MissingError) = true)
    (in_MissingError : PySem.W.findIn K (.ref X_MissingError) "__init__" = some (some (.builtin "KeyError.__init__")))
    (xl_PlanError : XlOk K X_PlanError [.type "ValueError", .type "Exception", .type "BaseException", .type "object"] "ValueError.__new__")
    (sa_PlanError : PySem.W.findIn K (.ref X_PlanError) "__setattr__" = some (some (.builtin "object.__setattr__")))
    (ty_PlanError : PySem.W.typeIn K (.ref X_PlanError) = some (.type "type"))
    (kp_PlanError : PySem.W.keepIn K (.ref X_PlanError) = true)
    (in_PlanError : PySem.W.findIn K (.ref X_PlanError) "__init__" = some (some (.builtin "ValueError.__init__")))
    (xl_StateError : XlOk K X_StateError [.type "LookupError", .type "Exception", .type "BaseException", .type "object"] "LookupError.__new__")
    (sa_StateError : PySem.W.findIn K (.ref X_StateError) "__setattr__" = some (some (.builtin "object.__setattr__")))
    (ty_StateError : PySem.W.typeIn K (.ref X_StateError) = some (.type "type"))
    (kp_StateError : PySem.W.keepIn K (.ref X_StateError) = true)
    (in_StateError : PySem.W.findIn K (.ref X_StateError) "__init__" = some (some (.builtin "LookupError.__init__")))
    (cxnF : cxnB xcnB K = true)
    (isxF : isxB xtB tsX K = true)
    (xfsF_bound : xfsB "bound" xns_bound K = true)
    (xfsF_event : xfsB "event" xns_event K = true)
    (xfsF_index : xfsB "index" xns_index K = true)
    (xfsF_members : xfsB "members" xns_members K = true)
    (xfsF_name : xfsB "name" xns_name K = true)
    (xfsF_total : xfsB "total" xns_total K = true)
    (xfsF_value : xfsB "value" xns_value K = true)
    (ex_Barred : PySem.W.subIn K (.ref X_Barred) (.type "BaseException") = some true)
    (ex_Duplicate : PySem.W.subIn K (.ref X_Duplicate) (.type "BaseException") = some true)
    (ex_Endless : PySem.W.subIn K (.ref X_Endless) (.type "BaseException") = some true)
    (ex_InvalidAmounts : PySem.W.subIn K (.ref X_InvalidAmounts) (.type "BaseException") = some true)
    (ex_InvalidBounds : PySem.W.subIn K (.ref X_InvalidBounds) (.type "BaseException") = some true)
    (ex_InvalidCommand : PySem.W.subIn K (.ref X_InvalidCommand) (.type "BaseException") = some true)
    (ex_InvalidCommands : PySem.W.subIn K (.ref X_InvalidCommands) (.type "BaseException") = some true)
    (ex_InvalidCounts : PySem.W.subIn K (.ref X_InvalidCounts) (.type "BaseException") = some true)
    (ex_InvalidEntry : PySem.W.subIn K (.ref X_InvalidEntry) (.type "BaseException") = some true)
    (ex_InvalidEvents : PySem.W.subIn K (.ref X_InvalidEvents) (.type "BaseException") = some true)
    (ex_InvalidInteger : PySem.W.subIn K (.ref X_InvalidInteger) (.type "BaseException") = some true)
    (ex_InvalidLimits : PySem.W.subIn K (.ref X_InvalidLimits) (.type "BaseException") = some true)
    (ex_InvalidLog : PySem.W.subIn K (.ref X_InvalidLog) (.type "BaseException") = some true)
    (ex_InvalidLogs : PySem.W.subIn K (.ref X_InvalidLogs) (.type "BaseException") = some true)
    (ex_InvalidName : PySem.W.subIn K (.ref X_InvalidName) (.type "BaseException") = some true)
    (ex_InvalidNames : PySem.W.subIn K (.ref X_InvalidNames) (.type "BaseException") = some true)
    (ex_InvalidPlan : PySem.W.subIn K (.ref X_InvalidPlan) (.type "BaseException") = some true)
    (ex_InvalidRun : PySem.W.subIn K (.ref X_InvalidRun) (.type "BaseException") = some true)
    (ex_InvalidStock : PySem.W.subIn K (.ref X_InvalidStock) (.type "BaseException") = some true)
    (ex_InvalidText : PySem.W.subIn K (.ref X_InvalidText) (.type "BaseException") = some true)
    (ex_InvalidTie : PySem.W.subIn K (.ref X_InvalidTie) (.type "BaseException") = some true)
    (ex_InvalidTies : PySem.W.subIn K (.ref X_InvalidTies) (.type "BaseException") = some true)
    (ex_Misfit : PySem.W.subIn K (.ref X_Misfit) (.type "BaseException") = some true)
    (ex_MissingError : PySem.W.subIn K (.ref X_MissingError) (.type "BaseException") = some true)
    (ex_NoEntry : PySem.W.subIn K (.ref X_NoEntry) (.type "BaseException") = some true)
    (ex_NoRun : PySem.W.subIn K (.ref X_NoRun) (.type "BaseException") = some true)
    (ex_NoTie : PySem.W.subIn K (.ref X_NoTie) (.type "BaseException") = some true)
    (ex_NotBehind : PySem.W.subIn K (.ref X_NotBehind) (.type "BaseException") = some true)
    (ex_NotMoment : PySem.W.subIn K (.ref X_NotMoment) (.type "BaseException") = some true)
    (ex_NotPossible : PySem.W.subIn K (.ref X_NotPossible) (.type "BaseException") = some true)
    (ex_NotSafe : PySem.W.subIn K (.ref X_NotSafe) (.type "BaseException") = some true)
    (ex_NothingToRedo : PySem.W.subIn K (.ref X_NothingToRedo) (.type "BaseException") = some true)
    (ex_NothingToUndo : PySem.W.subIn K (.ref X_NothingToUndo) (.type "BaseException") = some true)
    (ex_PlanError : PySem.W.subIn K (.ref X_PlanError) (.type "BaseException") = some true)
    (ex_Ring : PySem.W.subIn K (.ref X_Ring) (.type "BaseException") = some true)
    (ex_StateError : PySem.W.subIn K (.ref X_StateError) (.type "BaseException") = some true)
    (ex_TooLong : PySem.W.subIn K (.ref X_TooLong) (.type "BaseException") = some true)
    (ex_TooMany : PySem.W.subIn K (.ref X_TooMany) (.type "BaseException") = some true)
    (ex_UnknownEvent : PySem.W.subIn K (.ref X_UnknownEvent) (.type "BaseException") = some true)
    (ex_UnlikeEvents : PySem.W.subIn K (.ref X_UnlikeEvents) (.type "BaseException") = some true)
    (xl_Barred : XlOk K X_Barred [.ref X_StateError, .type "LookupError", .type "Exception", .type "BaseException", .type "object"] "LookupError.__new__")
    (sa_Barred : PySem.W.findIn K (.ref X_Barred) "__setattr__" = some (some (.builtin "object.__setattr__")))
    (ty_Barred : PySem.W.typeIn K (.ref X_Barred) = some (.type "type"))
    (kp_Barred : PySem.W.keepIn K (.ref X_Barred) = true)
    (in_Barred : PySem.W.findIn K (.ref X_Barred) "__init__" = some (some (.ref fI_Barred)))
    (ti_Barred : PySem.W.typeIn K (.ref fI_Barred) = some (.type "function"))
    (nf_Barred_index : PySem.W.findIn K (.ref X_Barred) "index" = some none)
    {fdI_Barred : FuncData} (D_Barred : Def3 K "__init__" "Barred.__init__" (inClass (topS 30) 0) [] [] fI_Barred fdI_Barred)
    (xl_Duplicate : XlOk K X_Duplicate [.ref X_PlanError, .type "ValueError", .type "Exception", .type "BaseException", .type "object"] "ValueError.__new__")
    (sa_Duplicate : PySem.W.findIn K (.ref X_Duplicate) "__setattr__" = some (some (.builtin "object.__setattr__")))
    (ty_Duplicate : PySem.W.typeIn K (.ref X_Duplicate) = some (.type "type"))
    (kp_Duplicate : PySem.W.keepIn K (.ref X_Duplicate) = true)
    (in_Duplicate : PySem.W.findIn K (.ref X_Duplicate) "__init__" = some (some (.ref fI_Duplicate)))
    (ti_Duplicate : PySem.W.typeIn K (.ref fI_Duplicate) = some (.type "function"))
    (nf_Duplicate_name : PySem.W.findIn K (.ref X_Duplicate) "name" = some none)
    {fdI_Duplicate : FuncData} (D_Duplicate : Def3 K "__init__" "Duplicate.__init__" (inClass (topS 6) 0) [] [] fI_Duplicate fdI_Duplicate)
    (xl_Endless : XlOk K X_Endless [.ref X_StateError, .type "LookupError", .type "Exception", .type "BaseException", .type "object"] "LookupError.__new__")
    (sa_Endless : PySem.W.findIn K (.ref X_Endless) "__setattr__" = some (some (.builtin "object.__setattr__")))
    (ty_Endless : PySem.W.typeIn K (.ref X_Endless) = some (.type "type"))
    (kp_Endless : PySem.W.keepIn K (.ref X_Endless) = true)
    (in_Endless : PySem.W.findIn K (.ref X_Endless) "__init__" = some (some (.ref fI_Endless)))
    (ti_Endless : PySem.W.typeIn K (.ref fI_Endless) = some (.type "function"))
    (nf_Endless_event : PySem.W.findIn K (.ref X_Endless) "event" = some none)
    {fdI_Endless : FuncData} (D_Endless : Def3 K "__init__" "Endless.__init__" (inClass (topS 34) 0) [] [] fI_Endless fdI_Endless)
    (xl_InvalidAmounts : XlOk K X_InvalidAmounts [.ref X_PlanError, .type "ValueError", .type "Exception", .type "BaseException", .type "object"] "ValueError.__new__")
    (sa_InvalidAmounts : PySem.W.findIn K (.ref X_InvalidAmounts) "__setattr__" = some (some (.builtin "object.__setattr__")))
    (ty_InvalidAmounts : PySem.W.typeIn K (.ref X_InvalidAmounts) = some (.type "type"))
    (kp_InvalidAmounts : PySem.W.keepIn K (.ref X_InvalidAmounts) = true)
    (in_InvalidAmounts : PySem.W.findIn K (.ref X_InvalidAmounts) "__init__" = some (some (.ref fI_InvalidAmounts)))
    (ti_InvalidAmounts : PySem.W.typeIn K (.ref fI_InvalidAmounts) = some (.type "function"))
    (nf_InvalidAmounts_value : PySem.W.findIn K (.ref X_InvalidAmounts) "value" = some none)
    {fdI_InvalidAmounts : FuncData} (D_InvalidAmounts : Def3 K "__init__" "InvalidAmounts.__init__" (inClass (topS 18) 0) [] [] fI_InvalidAmounts fdI_InvalidAmounts)
    (xl_InvalidBounds : XlOk K X_InvalidBounds [.ref X_PlanError, .type "ValueError", .type "Exception", .type "BaseException", .type "object"] "ValueError.__new__")
    (sa_InvalidBounds : PySem.W.findIn K (.ref X_InvalidBounds) "__setattr__" = some (some (.builtin "object.__setattr__")))
    (ty_InvalidBounds : PySem.W.typeIn K (.ref X_InvalidBounds) = some (.type "type"))
    (kp_InvalidBounds : PySem.W.keepIn K (.ref X_InvalidBounds) = true)
    (in_InvalidBounds : PySem.W.findIn K (.ref X_InvalidBounds) "__init__" = some (some (.ref fI_InvalidBounds)))
    (ti_InvalidBounds : PySem.W.typeIn K (.ref fI_InvalidBounds) = some (.type "function"))
    (nf_InvalidBounds_value : PySem.W.findIn K (.ref X_InvalidBounds) "value" = some none)
    {fdI_InvalidBounds : FuncData} (D_InvalidBounds : Def3 K "__init__" "InvalidBounds.__init__" (inClass (topS 19) 0) [] [] fI_InvalidBounds fdI_InvalidBounds)
    (xl_InvalidCommand : XlOk K X_InvalidCommand [.ref X_PlanError, .type "ValueError", .type "Exception", .type "BaseException", .type "object"] "ValueError.__new__")
    (sa_InvalidCommand : PySem.W.findIn K (.ref X_InvalidCommand) "__setattr__" = some (some (.builtin "object.__setattr__")))
    (ty_InvalidCommand : PySem.W.typeIn K (.ref X_InvalidCommand) = some (.type "type"))
    (kp_InvalidCommand : PySem.W.keepIn K (.ref X_InvalidCommand) = true)
    (in_InvalidCommand : PySem.W.findIn K (.ref X_InvalidCommand) "__init__" = some (some (.ref fI_InvalidCommand)))
    (ti_InvalidCommand : PySem.W.typeIn K (.ref fI_InvalidCommand) = some (.type "function"))
    (nf_InvalidCommand_value : PySem.W.findIn K (.ref X_InvalidCommand) "value" = some none)
    {fdI_InvalidCommand : FuncData} (D_InvalidCommand : Def3 K "__init__" "InvalidCommand.__init__" (inClass (topS 21) 0) [] [] fI_InvalidCommand fdI_InvalidCommand)
    (xl_InvalidCommands : XlOk K X_InvalidCommands [.ref X_PlanError, .type "ValueError", .type "Exception", .type "BaseException", .type "object"] "ValueError.__new__")
    (sa_InvalidCommands : PySem.W.findIn K (.ref X_InvalidCommands) "__setattr__" = some (some (.builtin "object.__setattr__")))
    (ty_InvalidCommands : PySem.W.typeIn K (.ref X_InvalidCommands) = some (.type "type"))
    (kp_InvalidCommands : PySem.W.keepIn K (.ref X_InvalidCommands) = true)
    (in_InvalidCommands : PySem.W.findIn K (.ref X_InvalidCommands) "__init__" = some (some (.ref fI_InvalidCommands)))
    (ti_InvalidCommands : PySem.W.typeIn K (.ref fI_InvalidCommands) = some (.type "function"))
    (nf_InvalidCommands_value : PySem.W.findIn K (.ref X_InvalidCommands) "value" = some none)
    {fdI_InvalidCommands : FuncData} (D_InvalidCommands : Def3 K "__init__" "InvalidCommands.__init__" (inClass (topS 22) 0) [] [] fI_InvalidCommands fdI_InvalidCommands)
    (xl_InvalidCounts : XlOk K X_InvalidCounts [.ref X_PlanError, .type "ValueError", .type "Exception", .type "BaseException", .type "object"] "ValueError.__new__")
    (sa_InvalidCounts : PySem.W.findIn K (.ref X_InvalidCounts) "__setattr__" = some (some (.builtin "object.__setattr__")))
    (ty_InvalidCounts : PySem.W.typeIn K (.ref X_InvalidCounts) = some (.type "type"))
    (kp_InvalidCounts : PySem.W.keepIn K (.ref X_InvalidCounts) = true)
    (in_InvalidCounts : PySem.W.findIn K (.ref X_InvalidCounts) "__init__" = some (some (.ref fI_InvalidCounts)))
    (ti_InvalidCounts : PySem.W.typeIn K (.ref fI_InvalidCounts) = some (.type "function"))
    (nf_InvalidCounts_value : PySem.W.findIn K (.ref X_InvalidCounts) "value" = some none)
    {fdI_InvalidCounts : FuncData} (D_InvalidCounts : Def3 K "__init__" "InvalidCounts.__init__" (inClass (topS 15) 0) [] [] fI_InvalidCounts fdI_InvalidCounts)
    (xl_InvalidEntry : XlOk K X_InvalidEntry [.ref X_PlanError, .type "ValueError", .type "Exception", .type "BaseException", .type "object"] "ValueError.__new__")
    (sa_InvalidEntry : PySem.W.findIn K (.ref X_InvalidEntry) "__setattr__" = some (some (.builtin "object.__setattr__")))
    (ty_InvalidEntry : PySem.W.typeIn K (.ref X_InvalidEntry) = some (.type "type"))
    (kp_InvalidEntry : PySem.W.keepIn K (.ref X_InvalidEntry) = true)
    (in_InvalidEntry : PySem.W.findIn K (.ref X_InvalidEntry) "__init__" = some (some (.ref fI_InvalidEntry)))
    (ti_InvalidEntry : PySem.W.typeIn K (.ref fI_InvalidEntry) = some (.type "function"))
    (nf_InvalidEntry_value : PySem.W.findIn K (.ref X_InvalidEntry) "value" = some none)
    {fdI_InvalidEntry : FuncData} (D_InvalidEntry : Def3 K "__init__" "InvalidEntry.__init__" (inClass (topS 26) 0) [] [] fI_InvalidEntry fdI_InvalidEntry)
    (xl_InvalidEvents : XlOk K X_InvalidEvents [.ref X_PlanError, .type "ValueError", .type "Exception", .type "BaseException", .type "object"] "ValueError.__new__")
    (sa_InvalidEvents : PySem.W.findIn K (.ref X_InvalidEvents) "__setattr__" = some (some (.builtin "object.__setattr__")))
    (ty_InvalidEvents : PySem.W.typeIn K (.ref X_InvalidEvents) = some (.type "type"))
    (kp_InvalidEvents : PySem.W.keepIn K (.ref X_InvalidEvents) = true)
    (in_InvalidEvents : PySem.W.findIn K (.ref X_InvalidEvents) "__init__" = some (some (.ref fI_InvalidEvents)))
    (ti_InvalidEvents : PySem.W.typeIn K (.ref fI_InvalidEvents) = some (.type "function"))
    (nf_InvalidEvents_value : PySem.W.findIn K (.ref X_InvalidEvents) "value" = some none)
    {fdI_InvalidEvents : FuncData} (D_InvalidEvents : Def3 K "__init__" "InvalidEvents.__init__" (inClass (topS 7) 0) [] [] fI_InvalidEvents fdI_InvalidEvents)
    (xl_InvalidInteger : XlOk K X_InvalidInteger [.ref X_PlanError, .type "ValueError", .type "Exception", .type "BaseException", .type "object"] "ValueError.__new__")
    (sa_InvalidInteger : PySem.W.findIn K (.ref X_InvalidInteger) "__setattr__" = some (some (.builtin "object.__setattr__")))
    (ty_InvalidInteger : PySem.W.typeIn K (.ref X_InvalidInteger) = some (.type "type"))
    (kp_InvalidInteger : PySem.W.keepIn K (.ref X_InvalidInteger) = true)
    (in_InvalidInteger : PySem.W.findIn K (.ref X_InvalidInteger) "__init__" = some (some (.ref fI_InvalidInteger)))
    (ti_InvalidInteger : PySem.W.typeIn K (.ref fI_InvalidInteger) = some (.type "function"))
    (nf_InvalidInteger_value : PySem.W.findIn K (.ref X_InvalidInteger) "value" = some none)
    {fdI_InvalidInteger : FuncData} (D_InvalidInteger : Def3 K "__init__" "InvalidInteger.__init__" (inClass (topS 4) 0) [] [] fI_InvalidInteger fdI_InvalidInteger)
    (xl_InvalidLimits : XlOk K X_InvalidLimits [.ref X_PlanError, .type "ValueError", .type "Exception", .type "BaseException", .type "object"] "ValueError.__new__")
    (sa_InvalidLimits : PySem.W.findIn K (.ref X_InvalidLimits) "__setattr__" = some (some (.builtin "object.__setattr__")))
    (ty_InvalidLimits : PySem.W.typeIn K (.ref X_InvalidLimits) = some (.type "type"))
    (kp_InvalidLimits : PySem.W.keepIn K (.ref X_InvalidLimits) = true)
    (in_InvalidLimits : PySem.W.findIn K (.ref X_InvalidLimits) "__init__" = some (some (.ref fI_InvalidLimits)))
    (ti_InvalidLimits : PySem.W.typeIn K (.ref fI_InvalidLimits) = some (.type "function"))
    (nf_InvalidLimits_value : PySem.W.findIn K (.ref X_InvalidLimits) "value" = some none)
    {fdI_InvalidLimits : FuncData} (D_InvalidLimits : Def3 K "__init__" "InvalidLimits.__init__" (inClass (topS 10) 0) [] [] fI_InvalidLimits fdI_InvalidLimits)
    (xl_InvalidLog : XlOk K X_InvalidLog [.ref X_PlanError, .type "ValueError", .type "Exception", .type "BaseException", .type "object"] "ValueError.__new__")
    (sa_InvalidLog : PySem.W.findIn K (.ref X_InvalidLog) "__setattr__" = some (some (.builtin "object.__setattr__")))
    (ty_InvalidLog : PySem.W.typeIn K (.ref X_InvalidLog) = some (.type "type"))
    (kp_InvalidLog : PySem.W.keepIn K (.ref X_InvalidLog) = true)
    (in_InvalidLog : PySem.W.findIn K (.ref X_InvalidLog) "__init__" = some (some (.ref fI_InvalidLog)))
    (ti_InvalidLog : PySem.W.typeIn K (.ref fI_InvalidLog) = some (.type "function"))
    (nf_InvalidLog_value : PySem.W.findIn K (.ref X_InvalidLog) "value" = some none)
    {fdI_InvalidLog : FuncData} (D_InvalidLog : Def3 K "__init__" "InvalidLog.__init__" (inClass (topS 24) 0) [] [] fI_InvalidLog fdI_InvalidLog)
    (xl_InvalidLogs : XlOk K X_InvalidLogs [.ref X_PlanError, .type "ValueError", .type "Exception", .type "BaseException", .type "object"] "ValueError.__new__")
    (sa_InvalidLogs : PySem.W.findIn K (.ref X_InvalidLogs) "__setattr__" = some (some (.builtin "object.__setattr__")))
    (ty_InvalidLogs : PySem.W.typeIn K (.ref X_InvalidLogs) = some (.type "type"))
    (kp_InvalidLogs : PySem.W.keepIn K (.ref X_InvalidLogs) = true)
    (in_InvalidLogs : PySem.W.findIn K (.ref X_InvalidLogs) "__init__" = some (some (.ref fI_InvalidLogs)))
    (ti_InvalidLogs : PySem.W.typeIn K (.ref fI_InvalidLogs) = some (.type "function"))
    (nf_InvalidLogs_value : PySem.W.findIn K (.ref X_InvalidLogs) "value" = some none)
    {fdI_InvalidLogs : FuncData} (D_InvalidLogs : Def3 K "__init__" "InvalidLogs.__init__" (inClass (topS 25) 0) [] [] fI_InvalidLogs fdI_InvalidLogs)
    (xl_InvalidName : XlOk K X_InvalidName [.ref X_PlanError, .type "ValueError", .type "Exception", .type "BaseException", .type "object"] "ValueError.__new__")
    (sa_InvalidName : PySem.W.findIn K (.ref X_InvalidName) "__setattr__" = some (some (.builtin "object.__setattr__")))
    (ty_InvalidName : PySem.W.typeIn K (.ref X_InvalidName) = some (.type "type"))
    (kp_InvalidName : PySem.W.keepIn K (.ref X_InvalidName) = true)
    (in_InvalidName : PySem.W.findIn K (.ref X_InvalidName) "__init__" = some (some (.ref fI_InvalidName)))
    (ti_InvalidName : PySem.W.typeIn K (.ref fI_InvalidName) = some (.type "function"))
    (nf_InvalidName_value : PySem.W.findIn K (.ref X_InvalidName) "value" = some none)
    {fdI_InvalidName : FuncData} (D_InvalidName : Def3 K "__init__" "InvalidName.__init__" (inClass (topS 5) 0) [] [] fI_InvalidName fdI_InvalidName)
    (xl_InvalidNames : XlOk K X_InvalidNames [.ref X_PlanError, .type "ValueError", .type "Exception", .type "BaseException", .type "object"] "ValueError.__new__")
    (sa_InvalidNames : PySem.W.findIn K (.ref X_InvalidNames) "__setattr__" = some (some (.builtin "object.__setattr__")))
    (ty_InvalidNames : PySem.W.typeIn K (.ref X_InvalidNames) = some (.type "type"))
    (kp_InvalidNames : PySem.W.keepIn K (.ref X_InvalidNames) = true)
    (in_InvalidNames : PySem.W.findIn K (.ref X_InvalidNames) "__init__" = some (some (.ref fI_InvalidNames)))
    (ti_InvalidNames : PySem.W.typeIn K (.ref fI_InvalidNames) = some (.type "function"))
    (nf_InvalidNames_value : PySem.W.findIn K (.ref X_InvalidNames) "value" = some none)
    {fdI_InvalidNames : FuncData} (D_InvalidNames : Def3 K "__init__" "InvalidNames.__init__" (inClass (topS 20) 0) [] [] fI_InvalidNames fdI_InvalidNames)
    (xl_InvalidPlan : XlOk K X_InvalidPlan [.ref X_PlanError, .type "ValueError", .type "Exception", .type "BaseException", .type "object"] "ValueError.__new__")
    (sa_InvalidPlan : PySem.W.findIn K (.ref X_InvalidPlan) "__setattr__" = some (some (.builtin "object.__setattr__")))
    (ty_InvalidPlan : PySem.W.typeIn K (.ref X_InvalidPlan) = some (.type "type"))
    (kp_InvalidPlan : PySem.W.keepIn K (.ref X_InvalidPlan) = true)
    (in_InvalidPlan : PySem.W.findIn K (.ref X_InvalidPlan) "__init__" = some (some (.ref fI_InvalidPlan)))
    (ti_InvalidPlan : PySem.W.typeIn K (.ref fI_InvalidPlan) = some (.type "function"))
    (nf_InvalidPlan_value : PySem.W.findIn K (.ref X_InvalidPlan) "value" = some none)
    {fdI_InvalidPlan : FuncData} (D_InvalidPlan : Def3 K "__init__" "InvalidPlan.__init__" (inClass (topS 12) 0) [] [] fI_InvalidPlan fdI_InvalidPlan)
    (xl_InvalidRun : XlOk K X_InvalidRun [.ref X_PlanError, .type "ValueError", .type "Exception", .type "BaseException", .type "object"] "ValueError.__new__")
    (sa_InvalidRun : PySem.W.findIn K (.ref X_InvalidRun) "__setattr__" = some (some (.builtin "object.__setattr__")))
    (ty_InvalidRun : PySem.W.typeIn K (.ref X_InvalidRun) = some (.type "type"))
    (kp_InvalidRun : PySem.W.keepIn K (.ref X_InvalidRun) = true)
    (in_InvalidRun : PySem.W.findIn K (.ref X_InvalidRun) "__init__" = some (some (.ref fI_InvalidRun)))
    (ti_InvalidRun : PySem.W.typeIn K (.ref fI_InvalidRun) = some (.type "function"))
    (nf_InvalidRun_value : PySem.W.findIn K (.ref X_InvalidRun) "value" = some none)
    {fdI_InvalidRun : FuncData} (D_InvalidRun : Def3 K "__init__" "InvalidRun.__init__" (inClass (topS 16) 0) [] [] fI_InvalidRun fdI_InvalidRun)
    (xl_InvalidStock : XlOk K X_InvalidStock [.ref X_PlanError, .type "ValueError", .type "Exception", .type "BaseException", .type "object"] "ValueError.__new__")
    (sa_InvalidStock : PySem.W.findIn K (.ref X_InvalidStock) "__setattr__" = some (some (.builtin "object.__setattr__")))
    (ty_InvalidStock : PySem.W.typeIn K (.ref X_InvalidStock) = some (.type "type"))
    (kp_InvalidStock : PySem.W.keepIn K (.ref X_InvalidStock) = true)
    (in_InvalidStock : PySem.W.findIn K (.ref X_InvalidStock) "__init__" = some (some (.ref fI_InvalidStock)))
    (ti_InvalidStock : PySem.W.typeIn K (.ref fI_InvalidStock) = some (.type "function"))
    (nf_InvalidStock_value : PySem.W.findIn K (.ref X_InvalidStock) "value" = some none)
    {fdI_InvalidStock : FuncData} (D_InvalidStock : Def3 K "__init__" "InvalidStock.__init__" (inClass (topS 17) 0) [] [] fI_InvalidStock fdI_InvalidStock)
    (xl_InvalidText : XlOk K X_InvalidText [.ref X_PlanError, .type "ValueError", .type "Exception", .type "BaseException", .type "object"] "ValueError.__new__")
    (sa_InvalidText : PySem.W.findIn K (.ref X_InvalidText) "__setattr__" = some (some (.builtin "object.__setattr__")))
    (ty_InvalidText : PySem.W.typeIn K (.ref X_InvalidText) = some (.type "type"))
    (kp_InvalidText : PySem.W.keepIn K (.ref X_InvalidText) = true)
    (in_InvalidText : PySem.W.findIn K (.ref X_InvalidText) "__init__" = some (some (.ref fI_InvalidText)))
    (ti_InvalidText : PySem.W.typeIn K (.ref fI_InvalidText) = some (.type "function"))
    (nf_InvalidText_value : PySem.W.findIn K (.ref X_InvalidText) "value" = some none)
    {fdI_InvalidText : FuncData} (D_InvalidText : Def3 K "__init__" "InvalidText.__init__" (inClass (topS 14) 0) [] [] fI_InvalidText fdI_InvalidText)
    (xl_InvalidTie : XlOk K X_InvalidTie [.ref X_PlanError, .type "ValueError", .type "Exception", .type "BaseException", .type "object"] "ValueError.__new__")
    (sa_InvalidTie : PySem.W.findIn K (.ref X_InvalidTie) "__setattr__" = some (some (.builtin "object.__setattr__")))
    (ty_InvalidTie : PySem.W.typeIn K (.ref X_InvalidTie) = some (.type "type"))
    (kp_InvalidTie : PySem.W.keepIn K (.ref X_InvalidTie) = true)
    (in_InvalidTie : PySem.W.findIn K (.ref X_InvalidTie) "__init__" = some (some (.ref fI_InvalidTie)))
    (ti_InvalidTie : PySem.W.typeIn K (.ref fI_InvalidTie) = some (.type "function"))
    (nf_InvalidTie_value : PySem.W.findIn K (.ref X_InvalidTie) "value" = some none)
    {fdI_InvalidTie : FuncData} (D_InvalidTie : Def3 K "__init__" "InvalidTie.__init__" (inClass (topS 9) 0) [] [] fI_InvalidTie fdI_InvalidTie)
    (xl_InvalidTies : XlOk K X_InvalidTies [.ref X_PlanError, .type "ValueError", .type "Exception", .type "BaseException", .type "object"] "ValueError.__new__")
    (sa_InvalidTies : PySem.W.findIn K (.ref X_InvalidTies) "__setattr__" = some (some (.builtin "object.__setattr__")))
    (ty_InvalidTies : PySem.W.typeIn K (.ref X_InvalidTies) = some (.type "type"))
    (kp_InvalidTies : PySem.W.keepIn K (.ref X_InvalidTies) = true)
    (in_InvalidTies : PySem.W.findIn K (.ref X_InvalidTies) "__init__" = some (some (.ref fI_InvalidTies)))
    (ti_InvalidTies : PySem.W.typeIn K (.ref fI_InvalidTies) = some (.type "function"))
    (nf_InvalidTies_value : PySem.W.findIn K (.ref X_InvalidTies) "value" = some none)
    {fdI_InvalidTies : FuncData} (D_InvalidTies : Def3 K "__init__" "InvalidTies.__init__" (inClass (topS 8) 0) [] [] fI_InvalidTies fdI_InvalidTies)
    (xl_Misfit : XlOk K X_Misfit [.ref X_StateError, .type "LookupError", .type "Exception", .type "BaseException", .type "object"] "LookupError.__new__")
    (sa_Misfit : PySem.W.findIn K (.ref X_Misfit) "__setattr__" = some (some (.builtin "object.__setattr__")))
    (ty_Misfit : PySem.W.typeIn K (.ref X_Misfit) = some (.type "type"))
    (kp_Misfit : PySem.W.keepIn K (.ref X_Misfit) = true)
    (in_Misfit : PySem.W.findIn K (.ref X_Misfit) "__init__" = some (some (.ref fI_Misfit)))
    (ti_Misfit : PySem.W.typeIn K (.ref fI_Misfit) = some (.type "function"))
    (nf_Misfit_index : PySem.W.findIn K (.ref X_Misfit) "index" = some none)
    {fdI_Misfit : FuncData} (D_Misfit : Def3 K "__init__" "Misfit.__init__" (inClass (topS 36) 0) [] [] fI_Misfit fdI_Misfit)
    (xl_NoEntry : XlOk K X_NoEntry [.ref X_MissingError, .type "KeyError", .type "LookupError", .type "Exception", .type "BaseException", .type "object"] "LookupError.__new__")
    (sa_NoEntry : PySem.W.findIn K (.ref X_NoEntry) "__setattr__" = some (some (.builtin "object.__setattr__")))
    (ty_NoEntry : PySem.W.typeIn K (.ref X_NoEntry) = some (.type "type"))
    (kp_NoEntry : PySem.W.keepIn K (.ref X_NoEntry) = true)
    (in_NoEntry : PySem.W.findIn K (.ref X_NoEntry) "__init__" = some (some (.ref fI_NoEntry)))
    (ti_NoEntry : PySem.W.typeIn K (.ref fI_NoEntry) = some (.type "function"))
    (nf_NoEntry_name : PySem.W.findIn K (.ref X_NoEntry) "name" = some none)
    {fdI_NoEntry : FuncData} (D_NoEntry : Def3 K "__init__" "NoEntry.__init__" (inClass (topS 29) 0) [] [] fI_NoEntry fdI_NoEntry)
    (xl_NoRun : XlOk K X_NoRun [.ref X_StateError, .type "LookupError", .type "Exception", .type "BaseException", .type "object"] "LookupError.__new__")
    (sa_NoRun : PySem.W.findIn K (.ref X_NoRun) "__setattr__" = some (some (.builtin "object.__setattr__")))
    (ty_NoRun : PySem.W.typeIn K (.ref X_NoRun) = some (.type "type"))
    (kp_NoRun : PySem.W.keepIn K (.ref X_NoRun) = true)
    (in_NoRun : PySem.W.findIn K (.ref X_NoRun) "__init__" = some (some (.ref fI_NoRun)))
    (ti_NoRun : PySem.W.typeIn K (.ref fI_NoRun) = some (.type "function"))
    {fdI_NoRun : FuncData} (D_NoRun : Def3 K "__init__" "NoRun.__init__" (inClass (topS 38) 0) [] [] fI_NoRun fdI_NoRun)
    (xl_NoTie : XlOk K X_NoTie [.ref X_MissingError, .type "KeyError", .type "LookupError", .type "Exception", .type "BaseException", .type "object"] "LookupError.__new__")
    (sa_NoTie : PySem.W.findIn K (.ref X_NoTie) "__setattr__" = some (some (.builtin "object.__setattr__")))
    (ty_NoTie : PySem.W.typeIn K (.ref X_NoTie) = some (.type "type"))
    (kp_NoTie : PySem.W.keepIn K (.ref X_NoTie) = true)
    (in_NoTie : PySem.W.findIn K (.ref X_NoTie) "__init__" = some (some (.ref fI_NoTie)))
    (ti_NoTie : PySem.W.typeIn K (.ref fI_NoTie) = some (.type "function"))
    (nf_NoTie_index : PySem.W.findIn K (.ref X_NoTie) "index" = some none)
    {fdI_NoTie : FuncData} (D_NoTie : Def3 K "__init__" "NoTie.__init__" (inClass (topS 28) 0) [] [] fI_NoTie fdI_NoTie)
    (xl_NotBehind : XlOk K X_NotBehind [.ref X_StateError, .type "LookupError", .type "Exception", .type "BaseException", .type "object"] "LookupError.__new__")
    (sa_NotBehind : PySem.W.findIn K (.ref X_NotBehind) "__setattr__" = some (some (.builtin "object.__setattr__")))
    (ty_NotBehind : PySem.W.typeIn K (.ref X_NotBehind) = some (.type "type"))
    (kp_NotBehind : PySem.W.keepIn K (.ref X_NotBehind) = true)
    (in_NotBehind : PySem.W.findIn K (.ref X_NotBehind) "__init__" = some (some (.ref fI_NotBehind)))
    (ti_NotBehind : PySem.W.typeIn K (.ref fI_NotBehind) = some (.type "function"))
    (nf_NotBehind_value : PySem.W.findIn K (.ref X_NotBehind) "value" = some none)
    {fdI_NotBehind : FuncData} (D_NotBehind : Def3 K "__init__" "NotBehind.__init__" (inClass (topS 32) 0) [] [] fI_NotBehind fdI_NotBehind)
    (xl_NotMoment : XlOk K X_NotMoment [.ref X_StateError, .type "LookupError", .type "Exception", .type "BaseException", .type "object"] "LookupError.__new__")
    (sa_NotMoment : PySem.W.findIn K (.ref X_NotMoment) "__setattr__" = some (some (.builtin "object.__setattr__")))
    (ty_NotMoment : PySem.W.typeIn K (.ref X_NotMoment) = some (.type "type"))
    (kp_NotMoment : PySem.W.keepIn K (.ref X_NotMoment) = true)
    (in_NotMoment : PySem.W.findIn K (.ref X_NotMoment) "__init__" = some (some (.ref fI_NotMoment)))
    (ti_NotMoment : PySem.W.typeIn K (.ref fI_NotMoment) = some (.type "function"))
    (nf_NotMoment_value : PySem.W.findIn K (.ref X_NotMoment) "value" = some none)
    {fdI_NotMoment : FuncData} (D_NotMoment : Def3 K "__init__" "NotMoment.__init__" (inClass (topS 31) 0) [] [] fI_NotMoment fdI_NotMoment)
    (xl_NotPossible : XlOk K X_NotPossible [.ref X_StateError, .type "LookupError", .type "Exception", .type "BaseException", .type "object"] "LookupError.__new__")
    (sa_NotPossible : PySem.W.findIn K (.ref X_NotPossible) "__setattr__" = some (some (.builtin "object.__setattr__")))
    (ty_NotPossible : PySem.W.typeIn K (.ref X_NotPossible) = some (.type "type"))
    (kp_NotPossible : PySem.W.keepIn K (.ref X_NotPossible) = true)
    (in_NotPossible : PySem.W.findIn K (.ref X_NotPossible) "__init__" = some (some (.ref fI_NotPossible)))
    (ti_NotPossible : PySem.W.typeIn K (.ref fI_NotPossible) = some (.type "function"))
    {fdI_NotPossible : FuncData} (D_NotPossible : Def3 K "__init__" "NotPossible.__init__" (inClass (topS 35) 0) [] [] fI_NotPossible fdI_NotPossible)
    (xl_NotSafe : XlOk K X_NotSafe [.ref X_StateError, .type "LookupError", .type "Exception", .type "BaseException", .type "object"] "LookupError.__new__")
    (sa_NotSafe : PySem.W.findIn K (.ref X_NotSafe) "__setattr__" = some (some (.builtin "object.__setattr__")))
    (ty_NotSafe : PySem.W.typeIn K (.ref X_NotSafe) = some (.type "type"))
    (kp_NotSafe : PySem.W.keepIn K (.ref X_NotSafe) = true)
    (in_NotSafe : PySem.W.findIn K (.ref X_NotSafe) "__init__" = some (some (.ref fI_NotSafe)))
    (ti_NotSafe : PySem.W.typeIn K (.ref fI_NotSafe) = some (.type "function"))
    (nf_NotSafe_index : PySem.W.findIn K (.ref X_NotSafe) "index" = some none)
    {fdI_NotSafe : FuncData} (D_NotSafe : Def3 K "__init__" "NotSafe.__init__" (inClass (topS 37) 0) [] [] fI_NotSafe fdI_NotSafe)
    (xl_NothingToRedo : XlOk K X_NothingToRedo [.ref X_StateError, .type "LookupError", .type "Exception", .type "BaseException", .type "object"] "LookupError.__new__")
    (sa_NothingToRedo : PySem.W.findIn K (.ref X_NothingToRedo) "__setattr__" = some (some (.builtin "object.__setattr__")))
    (ty_NothingToRedo : PySem.W.typeIn K (.ref X_NothingToRedo) = some (.type "type"))
    (kp_NothingToRedo : PySem.W.keepIn K (.ref X_NothingToRedo) = true)
    (in_NothingToRedo : PySem.W.findIn K (.ref X_NothingToRedo) "__init__" = some (some (.ref fI_NothingToRedo)))
    (ti_NothingToRedo : PySem.W.typeIn K (.ref fI_NothingToRedo) = some (.type "function"))
    {fdI_NothingToRedo : FuncData} (D_NothingToRedo : Def3 K "__init__" "NothingToRedo.__init__" (inClass (topS 40) 0) [] [] fI_NothingToRedo fdI_NothingToRedo)
    (xl_NothingToUndo : XlOk K X_NothingToUndo [.ref X_StateError, .type "LookupError", .type "Exception", .type "BaseException", .type "object"] "LookupError.__new__")
    (sa_NothingToUndo : PySem.W.findIn K (.ref X_NothingToUndo) "__setattr__" = some (some (.builtin "object.__setattr__")))
    (ty_NothingToUndo : PySem.W.typeIn K (.ref X_NothingToUndo) = some (.type "type"))
    (kp_NothingToUndo : PySem.W.keepIn K (.ref X_NothingToUndo) = true)
    (in_NothingToUndo : PySem.W.findIn K (.ref X_NothingToUndo) "__init__" = some (some (.ref fI_NothingToUndo)))
    (ti_NothingToUndo : PySem.W.typeIn K (.ref fI_NothingToUndo) = some (.type "function"))
    {fdI_NothingToUndo : FuncData} (D_NothingToUndo : Def3 K "__init__" "NothingToUndo.__init__" (inClass (topS 39) 0) [] [] fI_NothingToUndo fdI_NothingToUndo)
    (xl_Ring : XlOk K X_Ring [.ref X_PlanError, .type "ValueError", .type "Exception", .type "BaseException", .type "object"] "ValueError.__new__")
    (sa_Ring : PySem.W.findIn K (.ref X_Ring) "__setattr__" = some (some (.builtin "object.__setattr__")))
    (ty_Ring : PySem.W.typeIn K (.ref X_Ring) = some (.type "type"))
    (kp_Ring : PySem.W.keepIn K (.ref X_Ring) = true)
    (in_Ring : PySem.W.findIn K (.ref X_Ring) "__init__" = some (some (.ref fI_Ring)))
    (ti_Ring : PySem.W.typeIn K (.ref fI_Ring) = some (.type "function"))
    (nf_Ring_members : PySem.W.findIn K (.ref X_Ring) "members" = some none)
    {fdI_Ring : FuncData} (D_Ring : Def3 K "__init__" "Ring.__init__" (inClass (topS 11) 0) [] [] fI_Ring fdI_Ring)
    (xl_TooLong : XlOk K X_TooLong [.ref X_StateError, .type "LookupError", .type "Exception", .type "BaseException", .type "object"] "LookupError.__new__")
    (sa_TooLong : PySem.W.findIn K (.ref X_TooLong) "__setattr__" = some (some (.builtin "object.__setattr__")))
    (ty_TooLong : PySem.W.typeIn K (.ref X_TooLong) = some (.type "type"))
    (kp_TooLong : PySem.W.keepIn K (.ref X_TooLong) = true)
    (in_TooLong : PySem.W.findIn K (.ref X_TooLong) "__init__" = some (some (.ref fI_TooLong)))
    (ti_TooLong : PySem.W.typeIn K (.ref fI_TooLong) = some (.type "function"))
    (nf_TooLong_total : PySem.W.findIn K (.ref X_TooLong) "total" = some none)
    {fdI_TooLong : FuncData} (D_TooLong : Def3 K "__init__" "TooLong.__init__" (inClass (topS 33) 0) [] [] fI_TooLong fdI_TooLong)
    (xl_TooMany : XlOk K X_TooMany [.ref X_PlanError, .type "ValueError", .type "Exception", .type "BaseException", .type "object"] "ValueError.__new__")
    (sa_TooMany : PySem.W.findIn K (.ref X_TooMany) "__setattr__" = some (some (.builtin "object.__setattr__")))
    (ty_TooMany : PySem.W.typeIn K (.ref X_TooMany) = some (.type "type"))
    (kp_TooMany : PySem.W.keepIn K (.ref X_TooMany) = true)
    (in_TooMany : PySem.W.findIn K (.ref X_TooMany) "__init__" = some (some (.ref fI_TooMany)))
    (ti_TooMany : PySem.W.typeIn K (.ref fI_TooMany) = some (.type "function"))
    (nf_TooMany_bound : PySem.W.findIn K (.ref X_TooMany) "bound" = some none)
    {fdI_TooMany : FuncData} (D_TooMany : Def3 K "__init__" "TooMany.__init__" (inClass (topS 23) 0) [] [] fI_TooMany fdI_TooMany)
    (xl_UnknownEvent : XlOk K X_UnknownEvent [.ref X_MissingError, .type "KeyError", .type "LookupError", .type "Exception", .type "BaseException", .type "object"] "LookupError.__new__")
    (sa_UnknownEvent : PySem.W.findIn K (.ref X_UnknownEvent) "__setattr__" = some (some (.builtin "object.__setattr__")))
    (ty_UnknownEvent : PySem.W.typeIn K (.ref X_UnknownEvent) = some (.type "type"))
    (kp_UnknownEvent : PySem.W.keepIn K (.ref X_UnknownEvent) = true)
    (in_UnknownEvent : PySem.W.findIn K (.ref X_UnknownEvent) "__init__" = some (some (.ref fI_UnknownEvent)))
    (ti_UnknownEvent : PySem.W.typeIn K (.ref fI_UnknownEvent) = some (.type "function"))
    (nf_UnknownEvent_name : PySem.W.findIn K (.ref X_UnknownEvent) "name" = some none)
    {fdI_UnknownEvent : FuncData} (D_UnknownEvent : Def3 K "__init__" "UnknownEvent.__init__" (inClass (topS 27) 0) [] [] fI_UnknownEvent fdI_UnknownEvent)
    (xl_UnlikeEvents : XlOk K X_UnlikeEvents [.ref X_PlanError, .type "ValueError", .type "Exception", .type "BaseException", .type "object"] "ValueError.__new__")
    (sa_UnlikeEvents : PySem.W.findIn K (.ref X_UnlikeEvents) "__setattr__" = some (some (.builtin "object.__setattr__")))
    (ty_UnlikeEvents : PySem.W.typeIn K (.ref X_UnlikeEvents) = some (.type "type"))
    (kp_UnlikeEvents : PySem.W.keepIn K (.ref X_UnlikeEvents) = true)
    (in_UnlikeEvents : PySem.W.findIn K (.ref X_UnlikeEvents) "__init__" = some (some (.ref fI_UnlikeEvents)))
    (ti_UnlikeEvents : PySem.W.typeIn K (.ref fI_UnlikeEvents) = some (.type "function"))
    (nf_UnlikeEvents_members : PySem.W.findIn K (.ref X_UnlikeEvents) "members" = some none)
    {fdI_UnlikeEvents : FuncData} (D_UnlikeEvents : Def3 K "__init__" "UnlikeEvents.__init__" (inClass (topS 13) 0) [] [] fI_UnlikeEvents fdI_UnlikeEvents)
    (a0 : PySem.W.nsIn K mainGlobals "_law_box" = some (some (.ref f0)))
    {fd0 : FuncData} (F0 : Def3 K "_law_box" "_law_box" (topS 43) [] [] f0 fd0)
    (a1 : PySem.W.nsIn K mainGlobals "_law_cell" = some (some (.ref f1)))
    {fd1 : FuncData} (F1 : Def3 K "_law_cell" "_law_cell" (topS 42) [] [] f1 fd1)
    (a2 : PySem.W.nsIn K mainGlobals "_law_take" = some (some (.ref f2)))
    {fd2 : FuncData} (F2 : Def3 K "_law_take" "_law_take" (topS 44) [] [] f2 fd2)
    (a3 : PySem.W.nsIn K mainGlobals "_law_value" = some (some (.ref f3)))
    {fd3 : FuncData} (F3 : Def3 K "_law_value" "_law_value" (topS 45) [] [] f3 fd3)
    (a4 : PySem.W.nsIn K mainGlobals "_law_made" = some (some (.ref f4)))
    {fd4 : FuncData} (F4 : Def3 K "_law_made" "_law_made" (topS 46) [] [] f4 fd4)
    (a5 : PySem.W.nsIn K mainGlobals "_law_kinds" = some (some (.ref f5)))
    {fd5 : FuncData} (F5 : Def3 K "_law_kinds" "_law_kinds" (topS 48) [] [] f5 fd5)
    (a6 : PySem.W.nsIn K mainGlobals "_law_bases" = some (some (.ref f6)))
    {fd6 : FuncData} (F6 : Def3 K "_law_bases" "_law_bases" (topS 49) [] [] f6 fd6)
    (a7 : PySem.W.nsIn K mainGlobals "_law_due" = some (some (.ref f7)))
    {fd7 : FuncData} (F7 : Def3 K "_law_due" "_law_due" (topS 50) [] [] f7 fd7)
    (a8 : PySem.W.nsIn K mainGlobals "_law_field" = some (some (.ref f8)))
    {fd8 : FuncData} (F8 : Def3 K "_law_field" "_law_field" (topS 47) [] [] f8 fd8)
    (a9 : PySem.W.nsIn K mainGlobals "law" = some (some (.ref f9)))
    {fd9 : FuncData} (F9 : Def3 K "law" "law" (topS 51) [] [] f9 fd9)
    (z_IndexError : PySem.W.nsIn K mainGlobals "IndexError" = some none)
    (z_KeyError : PySem.W.nsIn K mainGlobals "KeyError" = some none)
    (z_LookupError : PySem.W.nsIn K mainGlobals "LookupError" = some none)
    (z_ValueError : PySem.W.nsIn K mainGlobals "ValueError" = some none)
    (z_dict : PySem.W.nsIn K mainGlobals "dict" = some none)
    (z_enumerate : PySem.W.nsIn K mainGlobals "enumerate" = some none)
    (z_isinstance : PySem.W.nsIn K mainGlobals "isinstance" = some none)
    (z_len : PySem.W.nsIn K mainGlobals "len" = some none)
    (z_list : PySem.W.nsIn K mainGlobals "list" = some none)
    (z_max : PySem.W.nsIn K mainGlobals "max" = some none)
    (z_min : PySem.W.nsIn K mainGlobals "min" = some none)
    (z_range : PySem.W.nsIn K mainGlobals "range" = some none)
    (z_repr : PySem.W.nsIn K mainGlobals "repr" = some none)
    (z_tuple : PySem.W.nsIn K mainGlobals "tuple" = some none)
    : ∃ fd : FuncData, (∀ (s : Shared) (v : Value), BindsTo s fd ⟨[v], []⟩ [("_law_script", v)]) ∧ ∀ base : Heap, K.In base → base.Ns mainGlobals mg → BaseS base → FnG l.prog w K mg base CX0 4 fa fd ["_law_script"] (lift ⟨K, l.prog, w⟩ 1 sp_law) := by
  have e := hfa.symm.trans (PySem.W.mg_of X G a9)
  cases e
  have T : Bl K mg := ⟨PySem.W.mg_none_of X G z_IndexError, PySem.W.mg_none_of X G z_KeyError, PySem.W.mg_none_of X G z_LookupError, PySem.W.mg_none_of X G z_ValueError, PySem.W.mg_none_of X G z_dict, PySem.W.mg_none_of X G z_enumerate, PySem.W.mg_none_of X G z_isinstance, PySem.W.mg_none_of X G z_len, PySem.W.mg_none_of X G z_list, PySem.W.mg_none_of X G z_max, PySem.W.mg_none_of X G z_min, PySem.W.mg_none_of X G z_range, PySem.W.mg_none_of X G z_repr, PySem.W.mg_none_of X G z_tuple, cxn_of X G cxnF, isx_of isxF, xfs_of xfsF_bound, xfs_of xfsF_event, xfs_of xfsF_index, xfs_of xfsF_members, xfs_of xfsF_name, xfs_of xfsF_total, xfs_of xfsF_value⟩
  have k0 := F0.kp
  have k1 := F1.kp
  have k2 := F2.kp
  have k3 := F3.kp
  have k4 := F4.kp
  have k5 := F5.kp
  have k6 := F6.kp
  have k7 := F7.kp
  have k8 := F8.kp
  have k9 := F9.kp
  refine ⟨fd9, F9.binds1 (fun _ _ _ _ _ _ _ => rfl), fun base _ _ BX => ?_⟩
  have xb_MissingError : XBase K mg "MissingError" "KeyError" "KeyError.__init__" := ⟨⟨_, PySem.W.mg_of X G at_MissingError, bg_MissingError, br_MissingError, bi_MissingError⟩, rfl, xini_KeyError⟩
  have xb_PlanError : XBase K mg "PlanError" "ValueError" "ValueError.__init__" := ⟨⟨_, PySem.W.mg_of X G at_PlanError, bg_PlanError, br_PlanError, bi_PlanError⟩, rfl, (XIni.of PySem.F.excBase_ValueError)⟩
  have xb_StateError : XBase K mg "StateError" "LookupError" "LookupError.__init__" := ⟨⟨_, PySem.W.mg_of X G at_StateError, bg_StateError, br_StateError, bi_StateError⟩, rfl, (XIni.of PySem.F.excBase_LookupError)⟩
  have O_Barred : OexG K X_Barred [.ref X_StateError, .type "LookupError", .type "Exception", .type "BaseException", .type "object"] := (let ⟨nm, q, N, bs, sn, sub, ab, col, dd, p0, p1, p2, p3, p5, z⟩ := xl_Barred; ⟨⟨nm, q, N, bs, sn, sub, ab, col, dd, p0, p1, p2, p3, p5, _, _, z, (XNew.of PySem.F.excBase_LookupError), rfl⟩, rfl, rfl, rfl, fun self => pass_own rfl, sa_Barred, ex_Barred, ty_Barred, kp_Barred⟩)
  have x_Barred : XMk l.prog w K mg base 1 "Barred" "index" := xmk_of at_Barred (PySem.W.mg_of X G at_Barred) O_Barred in_Barred ti_Barred (D_Barred.bindA (ps := ["self", "index"]) 2 rfl fun _ _ _ _ _ _ us hl => match us, hl with | [_, _], _ => rfl) (xi_Barred xb_StateError D_Barred O_Barred nf_Barred_index rfl)
  have O_Duplicate : OexG K X_Duplicate [.ref X_PlanError, .type "ValueError", .type "Exception", .type "BaseException", .type "object"] := (let ⟨nm, q, N, bs, sn, sub, ab, col, dd, p0, p1, p2, p3, p5, z⟩ := xl_Duplicate; ⟨⟨nm, q, N, bs, sn, sub, ab, col, dd, p0, p1, p2, p3, p5, _, _, z, (XNew.of PySem.F.excBase_ValueError), rfl⟩, rfl, rfl, rfl, fun self => pass_own rfl, sa_Duplicate, ex_Duplicate, ty_Duplicate, kp_Duplicate⟩)
  have x_Duplicate : XMk l.prog w K mg base 1 "Duplicate" "name" := xmk_of at_Duplicate (PySem.W.mg_of X G at_Duplicate) O_Duplicate in_Duplicate ti_Duplicate (D_Duplicate.bindA (ps := ["self", "name"]) 2 rfl fun _ _ _ _ _ _ us hl => match us, hl with | [_, _], _ => rfl) (xi_Duplicate xb_PlanError D_Duplicate O_Duplicate nf_Duplicate_name rfl)
  have O_Endless : OexG K X_Endless [.ref X_StateError, .type "LookupError", .type "Exception", .type "BaseException", .type "object"] := (let ⟨nm, q, N, bs, sn, sub, ab, col, dd, p0, p1, p2, p3, p5, z⟩ := xl_Endless; ⟨⟨nm, q, N, bs, sn, sub, ab, col, dd, p0, p1, p2, p3, p5, _, _, z, (XNew.of PySem.F.excBase_LookupError), rfl⟩, rfl, rfl, rfl, fun self => pass_own rfl, sa_Endless, ex_Endless, ty_Endless, kp_Endless⟩)
  have x_Endless : XMk l.prog w K mg base 1 "Endless" "event" := xmk_of at_Endless (PySem.W.mg_of X G at_Endless) O_Endless in_Endless ti_Endless (D_Endless.bindA (ps := ["self", "event"]) 2 rfl fun _ _ _ _ _ _ us hl => match us, hl with | [_, _], _ => rfl) (xi_Endless xb_StateError D_Endless O_Endless nf_Endless_event rfl)
  have O_InvalidAmounts : OexG K X_InvalidAmounts [.ref X_PlanError, .type "ValueError", .type "Exception", .type "BaseException", .type "object"] := (let ⟨nm, q, N, bs, sn, sub, ab, col, dd, p0, p1, p2, p3, p5, z⟩ := xl_InvalidAmounts; ⟨⟨nm, q, N, bs, sn, sub, ab, col, dd, p0, p1, p2, p3, p5, _, _, z, (XNew.of PySem.F.excBase_ValueError), rfl⟩, rfl, rfl, rfl, fun self => pass_own rfl, sa_InvalidAmounts, ex_InvalidAmounts, ty_InvalidAmounts, kp_InvalidAmounts⟩)
  have x_InvalidAmounts : XMk l.prog w K mg base 1 "InvalidAmounts" "value" := xmk_of at_InvalidAmounts (PySem.W.mg_of X G at_InvalidAmounts) O_InvalidAmounts in_InvalidAmounts ti_InvalidAmounts (D_InvalidAmounts.bindA (ps := ["self", "value"]) 2 rfl fun _ _ _ _ _ _ us hl => match us, hl with | [_, _], _ => rfl) (xi_InvalidAmounts xb_PlanError D_InvalidAmounts O_InvalidAmounts nf_InvalidAmounts_value rfl)
  have O_InvalidBounds : OexG K X_InvalidBounds [.ref X_PlanError, .type "ValueError", .type "Exception", .type "BaseException", .type "object"] := (let ⟨nm, q, N, bs, sn, sub, ab, col, dd, p0, p1, p2, p3, p5, z⟩ := xl_InvalidBounds; ⟨⟨nm, q, N, bs, sn, sub, ab, col, dd, p0, p1, p2, p3, p5, _, _, z, (XNew.of PySem.F.excBase_ValueError), rfl⟩, rfl, rfl, rfl, fun self => pass_own rfl, sa_InvalidBounds, ex_InvalidBounds, ty_InvalidBounds, kp_InvalidBounds⟩)
  have x_InvalidBounds : XMk l.prog w K mg base 1 "InvalidBounds" "value" := xmk_of at_InvalidBounds (PySem.W.mg_of X G at_InvalidBounds) O_InvalidBounds in_InvalidBounds ti_InvalidBounds (D_InvalidBounds.bindA (ps := ["self", "value"]) 2 rfl fun _ _ _ _ _ _ us hl => match us, hl with | [_, _], _ => rfl) (xi_InvalidBounds xb_PlanError D_InvalidBounds O_InvalidBounds nf_InvalidBounds_value rfl)
  have O_InvalidCommand : OexG K X_InvalidCommand [.ref X_PlanError, .type "ValueError", .type "Exception", .type "BaseException", .type "object"] := (let ⟨nm, q, N, bs, sn, sub, ab, col, dd, p0, p1, p2, p3, p5, z⟩ := xl_InvalidCommand; ⟨⟨nm, q, N, bs, sn, sub, ab, col, dd, p0, p1, p2, p3, p5, _, _, z, (XNew.of PySem.F.excBase_ValueError), rfl⟩, rfl, rfl, rfl, fun self => pass_own rfl, sa_InvalidCommand, ex_InvalidCommand, ty_InvalidCommand, kp_InvalidCommand⟩)
  have x_InvalidCommand : XMk l.prog w K mg base 1 "InvalidCommand" "value" := xmk_of at_InvalidCommand (PySem.W.mg_of X G at_InvalidCommand) O_InvalidCommand in_InvalidCommand ti_InvalidCommand (D_InvalidCommand.bindA (ps := ["self", "value"]) 2 rfl fun _ _ _ _ _ _ us hl => match us, hl with | [_, _], _ => rfl) (xi_InvalidCommand xb_PlanError D_InvalidCommand O_InvalidCommand nf_InvalidCommand_value rfl)
  have O_InvalidCommands : OexG K X_InvalidCommands [.ref X_PlanError, .type "ValueError", .type "Exception", .type "BaseException", .type "object"] := (let ⟨nm, q, N, bs, sn, sub, ab, col, dd, p0, p1, p2, p3, p5, z⟩ := xl_InvalidCommands; ⟨⟨nm, q, N, bs, sn, sub, ab, col, dd, p0, p1, p2, p3, p5, _, _, z, (XNew.of PySem.F.excBase_ValueError), rfl⟩, rfl, rfl, rfl, fun self => pass_own rfl, sa_InvalidCommands, ex_InvalidCommands, ty_InvalidCommands, kp_InvalidCommands⟩)
  have x_InvalidCommands : XMk l.prog w K mg base 1 "InvalidCommands" "value" := xmk_of at_InvalidCommands (PySem.W.mg_of X G at_InvalidCommands) O_InvalidCommands in_InvalidCommands ti_InvalidCommands (D_InvalidCommands.bindA (ps := ["self", "value"]) 2 rfl fun _ _ _ _ _ _ us hl => match us, hl with | [_, _], _ => rfl) (xi_InvalidCommands xb_PlanError D_InvalidCommands O_InvalidCommands nf_InvalidCommands_value rfl)
  have O_InvalidCounts : OexG K X_InvalidCounts [.ref X_PlanError, .type "ValueError", .type "Exception", .type "BaseException", .type "object"] := (let ⟨nm, q, N, bs, sn, sub, ab, col, dd, p0, p1, p2, p3, p5, z⟩ := xl_InvalidCounts; ⟨⟨nm, q, N, bs, sn, sub, ab, col, dd, p0, p1, p2, p3, p5, _, _, z, (XNew.of PySem.F.excBase_ValueError), rfl⟩, rfl, rfl, rfl, fun self => pass_own rfl, sa_InvalidCounts, ex_InvalidCounts, ty_InvalidCounts, kp_InvalidCounts⟩)
  have x_InvalidCounts : XMk l.prog w K mg base 1 "InvalidCounts" "value" := xmk_of at_InvalidCounts (PySem.W.mg_of X G at_InvalidCounts) O_InvalidCounts in_InvalidCounts ti_InvalidCounts (D_InvalidCounts.bindA (ps := ["self", "value"]) 2 rfl fun _ _ _ _ _ _ us hl => match us, hl with | [_, _], _ => rfl) (xi_InvalidCounts xb_PlanError D_InvalidCounts O_InvalidCounts nf_InvalidCounts_value rfl)
  have O_InvalidEntry : OexG K X_InvalidEntry [.ref X_PlanError, .type "ValueError", .type "Exception", .type "BaseException", .type "object"] := (let ⟨nm, q, N, bs, sn, sub, ab, col, dd, p0, p1, p2, p3, p5, z⟩ := xl_InvalidEntry; ⟨⟨nm, q, N, bs, sn, sub, ab, col, dd, p0, p1, p2, p3, p5, _, _, z, (XNew.of PySem.F.excBase_ValueError), rfl⟩, rfl, rfl, rfl, fun self => pass_own rfl, sa_InvalidEntry, ex_InvalidEntry, ty_InvalidEntry, kp_InvalidEntry⟩)
  have x_InvalidEntry : XMk l.prog w K mg base 1 "InvalidEntry" "value" := xmk_of at_InvalidEntry (PySem.W.mg_of X G at_InvalidEntry) O_InvalidEntry in_InvalidEntry ti_InvalidEntry (D_InvalidEntry.bindA (ps := ["self", "value"]) 2 rfl fun _ _ _ _ _ _ us hl => match us, hl with | [_, _], _ => rfl) (xi_InvalidEntry xb_PlanError D_InvalidEntry O_InvalidEntry nf_InvalidEntry_value rfl)
  have O_InvalidEvents : OexG K X_InvalidEvents [.ref X_PlanError, .type "ValueError", .type "Exception", .type "BaseException", .type "object"] := (let ⟨nm, q, N, bs, sn, sub, ab, col, dd, p0, p1, p2, p3, p5, z⟩ := xl_InvalidEvents; ⟨⟨nm, q, N, bs, sn, sub, ab, col, dd, p0, p1, p2, p3, p5, _, _, z, (XNew.of PySem.F.excBase_ValueError), rfl⟩, rfl, rfl, rfl, fun self => pass_own rfl, sa_InvalidEvents, ex_InvalidEvents, ty_InvalidEvents, kp_InvalidEvents⟩)
  have x_InvalidEvents : XMk l.prog w K mg base 1 "InvalidEvents" "value" := xmk_of at_InvalidEvents (PySem.W.mg_of X G at_InvalidEvents) O_InvalidEvents in_InvalidEvents ti_InvalidEvents (D_InvalidEvents.bindA (ps := ["self", "value"]) 2 rfl fun _ _ _ _ _ _ us hl => match us, hl with | [_, _], _ => rfl) (xi_InvalidEvents xb_PlanError D_InvalidEvents O_InvalidEvents nf_InvalidEvents_value rfl)
  have O_InvalidInteger : OexG K X_InvalidInteger [.ref X_PlanError, .type "ValueError", .type "Exception", .type "BaseException", .type "object"] := (let ⟨nm, q, N, bs, sn, sub, ab, col, dd, p0, p1, p2, p3, p5, z⟩ := xl_InvalidInteger; ⟨⟨nm, q, N, bs, sn, sub, ab, col, dd, p0, p1, p2, p3, p5, _, _, z, (XNew.of PySem.F.excBase_ValueError), rfl⟩, rfl, rfl, rfl, fun self => pass_own rfl, sa_InvalidInteger, ex_InvalidInteger, ty_InvalidInteger, kp_InvalidInteger⟩)
  have x_InvalidInteger : XMk l.prog w K mg base 1 "InvalidInteger" "value" := xmk_of at_InvalidInteger (PySem.W.mg_of X G at_InvalidInteger) O_InvalidInteger in_InvalidInteger ti_InvalidInteger (D_InvalidInteger.bindA (ps := ["self", "value"]) 2 rfl fun _ _ _ _ _ _ us hl => match us, hl with | [_, _], _ => rfl) (xi_InvalidInteger xb_PlanError D_InvalidInteger O_InvalidInteger nf_InvalidInteger_value rfl)
  have O_InvalidLimits : OexG K X_InvalidLimits [.ref X_PlanError, .type "ValueError", .type "Exception", .type "BaseException", .type "object"] := (let ⟨nm, q, N, bs, sn, sub, ab, col, dd, p0, p1, p2, p3, p5, z⟩ := xl_InvalidLimits; ⟨⟨nm, q, N, bs, sn, sub, ab, col, dd, p0, p1, p2, p3, p5, _, _, z, (XNew.of PySem.F.excBase_ValueError), rfl⟩, rfl, rfl, rfl, fun self => pass_own rfl, sa_InvalidLimits, ex_InvalidLimits, ty_InvalidLimits, kp_InvalidLimits⟩)
  have x_InvalidLimits : XMk l.prog w K mg base 1 "InvalidLimits" "value" := xmk_of at_InvalidLimits (PySem.W.mg_of X G at_InvalidLimits) O_InvalidLimits in_InvalidLimits ti_InvalidLimits (D_InvalidLimits.bindA (ps := ["self", "value"]) 2 rfl fun _ _ _ _ _ _ us hl => match us, hl with | [_, _], _ => rfl) (xi_InvalidLimits xb_PlanError D_InvalidLimits O_InvalidLimits nf_InvalidLimits_value rfl)
  have O_InvalidLog : OexG K X_InvalidLog [.ref X_PlanError, .type "ValueError", .type "Exception", .type "BaseException", .type "object"] := (let ⟨nm, q, N, bs, sn, sub, ab, col, dd, p0, p1, p2, p3, p5, z⟩ := xl_InvalidLog; ⟨⟨nm, q, N, bs, sn, sub, ab, col, dd, p0, p1, p2, p3, p5, _, _, z, (XNew.of PySem.F.excBase_ValueError), rfl⟩, rfl, rfl, rfl, fun self => pass_own rfl, sa_InvalidLog, ex_InvalidLog, ty_InvalidLog, kp_InvalidLog⟩)
  have x_InvalidLog : XMk l.prog w K mg base 1 "InvalidLog" "value" := xmk_of at_InvalidLog (PySem.W.mg_of X G at_InvalidLog) O_InvalidLog in_InvalidLog ti_InvalidLog (D_InvalidLog.bindA (ps := ["self", "value"]) 2 rfl fun _ _ _ _ _ _ us hl => match us, hl with | [_, _], _ => rfl) (xi_InvalidLog xb_PlanError D_InvalidLog O_InvalidLog nf_InvalidLog_value rfl)
  have O_InvalidLogs : OexG K X_InvalidLogs [.ref X_PlanError, .type "ValueError", .type "Exception", .type "BaseException", .type "object"] := (let ⟨nm, q, N, bs, sn, sub, ab, col, dd, p0, p1, p2, p3, p5, z⟩ := xl_InvalidLogs; ⟨⟨nm, q, N, bs, sn, sub, ab, col, dd, p0, p1, p2, p3, p5, _, _, z, (XNew.of PySem.F.excBase_ValueError), rfl⟩, rfl, rfl, rfl, fun self => pass_own rfl, sa_InvalidLogs, ex_InvalidLogs, ty_InvalidLogs, kp_InvalidLogs⟩)
  have x_InvalidLogs : XMk l.prog w K mg base 1 "InvalidLogs" "value" := xmk_of at_InvalidLogs (PySem.W.mg_of X G at_InvalidLogs) O_InvalidLogs in_InvalidLogs ti_InvalidLogs (D_InvalidLogs.bindA (ps := ["self", "value"]) 2 rfl fun _ _ _ _ _ _ us hl => match us, hl with | [_, _], _ => rfl) (xi_InvalidLogs xb_PlanError D_InvalidLogs O_InvalidLogs nf_InvalidLogs_value rfl)
  have O_InvalidName : OexG K X_InvalidName [.ref X_PlanError, .type "ValueError", .type "Exception", .type "BaseException", .type "object"] := (let ⟨nm, q, N, bs, sn, sub, ab, col, dd, p0, p1, p2, p3, p5, z⟩ := xl_InvalidName; ⟨⟨nm, q, N, bs, sn, sub, ab, col, dd, p0, p1, p2, p3, p5, _, _, z, (XNew.of PySem.F.excBase_ValueError), rfl⟩, rfl, rfl, rfl, fun self => pass_own rfl, sa_InvalidName, ex_InvalidName, ty_InvalidName, kp_InvalidName⟩)
  have x_InvalidName : XMk l.prog w K mg base 1 "InvalidName" "value" := xmk_of at_InvalidName (PySem.W.mg_of X G at_InvalidName) O_InvalidName in_InvalidName ti_InvalidName (D_InvalidName.bindA (ps := ["self", "value"]) 2 rfl fun _ _ _ _ _ _ us hl => match us, hl with | [_, _], _ => rfl) (xi_InvalidName xb_PlanError D_InvalidName O_InvalidName nf_InvalidName_value rfl)
  have O_InvalidNames : OexG K X_InvalidNames [.ref X_PlanError, .type "ValueError", .type "Exception", .type "BaseException", .type "object"] := (let ⟨nm, q, N, bs, sn, sub, ab, col, dd, p0, p1, p2, p3, p5, z⟩ := xl_InvalidNames; ⟨⟨nm, q, N, bs, sn, sub, ab, col, dd, p0, p1, p2, p3, p5, _, _, z, (XNew.of PySem.F.excBase_ValueError), rfl⟩, rfl, rfl, rfl, fun self => pass_own rfl, sa_InvalidNames, ex_InvalidNames, ty_InvalidNames, kp_InvalidNames⟩)
  have x_InvalidNames : XMk l.prog w K mg base 1 "InvalidNames" "value" := xmk_of at_InvalidNames (PySem.W.mg_of X G at_InvalidNames) O_InvalidNames in_InvalidNames ti_InvalidNames (D_InvalidNames.bindA (ps := ["self", "value"]) 2 rfl fun _ _ _ _ _ _ us hl => match us, hl with | [_, _], _ => rfl) (xi_InvalidNames xb_PlanError D_InvalidNames O_InvalidNames nf_InvalidNames_value rfl)
  have O_InvalidPlan : OexG K X_InvalidPlan [.ref X_PlanError, .type "ValueError", .type "Exception", .type "BaseException", .type "object"] := (let ⟨nm, q, N, bs, sn, sub, ab, col, dd, p0, p1, p2, p3, p5, z⟩ := xl_InvalidPlan; ⟨⟨nm, q, N, bs, sn, sub, ab, col, dd, p0, p1, p2, p3, p5, _, _, z, (XNew.of PySem.F.excBase_ValueError), rfl⟩, rfl, rfl, rfl, fun self => pass_own rfl, sa_InvalidPlan, ex_InvalidPlan, ty_InvalidPlan, kp_InvalidPlan⟩)
  have x_InvalidPlan : XMk l.prog w K mg base 1 "InvalidPlan" "value" := xmk_of at_InvalidPlan (PySem.W.mg_of X G at_InvalidPlan) O_InvalidPlan in_InvalidPlan ti_InvalidPlan (D_InvalidPlan.bindA (ps := ["self", "value"]) 2 rfl fun _ _ _ _ _ _ us hl => match us, hl with | [_, _], _ => rfl) (xi_InvalidPlan xb_PlanError D_InvalidPlan O_InvalidPlan nf_InvalidPlan_value rfl)
  have O_InvalidRun : OexG K X_InvalidRun [.ref X_PlanError, .type "ValueError", .type "Exception", .type "BaseException", .type "object"] := (let ⟨nm, q, N, bs, sn, sub, ab, col, dd, p0, p1, p2, p3, p5, z⟩ := xl_InvalidRun; ⟨⟨nm, q, N, bs, sn, sub, ab, col, dd, p0, p1, p2, p3, p5, _, _, z, (XNew.of PySem.F.excBase_ValueError), rfl⟩, rfl, rfl, rfl, fun self => pass_own rfl, sa_InvalidRun, ex_InvalidRun, ty_InvalidRun, kp_InvalidRun⟩)
  have x_InvalidRun : XMk l.prog w K mg base 1 "InvalidRun" "value" := xmk_of at_InvalidRun (PySem.W.mg_of X G at_InvalidRun) O_InvalidRun in_InvalidRun ti_InvalidRun (D_InvalidRun.bindA (ps := ["self", "value"]) 2 rfl fun _ _ _ _ _ _ us hl => match us, hl with | [_, _], _ => rfl) (xi_InvalidRun xb_PlanError D_InvalidRun O_InvalidRun nf_InvalidRun_value rfl)
  have O_InvalidStock : OexG K X_InvalidStock [.ref X_PlanError, .type "ValueError", .type "Exception", .type "BaseException", .type "object"] := (let ⟨nm, q, N, bs, sn, sub, ab, col, dd, p0, p1, p2, p3, p5, z⟩ := xl_InvalidStock; ⟨⟨nm, q, N, bs, sn, sub, ab, col, dd, p0, p1, p2, p3, p5, _, _, z, (XNew.of PySem.F.excBase_ValueError), rfl⟩, rfl, rfl, rfl, fun self => pass_own rfl, sa_InvalidStock, ex_InvalidStock, ty_InvalidStock, kp_InvalidStock⟩)
  have x_InvalidStock : XMk l.prog w K mg base 1 "InvalidStock" "value" := xmk_of at_InvalidStock (PySem.W.mg_of X G at_InvalidStock) O_InvalidStock in_InvalidStock ti_InvalidStock (D_InvalidStock.bindA (ps := ["self", "value"]) 2 rfl fun _ _ _ _ _ _ us hl => match us, hl with | [_, _], _ => rfl) (xi_InvalidStock xb_PlanError D_InvalidStock O_InvalidStock nf_InvalidStock_value rfl)
  have O_InvalidText : OexG K X_InvalidText [.ref X_PlanError, .type "ValueError", .type "Exception", .type "BaseException", .type "object"] := (let ⟨nm, q, N, bs, sn, sub, ab, col, dd, p0, p1, p2, p3, p5, z⟩ := xl_InvalidText; ⟨⟨nm, q, N, bs, sn, sub, ab, col, dd, p0, p1, p2, p3, p5, _, _, z, (XNew.of PySem.F.excBase_ValueError), rfl⟩, rfl, rfl, rfl, fun self => pass_own rfl, sa_InvalidText, ex_InvalidText, ty_InvalidText, kp_InvalidText⟩)
  have x_InvalidText : XMk l.prog w K mg base 1 "InvalidText" "value" := xmk_of at_InvalidText (PySem.W.mg_of X G at_InvalidText) O_InvalidText in_InvalidText ti_InvalidText (D_InvalidText.bindA (ps := ["self", "value"]) 2 rfl fun _ _ _ _ _ _ us hl => match us, hl with | [_, _], _ => rfl) (xi_InvalidText xb_PlanError D_InvalidText O_InvalidText nf_InvalidText_value rfl)
  have O_InvalidTie : OexG K X_InvalidTie [.ref X_PlanError, .type "ValueError", .type "Exception", .type "BaseException", .type "object"] := (let ⟨nm, q, N, bs, sn, sub, ab, col, dd, p0, p1, p2, p3, p5, z⟩ := xl_InvalidTie; ⟨⟨nm, q, N, bs, sn, sub, ab, col, dd, p0, p1, p2, p3, p5, _, _, z, (XNew.of PySem.F.excBase_ValueError), rfl⟩, rfl, rfl, rfl, fun self => pass_own rfl, sa_InvalidTie, ex_InvalidTie, ty_InvalidTie, kp_InvalidTie⟩)
  have x_InvalidTie : XMk l.prog w K mg base 1 "InvalidTie" "value" := xmk_of at_InvalidTie (PySem.W.mg_of X G at_InvalidTie) O_InvalidTie in_InvalidTie ti_InvalidTie (D_InvalidTie.bindA (ps := ["self", "value"]) 2 rfl fun _ _ _ _ _ _ us hl => match us, hl with | [_, _], _ => rfl) (xi_InvalidTie xb_PlanError D_InvalidTie O_InvalidTie nf_InvalidTie_value rfl)
  have O_InvalidTies : OexG K X_InvalidTies [.ref X_PlanError, .type "ValueError", .type "Exception", .type "BaseException", .type "object"] := (let ⟨nm, q, N, bs, sn, sub, ab, col, dd, p0, p1, p2, p3, p5, z⟩ := xl_InvalidTies; ⟨⟨nm, q, N, bs, sn, sub, ab, col, dd, p0, p1, p2, p3, p5, _, _, z, (XNew.of PySem.F.excBase_ValueError), rfl⟩, rfl, rfl, rfl, fun self => pass_own rfl, sa_InvalidTies, ex_InvalidTies, ty_InvalidTies, kp_InvalidTies⟩)
  have x_InvalidTies : XMk l.prog w K mg base 1 "InvalidTies" "value" := xmk_of at_InvalidTies (PySem.W.mg_of X G at_InvalidTies) O_InvalidTies in_InvalidTies ti_InvalidTies (D_InvalidTies.bindA (ps := ["self", "value"]) 2 rfl fun _ _ _ _ _ _ us hl => match us, hl with | [_, _], _ => rfl) (xi_InvalidTies xb_PlanError D_InvalidTies O_InvalidTies nf_InvalidTies_value rfl)
  have O_Misfit : OexG K X_Misfit [.ref X_StateError, .type "LookupError", .type "Exception", .type "BaseException", .type "object"] := (let ⟨nm, q, N, bs, sn, sub, ab, col, dd, p0, p1, p2, p3, p5, z⟩ := xl_Misfit; ⟨⟨nm, q, N, bs, sn, sub, ab, col, dd, p0, p1, p2, p3, p5, _, _, z, (XNew.of PySem.F.excBase_LookupError), rfl⟩, rfl, rfl, rfl, fun self => pass_own rfl, sa_Misfit, ex_Misfit, ty_Misfit, kp_Misfit⟩)
  have x_Misfit : XMk l.prog w K mg base 1 "Misfit" "index" := xmk_of at_Misfit (PySem.W.mg_of X G at_Misfit) O_Misfit in_Misfit ti_Misfit (D_Misfit.bindA (ps := ["self", "index"]) 2 rfl fun _ _ _ _ _ _ us hl => match us, hl with | [_, _], _ => rfl) (xi_Misfit xb_StateError D_Misfit O_Misfit nf_Misfit_index rfl)
  have O_NoEntry : OexG K X_NoEntry [.ref X_MissingError, .type "KeyError", .type "LookupError", .type "Exception", .type "BaseException", .type "object"] := (let ⟨nm, q, N, bs, sn, sub, ab, col, dd, p0, p1, p2, p3, p5, z⟩ := xl_NoEntry; ⟨⟨nm, q, N, bs, sn, sub, ab, col, dd, p0, p1, p2, p3, p5, _, _, z, (XNew.of PySem.F.excBase_LookupError), rfl⟩, rfl, rfl, rfl, fun self => pass_own rfl, sa_NoEntry, ex_NoEntry, ty_NoEntry, kp_NoEntry⟩)
  have x_NoEntry : XMk l.prog w K mg base 1 "NoEntry" "name" := xmk_of at_NoEntry (PySem.W.mg_of X G at_NoEntry) O_NoEntry in_NoEntry ti_NoEntry (D_NoEntry.bindA (ps := ["self", "name"]) 2 rfl fun _ _ _ _ _ _ us hl => match us, hl with | [_, _], _ => rfl) (xi_NoEntry xb_MissingError D_NoEntry O_NoEntry nf_NoEntry_name rfl)
  have O_NoRun : OexG K X_NoRun [.ref X_StateError, .type "LookupError", .type "Exception", .type "BaseException", .type "object"] := (let ⟨nm, q, N, bs, sn, sub, ab, col, dd, p0, p1, p2, p3, p5, z⟩ := xl_NoRun; ⟨⟨nm, q, N, bs, sn, sub, ab, col, dd, p0, p1, p2, p3, p5, _, _, z, (XNew.of PySem.F.excBase_LookupError), rfl⟩, rfl, rfl, rfl, fun self => pass_own rfl, sa_NoRun, ex_NoRun, ty_NoRun, kp_NoRun⟩)
  have x_NoRun : XMk0 l.prog w K mg base 1 "NoRun" := xmk0_of at_NoRun (PySem.W.mg_of X G at_NoRun) O_NoRun in_NoRun ti_NoRun (D_NoRun.bindA (ps := ["self"]) 1 rfl fun _ _ _ _ _ _ us hl => match us, hl with | [_], _ => rfl) (xi_NoRun xb_StateError D_NoRun O_NoRun rfl)
  have O_NoTie : OexG K X_NoTie [.ref X_MissingError, .type "KeyError", .type "LookupError", .type "Exception", .type "BaseException", .type "object"] := (let ⟨nm, q, N, bs, sn, sub, ab, col, dd, p0, p1, p2, p3, p5, z⟩ := xl_NoTie; ⟨⟨nm, q, N, bs, sn, sub, ab, col, dd, p0, p1, p2, p3, p5, _, _, z, (XNew.of PySem.F.excBase_LookupError), rfl⟩, rfl, rfl, rfl, fun self => pass_own rfl, sa_NoTie, ex_NoTie, ty_NoTie, kp_NoTie⟩)
  have x_NoTie : XMk l.prog w K mg base 1 "NoTie" "index" := xmk_of at_NoTie (PySem.W.mg_of X G at_NoTie) O_NoTie in_NoTie ti_NoTie (D_NoTie.bindA (ps := ["self", "index"]) 2 rfl fun _ _ _ _ _ _ us hl => match us, hl with | [_, _], _ => rfl) (xi_NoTie xb_MissingError D_NoTie O_NoTie nf_NoTie_index rfl)
  have O_NotBehind : OexG K X_NotBehind [.ref X_StateError, .type "LookupError", .type "Exception", .type "BaseException", .type "object"] := (let ⟨nm, q, N, bs, sn, sub, ab, col, dd, p0, p1, p2, p3, p5, z⟩ := xl_NotBehind; ⟨⟨nm, q, N, bs, sn, sub, ab, col, dd, p0, p1, p2, p3, p5, _, _, z, (XNew.of PySem.F.excBase_LookupError), rfl⟩, rfl, rfl, rfl, fun self => pass_own rfl, sa_NotBehind, ex_NotBehind, ty_NotBehind, kp_NotBehind⟩)
  have x_NotBehind : XMk l.prog w K mg base 1 "NotBehind" "value" := xmk_of at_NotBehind (PySem.W.mg_of X G at_NotBehind) O_NotBehind in_NotBehind ti_NotBehind (D_NotBehind.bindA (ps := ["self", "value"]) 2 rfl fun _ _ _ _ _ _ us hl => match us, hl with | [_, _], _ => rfl) (xi_NotBehind xb_StateError D_NotBehind O_NotBehind nf_NotBehind_value rfl)
  have O_NotMoment : OexG K X_NotMoment [.ref X_StateError, .type "LookupError", .type "Exception", .type "BaseException", .type "object"] := (let ⟨nm, q, N, bs, sn, sub, ab, col, dd, p0, p1, p2, p3, p5, z⟩ := xl_NotMoment; ⟨⟨nm, q, N, bs, sn, sub, ab, col, dd, p0, p1, p2, p3, p5, _, _, z, (XNew.of PySem.F.excBase_LookupError), rfl⟩, rfl, rfl, rfl, fun self => pass_own rfl, sa_NotMoment, ex_NotMoment, ty_NotMoment, kp_NotMoment⟩)
  have x_NotMoment : XMk l.prog w K mg base 1 "NotMoment" "value" := xmk_of at_NotMoment (PySem.W.mg_of X G at_NotMoment) O_NotMoment in_NotMoment ti_NotMoment (D_NotMoment.bindA (ps := ["self", "value"]) 2 rfl fun _ _ _ _ _ _ us hl => match us, hl with | [_, _], _ => rfl) (xi_NotMoment xb_StateError D_NotMoment O_NotMoment nf_NotMoment_value rfl)
  have O_NotPossible : OexG K X_NotPossible [.ref X_StateError, .type "LookupError", .type "Exception", .type "BaseException", .type "object"] := (let ⟨nm, q, N, bs, sn, sub, ab, col, dd, p0, p1, p2, p3, p5, z⟩ := xl_NotPossible; ⟨⟨nm, q, N, bs, sn, sub, ab, col, dd, p0, p1, p2, p3, p5, _, _, z, (XNew.of PySem.F.excBase_LookupError), rfl⟩, rfl, rfl, rfl, fun self => pass_own rfl, sa_NotPossible, ex_NotPossible, ty_NotPossible, kp_NotPossible⟩)
  have x_NotPossible : XMk0 l.prog w K mg base 1 "NotPossible" := xmk0_of at_NotPossible (PySem.W.mg_of X G at_NotPossible) O_NotPossible in_NotPossible ti_NotPossible (D_NotPossible.bindA (ps := ["self"]) 1 rfl fun _ _ _ _ _ _ us hl => match us, hl with | [_], _ => rfl) (xi_NotPossible xb_StateError D_NotPossible O_NotPossible rfl)
  have O_NotSafe : OexG K X_NotSafe [.ref X_StateError, .type "LookupError", .type "Exception", .type "BaseException", .type "object"] := (let ⟨nm, q, N, bs, sn, sub, ab, col, dd, p0, p1, p2, p3, p5, z⟩ := xl_NotSafe; ⟨⟨nm, q, N, bs, sn, sub, ab, col, dd, p0, p1, p2, p3, p5, _, _, z, (XNew.of PySem.F.excBase_LookupError), rfl⟩, rfl, rfl, rfl, fun self => pass_own rfl, sa_NotSafe, ex_NotSafe, ty_NotSafe, kp_NotSafe⟩)
  have x_NotSafe : XMk l.prog w K mg base 1 "NotSafe" "index" := xmk_of at_NotSafe (PySem.W.mg_of X G at_NotSafe) O_NotSafe in_NotSafe ti_NotSafe (D_NotSafe.bindA (ps := ["self", "index"]) 2 rfl fun _ _ _ _ _ _ us hl => match us, hl with | [_, _], _ => rfl) (xi_NotSafe xb_StateError D_NotSafe O_NotSafe nf_NotSafe_index rfl)
  have O_NothingToRedo : OexG K X_NothingToRedo [.ref X_StateError, .type "LookupError", .type "Exception", .type "BaseException", .type "object"] := (let ⟨nm, q, N, bs, sn, sub, ab, col, dd, p0, p1, p2, p3, p5, z⟩ := xl_NothingToRedo; ⟨⟨nm, q, N, bs, sn, sub, ab, col, dd, p0, p1, p2, p3, p5, _, _, z, (XNew.of PySem.F.excBase_LookupError), rfl⟩, rfl, rfl, rfl, fun self => pass_own rfl, sa_NothingToRedo, ex_NothingToRedo, ty_NothingToRedo, kp_NothingToRedo⟩)
  have x_NothingToRedo : XMk0 l.prog w K mg base 1 "NothingToRedo" := xmk0_of at_NothingToRedo (PySem.W.mg_of X G at_NothingToRedo) O_NothingToRedo in_NothingToRedo ti_NothingToRedo (D_NothingToRedo.bindA (ps := ["self"]) 1 rfl fun _ _ _ _ _ _ us hl => match us, hl with | [_], _ => rfl) (xi_NothingToRedo xb_StateError D_NothingToRedo O_NothingToRedo rfl)
  have O_NothingToUndo : OexG K X_NothingToUndo [.ref X_StateError, .type "LookupError", .type "Exception", .type "BaseException", .type "object"] := (let ⟨nm, q, N, bs, sn, sub, ab, col, dd, p0, p1, p2, p3, p5, z⟩ := xl_NothingToUndo; ⟨⟨nm, q, N, bs, sn, sub, ab, col, dd, p0, p1, p2, p3, p5, _, _, z, (XNew.of PySem.F.excBase_LookupError), rfl⟩, rfl, rfl, rfl, fun self => pass_own rfl, sa_NothingToUndo, ex_NothingToUndo, ty_NothingToUndo, kp_NothingToUndo⟩)
  have x_NothingToUndo : XMk0 l.prog w K mg base 1 "NothingToUndo" := xmk0_of at_NothingToUndo (PySem.W.mg_of X G at_NothingToUndo) O_NothingToUndo in_NothingToUndo ti_NothingToUndo (D_NothingToUndo.bindA (ps := ["self"]) 1 rfl fun _ _ _ _ _ _ us hl => match us, hl with | [_], _ => rfl) (xi_NothingToUndo xb_StateError D_NothingToUndo O_NothingToUndo rfl)
  have O_Ring : OexG K X_Ring [.ref X_PlanError, .type "ValueError", .type "Exception", .type "BaseException", .type "object"] := (let ⟨nm, q, N, bs, sn, sub, ab, col, dd, p0, p1, p2, p3, p5, z⟩ := xl_Ring; ⟨⟨nm, q, N, bs, sn, sub, ab, col, dd, p0, p1, p2, p3, p5, _, _, z, (XNew.of PySem.F.excBase_ValueError), rfl⟩, rfl, rfl, rfl, fun self => pass_own rfl, sa_Ring, ex_Ring, ty_Ring, kp_Ring⟩)
  have x_Ring : XMk l.prog w K mg base 1 "Ring" "members" := xmk_of at_Ring (PySem.W.mg_of X G at_Ring) O_Ring in_Ring ti_Ring (D_Ring.bindA (ps := ["self", "members"]) 2 rfl fun _ _ _ _ _ _ us hl => match us, hl with | [_, _], _ => rfl) (xi_Ring xb_PlanError D_Ring O_Ring nf_Ring_members rfl)
  have O_TooLong : OexG K X_TooLong [.ref X_StateError, .type "LookupError", .type "Exception", .type "BaseException", .type "object"] := (let ⟨nm, q, N, bs, sn, sub, ab, col, dd, p0, p1, p2, p3, p5, z⟩ := xl_TooLong; ⟨⟨nm, q, N, bs, sn, sub, ab, col, dd, p0, p1, p2, p3, p5, _, _, z, (XNew.of PySem.F.excBase_LookupError), rfl⟩, rfl, rfl, rfl, fun self => pass_own rfl, sa_TooLong, ex_TooLong, ty_TooLong, kp_TooLong⟩)
  have x_TooLong : XMk l.prog w K mg base 1 "TooLong" "total" := xmk_of at_TooLong (PySem.W.mg_of X G at_TooLong) O_TooLong in_TooLong ti_TooLong (D_TooLong.bindA (ps := ["self", "total"]) 2 rfl fun _ _ _ _ _ _ us hl => match us, hl with | [_, _], _ => rfl) (xi_TooLong xb_StateError D_TooLong O_TooLong nf_TooLong_total rfl)
  have O_TooMany : OexG K X_TooMany [.ref X_PlanError, .type "ValueError", .type "Exception", .type "BaseException", .type "object"] := (let ⟨nm, q, N, bs, sn, sub, ab, col, dd, p0, p1, p2, p3, p5, z⟩ := xl_TooMany; ⟨⟨nm, q, N, bs, sn, sub, ab, col, dd, p0, p1, p2, p3, p5, _, _, z, (XNew.of PySem.F.excBase_ValueError), rfl⟩, rfl, rfl, rfl, fun self => pass_own rfl, sa_TooMany, ex_TooMany, ty_TooMany, kp_TooMany⟩)
  have x_TooMany : XMk l.prog w K mg base 1 "TooMany" "bound" := xmk_of at_TooMany (PySem.W.mg_of X G at_TooMany) O_TooMany in_TooMany ti_TooMany (D_TooMany.bindA (ps := ["self", "bound"]) 2 rfl fun _ _ _ _ _ _ us hl => match us, hl with | [_, _], _ => rfl) (xi_TooMany xb_PlanError D_TooMany O_TooMany nf_TooMany_bound rfl)
  have O_UnknownEvent : OexG K X_UnknownEvent [.ref X_MissingError, .type "KeyError", .type "LookupError", .type "Exception", .type "BaseException", .type "object"] := (let ⟨nm, q, N, bs, sn, sub, ab, col, dd, p0, p1, p2, p3, p5, z⟩ := xl_UnknownEvent; ⟨⟨nm, q, N, bs, sn, sub, ab, col, dd, p0, p1, p2, p3, p5, _, _, z, (XNew.of PySem.F.excBase_LookupError), rfl⟩, rfl, rfl, rfl, fun self => pass_own rfl, sa_UnknownEvent, ex_UnknownEvent, ty_UnknownEvent, kp_UnknownEvent⟩)
  have x_UnknownEvent : XMk l.prog w K mg base 1 "UnknownEvent" "name" := xmk_of at_UnknownEvent (PySem.W.mg_of X G at_UnknownEvent) O_UnknownEvent in_UnknownEvent ti_UnknownEvent (D_UnknownEvent.bindA (ps := ["self", "name"]) 2 rfl fun _ _ _ _ _ _ us hl => match us, hl with | [_, _], _ => rfl) (xi_UnknownEvent xb_MissingError D_UnknownEvent O_UnknownEvent nf_UnknownEvent_name rfl)
  have O_UnlikeEvents : OexG K X_UnlikeEvents [.ref X_PlanError, .type "ValueError", .type "Exception", .type "BaseException", .type "object"] := (let ⟨nm, q, N, bs, sn, sub, ab, col, dd, p0, p1, p2, p3, p5, z⟩ := xl_UnlikeEvents; ⟨⟨nm, q, N, bs, sn, sub, ab, col, dd, p0, p1, p2, p3, p5, _, _, z, (XNew.of PySem.F.excBase_ValueError), rfl⟩, rfl, rfl, rfl, fun self => pass_own rfl, sa_UnlikeEvents, ex_UnlikeEvents, ty_UnlikeEvents, kp_UnlikeEvents⟩)
  have x_UnlikeEvents : XMk l.prog w K mg base 1 "UnlikeEvents" "members" := xmk_of at_UnlikeEvents (PySem.W.mg_of X G at_UnlikeEvents) O_UnlikeEvents in_UnlikeEvents ti_UnlikeEvents (D_UnlikeEvents.bindA (ps := ["self", "members"]) 2 rfl fun _ _ _ _ _ _ us hl => match us, hl with | [_, _], _ => rfl) (xi_UnlikeEvents xb_PlanError D_UnlikeEvents O_UnlikeEvents nf_UnlikeEvents_members rfl)
  have O_MissingError : OexG K X_MissingError [.type "KeyError", .type "LookupError", .type "Exception", .type "BaseException", .type "object"] := (let ⟨nm, q, N, bs, sn, sub, ab, col, dd, p0, p1, p2, p3, p5, z⟩ := xl_MissingError; ⟨⟨nm, q, N, bs, sn, sub, ab, col, dd, p0, p1, p2, p3, p5, _, _, z, (XNew.of PySem.F.excBase_LookupError), rfl⟩, rfl, rfl, rfl, fun self => rfl, sa_MissingError, ex_MissingError, ty_MissingError, kp_MissingError⟩)
  have x_MissingError : XMkB K mg "MissingError" := ⟨_, _, _, _, at_MissingError, PySem.W.mg_of X G at_MissingError, O_MissingError, in_MissingError, xini_KeyError, rfl, bs_K⟩
  have O_PlanError : OexG K X_PlanError [.type "ValueError", .type "Exception", .type "BaseException", .type "object"] := (let ⟨nm, q, N, bs, sn, sub, ab, col, dd, p0, p1, p2, p3, p5, z⟩ := xl_PlanError; ⟨⟨nm, q, N, bs, sn, sub, ab, col, dd, p0, p1, p2, p3, p5, _, _, z, (XNew.of PySem.F.excBase_ValueError), rfl⟩, rfl, rfl, rfl, fun self => rfl, sa_PlanError, ex_PlanError, ty_PlanError, kp_PlanError⟩)
  have x_PlanError : XMkB K mg "PlanError" := ⟨_, _, _, _, at_PlanError, PySem.W.mg_of X G at_PlanError, O_PlanError, in_PlanError, (XIni.of PySem.F.excBase_ValueError), rfl, bs_V⟩
  have O_StateError : OexG K X_StateError [.type "LookupError", .type "Exception", .type "BaseException", .type "object"] := (let ⟨nm, q, N, bs, sn, sub, ab, col, dd, p0, p1, p2, p3, p5, z⟩ := xl_StateError; ⟨⟨nm, q, N, bs, sn, sub, ab, col, dd, p0, p1, p2, p3, p5, _, _, z, (XNew.of PySem.F.excBase_LookupError), rfl⟩, rfl, rfl, rfl, fun self => rfl, sa_StateError, ex_StateError, ty_StateError, kp_StateError⟩)
  have x_StateError : XMkB K mg "StateError" := ⟨_, _, _, _, at_StateError, PySem.W.mg_of X G at_StateError, O_StateError, in_StateError, (XIni.of PySem.F.excBase_LookupError), rfl, bs_L⟩
  have g__law_box : FnG l.prog w K mg base CX0 1 _ _ ["_law_cell_here"] (lift ⟨K, l.prog, w⟩ 1 sp__law_box) := ok__law_box T  F0
  have c__law_box : Cal3 l.prog w K mg base CX0 1 "_law_box" 1 [] (allPos 1) [] 1 (lift ⟨K, l.prog, w⟩ 1 sp__law_box) := ⟨⟨_, _, _, PySem.W.mg_of X G a0, k0, F0.bindA (ps := ["_law_cell_here"]) 1 rfl fun _ _ _ _ _ _ us hl => match us, hl with | [_], _ => rfl, g__law_box⟩, rfl, rfl⟩
  have g__law_cell : FnG l.prog w K mg base CX0 1 _ _ ["_law_script", "_law_k"] (lift ⟨K, l.prog, w⟩ 2 sp__law_cell) := ok__law_cell T  F1
  have c__law_cell : Cal3 l.prog w K mg base CX0 1 "_law_cell" 2 [] (allPos 2) [] 2 (lift ⟨K, l.prog, w⟩ 2 sp__law_cell) := ⟨⟨_, _, _, PySem.W.mg_of X G a1, k1, F1.bindA (ps := ["_law_script", "_law_k"]) 2 rfl fun _ _ _ _ _ _ us hl => match us, hl with | [_, _], _ => rfl, g__law_cell⟩, rfl, rfl⟩
  have g__law_take : FnG l.prog w K mg base CX0 1 _ _ ["_law_box_here", "_law_many"] (lift ⟨K, l.prog, w⟩ 2 sp__law_take) := ok__law_take T  F2
  have c__law_take : Cal3 l.prog w K mg base CX0 1 "_law_take" 2 [] (allPos 2) [] 2 (lift ⟨K, l.prog, w⟩ 2 sp__law_take) := ⟨⟨_, _, _, PySem.W.mg_of X G a2, k2, F2.bindA (ps := ["_law_box_here", "_law_many"]) 2 rfl fun _ _ _ _ _ _ us hl => match us, hl with | [_, _], _ => rfl, g__law_take⟩, rfl, rfl⟩
  have g__law_value : FnG l.prog w K mg base CX0 2 _ _ ["_law_box_here"] (lift ⟨K, l.prog, w⟩ 1 sp__law_value) := ok__law_value T c__law_take F3
  have c__law_value : Cal3 l.prog w K mg base CX0 2 "_law_value" 1 [] (allPos 1) [] 1 (lift ⟨K, l.prog, w⟩ 1 sp__law_value) := ⟨⟨_, _, _, PySem.W.mg_of X G a3, k3, F3.bindA (ps := ["_law_box_here"]) 1 rfl fun _ _ _ _ _ _ us hl => match us, hl with | [_], _ => rfl, g__law_value⟩, rfl, rfl⟩
  have g__law_made : FnG l.prog w K mg base CX0 3 _ _ ["_law_value_here"] (lift ⟨K, l.prog, w⟩ 1 sp__law_made) := ok__law_made T x_InvalidInteger x_InvalidName x_Duplicate x_InvalidEvents x_InvalidTies x_InvalidTie x_InvalidLimits x_Ring x_InvalidPlan x_UnlikeEvents x_InvalidText x_InvalidCounts x_InvalidRun x_InvalidStock x_InvalidAmounts x_InvalidBounds x_InvalidNames x_InvalidCommand x_InvalidCommands x_TooMany x_InvalidLog x_InvalidLogs x_InvalidEntry x_UnknownEvent x_NoTie x_NoEntry x_Barred x_NotMoment x_NotBehind x_TooLong x_Endless x_Misfit x_NotSafe F4
  have c__law_made : Cal3 l.prog w K mg base CX0 3 "_law_made" 1 [] (allPos 1) [] 1 (lift ⟨K, l.prog, w⟩ 1 sp__law_made) := ⟨⟨_, _, _, PySem.W.mg_of X G a4, k4, F4.bindA (ps := ["_law_value_here"]) 1 rfl fun _ _ _ _ _ _ us hl => match us, hl with | [_], _ => rfl, g__law_made⟩, rfl, rfl⟩
  have g__law_kinds : FnG l.prog w K mg base CX0 1 _ _ ["_law_error"] (lift ⟨K, l.prog, w⟩ 1 sp__law_kinds) := ok__law_kinds T  F5
  have c__law_kinds : Cal3 l.prog w K mg base CX0 1 "_law_kinds" 1 [] (allPos 1) [] 1 (lift ⟨K, l.prog, w⟩ 1 sp__law_kinds) := ⟨⟨_, _, _, PySem.W.mg_of X G a5, k5, F5.bindA (ps := ["_law_error"]) 1 rfl fun _ _ _ _ _ _ us hl => match us, hl with | [_], _ => rfl, g__law_kinds⟩, rfl, rfl⟩
  have g__law_bases : FnG l.prog w K mg base CX0 1 _ _ ["_law_error"] (lift ⟨K, l.prog, w⟩ 1 sp__law_bases) := ok__law_bases T  F6
  have c__law_bases : Cal3 l.prog w K mg base CX0 1 "_law_bases" 1 [] (allPos 1) [] 1 (lift ⟨K, l.prog, w⟩ 1 sp__law_bases) := ⟨⟨_, _, _, PySem.W.mg_of X G a6, k6, F6.bindA (ps := ["_law_error"]) 1 rfl fun _ _ _ _ _ _ us hl => match us, hl with | [_], _ => rfl, g__law_bases⟩, rfl, rfl⟩
  have g__law_due : FnG l.prog w K mg base CX0 1 _ _ ["_law_k"] (lift ⟨K, l.prog, w⟩ 1 sp__law_due) := ok__law_due T  F7
  have c__law_due : Cal3 l.prog w K mg base CX0 1 "_law_due" 1 [] (allPos 1) [] 1 (lift ⟨K, l.prog, w⟩ 1 sp__law_due) := ⟨⟨_, _, _, PySem.W.mg_of X G a7, k7, F7.bindA (ps := ["_law_k"]) 1 rfl fun _ _ _ _ _ _ us hl => match us, hl with | [_], _ => rfl, g__law_due⟩, rfl, rfl⟩
  have g__law_field : FnG l.prog w K mg base CX0 1 _ _ ["_law_error", "_law_k"] (lift ⟨K, l.prog, w⟩ 2 sp__law_field) := ok__law_field T  F8
  have c__law_field : Cal3 l.prog w K mg base CX0 1 "_law_field" 2 [] (allPos 2) [] 2 (lift ⟨K, l.prog, w⟩ 2 sp__law_field) := ⟨⟨_, _, _, PySem.W.mg_of X G a8, k8, F8.bindA (ps := ["_law_error", "_law_k"]) 2 rfl fun _ _ _ _ _ _ us hl => match us, hl with | [_, _], _ => rfl, g__law_field⟩, rfl, rfl⟩
  exact ok_law T BX.sm c__law_box c__law_cell c__law_value c__law_made c__law_kinds c__law_bases c__law_due c__law_field x_NotPossible x_NoRun x_NothingToUndo x_NothingToRedo x_PlanError x_MissingError x_StateError F9
theorem endB {l : PySem.W.OpenLaw} {w : World} {K : PySem.W.Frag} {h : Heap} {mg : Str → Option Value} {fa : Addr} (X : K.In h) (G : h.Ns mainGlobals mg) (hfa : mg "law" = some (.ref fa)) (c : SaysB faB fnB K)
    : ∃ fd : FuncData, (∀ (s : Shared) (v : Value), BindsTo s fd ⟨[v], []⟩ [("_law_script", v)]) ∧ ∀ base : Heap, K.In base → base.Ns mainGlobals mg → BaseS base → FnG l.prog w K mg base CX0 4 fa fd ["_law_script"] (lift ⟨K, l.prog, w⟩ 1 sp_law) := by
  obtain ⟨_, D_Barred⟩ := c.def3 0 (vs := _) (ks := _) rfl rfl rfl
  obtain ⟨_, D_Duplicate⟩ := c.def3 1 (vs := _) (ks := _) rfl rfl rfl
  obtain ⟨_, D_Endless⟩ := c.def3 2 (vs := _) (ks := _) rfl rfl rfl
  obtain ⟨_, D_InvalidAmounts⟩ := c.def3 3 (vs := _) (ks := _) rfl rfl rfl
  obtain ⟨_, D_InvalidBounds⟩ := c.def3 4 (vs := _) (ks := _) rfl rfl rfl
  obtain ⟨_, D_InvalidCommand⟩ := c.def3 5 (vs := _) (ks := _) rfl rfl rfl
  obtain ⟨_, D_InvalidCommands⟩ := c.def3 6 (vs := _) (ks := _) rfl rfl rfl
  obtain ⟨_, D_InvalidCounts⟩ := c.def3 7 (vs := _) (ks := _) rfl rfl rfl
  obtain ⟨_, D_InvalidEntry⟩ := c.def3 8 (vs := _) (ks := _) rfl rfl rfl
  obtain ⟨_, D_InvalidEvents⟩ := c.def3 9 (vs := _) (ks := _) rfl rfl rfl
  obtain ⟨_, D_InvalidInteger⟩ := c.def3 10 (vs := _) (ks := _) rfl rfl rfl
  obtain ⟨_, D_InvalidLimits⟩ := c.def3 11 (vs := _) (ks := _) rfl rfl rfl
  obtain ⟨_, D_InvalidLog⟩ := c.def3 12 (vs := _) (ks := _) rfl rfl rfl
  obtain ⟨_, D_InvalidLogs⟩ := c.def3 13 (vs := _) (ks := _) rfl rfl rfl
  obtain ⟨_, D_InvalidName⟩ := c.def3 14 (vs := _) (ks := _) rfl rfl rfl
  obtain ⟨_, D_InvalidNames⟩ := c.def3 15 (vs := _) (ks := _) rfl rfl rfl
  obtain ⟨_, D_InvalidPlan⟩ := c.def3 16 (vs := _) (ks := _) rfl rfl rfl
  obtain ⟨_, D_InvalidRun⟩ := c.def3 17 (vs := _) (ks := _) rfl rfl rfl
  obtain ⟨_, D_InvalidStock⟩ := c.def3 18 (vs := _) (ks := _) rfl rfl rfl
  obtain ⟨_, D_InvalidText⟩ := c.def3 19 (vs := _) (ks := _) rfl rfl rfl
  obtain ⟨_, D_InvalidTie⟩ := c.def3 20 (vs := _) (ks := _) rfl rfl rfl
  obtain ⟨_, D_InvalidTies⟩ := c.def3 21 (vs := _) (ks := _) rfl rfl rfl
  obtain ⟨_, D_Misfit⟩ := c.def3 22 (vs := _) (ks := _) rfl rfl rfl
  obtain ⟨_, D_NoEntry⟩ := c.def3 23 (vs := _) (ks := _) rfl rfl rfl
  obtain ⟨_, D_NoRun⟩ := c.def3 24 (vs := _) (ks := _) rfl rfl rfl
  obtain ⟨_, D_NoTie⟩ := c.def3 25 (vs := _) (ks := _) rfl rfl rfl
  obtain ⟨_, D_NotBehind⟩ := c.def3 26 (vs := _) (ks := _) rfl rfl rfl
  obtain ⟨_, D_NotMoment⟩ := c.def3 27 (vs := _) (ks := _) rfl rfl rfl
  obtain ⟨_, D_NotPossible⟩ := c.def3 28 (vs := _) (ks := _) rfl rfl rfl
  obtain ⟨_, D_NotSafe⟩ := c.def3 29 (vs := _) (ks := _) rfl rfl rfl
  obtain ⟨_, D_NothingToRedo⟩ := c.def3 30 (vs := _) (ks := _) rfl rfl rfl
  obtain ⟨_, D_NothingToUndo⟩ := c.def3 31 (vs := _) (ks := _) rfl rfl rfl
  obtain ⟨_, D_Ring⟩ := c.def3 32 (vs := _) (ks := _) rfl rfl rfl
  obtain ⟨_, D_TooLong⟩ := c.def3 33 (vs := _) (ks := _) rfl rfl rfl
  obtain ⟨_, D_TooMany⟩ := c.def3 34 (vs := _) (ks := _) rfl rfl rfl
  obtain ⟨_, D_UnknownEvent⟩ := c.def3 35 (vs := _) (ks := _) rfl rfl rfl
  obtain ⟨_, D_UnlikeEvents⟩ := c.def3 36 (vs := _) (ks := _) rfl rfl rfl
  obtain ⟨_, F0⟩ := c.def3 37 (vs := _) (ks := _) rfl rfl rfl
  obtain ⟨_, F1⟩ := c.def3 38 (vs := _) (ks := _) rfl rfl rfl
  obtain ⟨_, F2⟩ := c.def3 39 (vs := _) (ks := _) rfl rfl rfl
  obtain ⟨_, F3⟩ := c.def3 40 (vs := _) (ks := _) rfl rfl rfl
  obtain ⟨_, F4⟩ := c.def3 41 (vs := _) (ks := _) rfl rfl rfl
  obtain ⟨_, F5⟩ := c.def3 42 (vs := _) (ks := _) rfl rfl rfl
  obtain ⟨_, F6⟩ := c.def3 43 (vs := _) (ks := _) rfl rfl rfl
  obtain ⟨_, F7⟩ := c.def3 44 (vs := _) (ks := _) rfl rfl rfl
  obtain ⟨_, F8⟩ := c.def3 45 (vs := _) (ks := _) rfl rfl rfl
  obtain ⟨_, F9⟩ := c.def3 46 (vs := _) (ks := _) rfl rfl rfl
  exact all_mk X G hfa (of_decide_eq_true (c.fact 0)) (of_decide_eq_true (c.fact 1)) (of_decide_eq_true (c.fact 2)) (of_decide_eq_true (c.fact 3)) (of_decide_eq_true (c.fact 4)) (of_decide_eq_true (c.fact 5)) (of_decide_eq_true (c.fact 6)) (of_decide_eq_true (c.fact 7)) (of_decide_eq_true (c.fact 8)) (of_decide_eq_true (c.fact 9)) (of_decide_eq_true (c.fact 10)) (of_decide_eq_true (c.fact 11)) (of_decide_eq_true (c.fact 12)) (of_decide_eq_true (c.fact 13)) (of_decide_eq_true (c.fact 14)) (of_decide_eq_true (c.fact 15)) (of_decide_eq_true (c.fact 16)) (of_decide_eq_true (c.fact 17)) (of_decide_eq_true (c.fact 18)) (of_decide_eq_true (c.fact 19)) (of_decide_eq_true (c.fact 20)) (of_decide_eq_true (c.fact 21)) (of_decide_eq_true (c.fact 22)) (of_decide_eq_true (c.fact 23)) (of_decide_eq_true (c.fact 24)) (of_decide_eq_true (c.fact 25)) (of_decide_eq_true (c.fact 26)) (of_decide_eq_true (c.fact 27)) (of_decide_eq_true (c.fact 28)) (of_decide_eq_true (c.fact 29)) (of_decide_eq_true (c.fact 30)) (of_decide_eq_true (c.fact 31)) (of_decide_eq_true (c.fact 32)) (of_decide_eq_true (c.fact 33)) (of_decide_eq_true (c.fact 34)) (of_decide_eq_true (c.fact 35)) (of_decide_eq_true (c.fact 36)) (of_decide_eq_true (c.fact 37)) (of_decide_eq_true (c.fact 38)) (of_decide_eq_true (c.fact 39)) (of_decide_eq_true (c.fact 40)) (c.fact 41) (valB_ok (c.fact 42)) (of_decide_eq_true (c.fact 43)) (c.fact 44) (valB_ok (c.fact 45)) (of_decide_eq_true (c.fact 46)) (c.fact 47) (valB_ok (c.fact 48)) (xlB_ok (c.fact 49)) (of_decide_eq_true (c.fact 50)) (of_decide_eq_true (c.fact 51)) (c.fact 52) (of_decide_eq_true (c.fact 53)) (xlB_ok (c.fact 54)) (of_decide_eq_true (c.fact 55)) (of_decide_eq_true (c.fact 56)) (c.fact 57) (of_decide_eq_true (c.fact 58)) (xlB_ok (c.fact 59)) (of_decide_eq_true (c.fact 60)) (of_decide_eq_true (c.fact 61)) (c.fact 62) (of_decide_eq_true (c.fact 63)) (c.fact 64) (c.fact 65) (c.fact 66) (c.fact 67) (c.fact 68) (c.fact 69) (c.fact 70) (c.fact 71) (c.fact 72) (of_decide_eq_true (c.fact 73)) (of_decide_eq_true (c.fact 74)) (of_decide_eq_true (c.fact 75)) (of_decide_eq_true (c.fact 76)) (of_decide_eq_true (c.fact 77)) (of_decide_eq_true (c.fact 78)) (of_decide_eq_true (c.fact 79)) (of_decide_eq_true (c.fact 80)) (of_decide_eq_true (c.fact 81)) (of_decide_eq_true (c.fact 82)) (of_decide_eq_true (c.fact 83)) (of_decide_eq_true (c.fact 84)) (of_decide_eq_true (c.fact 85)) (of_decide_eq_true (c.fact 86)) (of_decide_eq_true (c.fact 87)) (of_decide_eq_true (c.fact 88)) (of_decide_eq_true (c.fact 89)) (of_decide_eq_true (c.fact 90)) (of_decide_eq_true (c.fact 91)) (of_decide_eq_true (c.fact 92)) (of_decide_eq_true (c.fact 93)) (of_decide_eq_true (c.fact 94)) (of_decide_eq_true (c.fact 95)) (of_decide_eq_true (c.fact 96)) (of_decide_eq_true (c.fact 97)) (of_decide_eq_true (c.fact 98)) (of_decide_eq_true (c.fact 99)) (of_decide_eq_true (c.fact 100)) (of_decide_eq_true (c.fact 101)) (of_decide_eq_true (c.fact 102)) (of_decide_eq_true (c.fact 103)) (of_decide_eq_true (c.fact 104)) (of_decide_eq_true (c.fact 105)) (of_decide_eq_true (c.fact 106)) (of_decide_eq_true (c.fact 107)) (of_decide_eq_true (c.fact 108)) (of_decide_eq_true (c.fact 109)) (of_decide_eq_true (c.fact 110)) (of_decide_eq_true (c.fact 111)) (of_decide_eq_true (c.fact 112)) (xlB_ok (c.fact 113)) (of_decide_eq_true (c.fact 114)) (of_decide_eq_true (c.fact 115)) (c.fact 116) (of_decide_eq_true (c.fact 117)) (of_decide_eq_true (c.fact 118)) (of_decide_eq_true (c.fact 119)) D_Barred (xlB_ok (c.fact 120)) (of_decide_eq_true (c.fact 121)) (of_decide_eq_true (c.fact 122)) (c.fact 123) (of_decide_eq_true (c.fact 124)) (of_decide_eq_true (c.fact 125)) (of_decide_eq_true (c.fact 126)) D_Duplicate (xlB_ok (c.fact 127)) (of_decide_eq_true (c.fact 128)) (of_decide_eq_true (c.fact 129)) (c.fact 130) (of_decide_eq_true (c.fact 131)) (of_decide_eq_true (c.fact 132)) (of_decide_eq_true (c.fact 133)) D_Endless (xlB_ok (c.fact 134)) (of_decide_eq_true (c.fact 135)) (of_decide_eq_true (c.fact 136)) (c.fact 137) (of_decide_eq_true (c.fact 138)) (of_decide_eq_true (c.fact 139)) (of_decide_eq_true (c.fact 140)) D_InvalidAmounts (xlB_ok (c.fact 141)) (of_decide_eq_true (c.fact 142)) (of_decide_eq_true (c.fact 143)) (c.fact 144) (of_decide_eq_true (c.fact 145)) (of_decide_eq_true (c.fact 146)) (of_decide_eq_true (c.fact 147)) D_InvalidBounds (xlB_ok (c.fact 148)) (of_decide_eq_true (c.fact 149)) (of_decide_eq_true (c.fact 150)) (c.fact 151) (of_decide_eq_true (c.fact 152)) (of_decide_eq_true (c.fact 153)) (of_decide_eq_true (c.fact 154)) D_InvalidCommand (xlB_ok (c.fact 155)) (of_decide_eq_true (c.fact 156)) (of_decide_eq_true (c.fact 157)) (c.fact 158) (of_decide_eq_true (c.fact 159)) (of_decide_eq_true (c.fact 160)) (of_decide_eq_true (c.fact 161)) D_InvalidCommands (xlB_ok (c.fact 162)) (of_decide_eq_true (c.fact 163)) (of_decide_eq_true (c.fact 164)) (c.fact 165) (of_decide_eq_true (c.fact 166)) (of_decide_eq_true (c.fact 167)) (of_decide_eq_true (c.fact 168)) D_InvalidCounts (xlB_ok (c.fact 169)) (of_decide_eq_true (c.fact 170)) (of_decide_eq_true (c.fact 171)) (c.fact 172) (of_decide_eq_true (c.fact 173)) (of_decide_eq_true (c.fact 174)) (of_decide_eq_true (c.fact 175)) D_InvalidEntry (xlB_ok (c.fact 176)) (of_decide_eq_true (c.fact 177)) (of_decide_eq_true (c.fact 178)) (c.fact 179) (of_decide_eq_true (c.fact 180)) (of_decide_eq_true (c.fact 181)) (of_decide_eq_true (c.fact 182)) D_InvalidEvents (xlB_ok (c.fact 183)) (of_decide_eq_true (c.fact 184)) (of_decide_eq_true (c.fact 185)) (c.fact 186) (of_decide_eq_true (c.fact 187)) (of_decide_eq_true (c.fact 188)) (of_decide_eq_true (c.fact 189)) D_InvalidInteger (xlB_ok (c.fact 190)) (of_decide_eq_true (c.fact 191)) (of_decide_eq_true (c.fact 192)) (c.fact 193) (of_decide_eq_true (c.fact 194)) (of_decide_eq_true (c.fact 195)) (of_decide_eq_true (c.fact 196)) D_InvalidLimits (xlB_ok (c.fact 197)) (of_decide_eq_true (c.fact 198)) (of_decide_eq_true (c.fact 199)) (c.fact 200) (of_decide_eq_true (c.fact 201)) (of_decide_eq_true (c.fact 202)) (of_decide_eq_true (c.fact 203)) D_InvalidLog (xlB_ok (c.fact 204)) (of_decide_eq_true (c.fact 205)) (of_decide_eq_true (c.fact 206)) (c.fact 207) (of_decide_eq_true (c.fact 208)) (of_decide_eq_true (c.fact 209)) (of_decide_eq_true (c.fact 210)) D_InvalidLogs (xlB_ok (c.fact 211)) (of_decide_eq_true (c.fact 212)) (of_decide_eq_true (c.fact 213)) (c.fact 214) (of_decide_eq_true (c.fact 215)) (of_decide_eq_true (c.fact 216)) (of_decide_eq_true (c.fact 217)) D_InvalidName (xlB_ok (c.fact 218)) (of_decide_eq_true (c.fact 219)) (of_decide_eq_true (c.fact 220)) (c.fact 221) (of_decide_eq_true (c.fact 222)) (of_decide_eq_true (c.fact 223)) (of_decide_eq_true (c.fact 224)) D_InvalidNames (xlB_ok (c.fact 225)) (of_decide_eq_true (c.fact 226)) (of_decide_eq_true (c.fact 227)) (c.fact 228) (of_decide_eq_true (c.fact 229)) (of_decide_eq_true (c.fact 230)) (of_decide_eq_true (c.fact 231)) D_InvalidPlan (xlB_ok (c.fact 232)) (of_decide_eq_true (c.fact 233)) (of_decide_eq_true (c.fact 234)) (c.fact 235) (of_decide_eq_true (c.fact 236)) (of_decide_eq_true (c.fact 237)) (of_decide_eq_true (c.fact 238)) D_InvalidRun (xlB_ok (c.fact 239)) (of_decide_eq_true (c.fact 240)) (of_decide_eq_true (c.fact 241)) (c.fact 242) (of_decide_eq_true (c.fact 243)) (of_decide_eq_true (c.fact 244)) (of_decide_eq_true (c.fact 245)) D_InvalidStock (xlB_ok (c.fact 246)) (of_decide_eq_true (c.fact 247)) (of_decide_eq_true (c.fact 248)) (c.fact 249) (of_decide_eq_true (c.fact 250)) (of_decide_eq_true (c.fact 251)) (of_decide_eq_true (c.fact 252)) D_InvalidText (xlB_ok (c.fact 253)) (of_decide_eq_true (c.fact 254)) (of_decide_eq_true (c.fact 255)) (c.fact 256) (of_decide_eq_true (c.fact 257)) (of_decide_eq_true (c.fact 258)) (of_decide_eq_true (c.fact 259)) D_InvalidTie (xlB_ok (c.fact 260)) (of_decide_eq_true (c.fact 261)) (of_decide_eq_true (c.fact 262)) (c.fact 263) (of_decide_eq_true (c.fact 264)) (of_decide_eq_true (c.fact 265)) (of_decide_eq_true (c.fact 266)) D_InvalidTies (xlB_ok (c.fact 267)) (of_decide_eq_true (c.fact 268)) (of_decide_eq_true (c.fact 269)) (c.fact 270) (of_decide_eq_true (c.fact 271)) (of_decide_eq_true (c.fact 272)) (of_decide_eq_true (c.fact 273)) D_Misfit (xlB_ok (c.fact 274)) (of_decide_eq_true (c.fact 275)) (of_decide_eq_true (c.fact 276)) (c.fact 277) (of_decide_eq_true (c.fact 278)) (of_decide_eq_true (c.fact 279)) (of_decide_eq_true (c.fact 280)) D_NoEntry (xlB_ok (c.fact 281)) (of_decide_eq_true (c.fact 282)) (of_decide_eq_true (c.fact 283)) (c.fact 284) (of_decide_eq_true (c.fact 285)) (of_decide_eq_true (c.fact 286)) D_NoRun (xlB_ok (c.fact 287)) (of_decide_eq_true (c.fact 288)) (of_decide_eq_true (c.fact 289)) (c.fact 290) (of_decide_eq_true (c.fact 291)) (of_decide_eq_true (c.fact 292)) (of_decide_eq_true (c.fact 293)) D_NoTie (xlB_ok (c.fact 294)) (of_decide_eq_true (c.fact 295)) (of_decide_eq_true (c.fact 296)) (c.fact 297) (of_decide_eq_true (c.fact 298)) (of_decide_eq_true (c.fact 299)) (of_decide_eq_true (c.fact 300)) D_NotBehind (xlB_ok (c.fact 301)) (of_decide_eq_true (c.fact 302)) (of_decide_eq_true (c.fact 303)) (c.fact 304) (of_decide_eq_true (c.fact 305)) (of_decide_eq_true (c.fact 306)) (of_decide_eq_true (c.fact 307)) D_NotMoment (xlB_ok (c.fact 308)) (of_decide_eq_true (c.fact 309)) (of_decide_eq_true (c.fact 310)) (c.fact 311) (of_decide_eq_true (c.fact 312)) (of_decide_eq_true (c.fact 313)) D_NotPossible (xlB_ok (c.fact 314)) (of_decide_eq_true (c.fact 315)) (of_decide_eq_true (c.fact 316)) (c.fact 317) (of_decide_eq_true (c.fact 318)) (of_decide_eq_true (c.fact 319)) (of_decide_eq_true (c.fact 320)) D_NotSafe (xlB_ok (c.fact 321)) (of_decide_eq_true (c.fact 322)) (of_decide_eq_true (c.fact 323)) (c.fact 324) (of_decide_eq_true (c.fact 325)) (of_decide_eq_true (c.fact 326)) D_NothingToRedo (xlB_ok (c.fact 327)) (of_decide_eq_true (c.fact 328)) (of_decide_eq_true (c.fact 329)) (c.fact 330) (of_decide_eq_true (c.fact 331)) (of_decide_eq_true (c.fact 332)) D_NothingToUndo (xlB_ok (c.fact 333)) (of_decide_eq_true (c.fact 334)) (of_decide_eq_true (c.fact 335)) (c.fact 336) (of_decide_eq_true (c.fact 337)) (of_decide_eq_true (c.fact 338)) (of_decide_eq_true (c.fact 339)) D_Ring (xlB_ok (c.fact 340)) (of_decide_eq_true (c.fact 341)) (of_decide_eq_true (c.fact 342)) (c.fact 343) (of_decide_eq_true (c.fact 344)) (of_decide_eq_true (c.fact 345)) (of_decide_eq_true (c.fact 346)) D_TooLong (xlB_ok (c.fact 347)) (of_decide_eq_true (c.fact 348)) (of_decide_eq_true (c.fact 349)) (c.fact 350) (of_decide_eq_true (c.fact 351)) (of_decide_eq_true (c.fact 352)) (of_decide_eq_true (c.fact 353)) D_TooMany (xlB_ok (c.fact 354)) (of_decide_eq_true (c.fact 355)) (of_decide_eq_true (c.fact 356)) (c.fact 357) (of_decide_eq_true (c.fact 358)) (of_decide_eq_true (c.fact 359)) (of_decide_eq_true (c.fact 360)) D_UnknownEvent (xlB_ok (c.fact 361)) (of_decide_eq_true (c.fact 362)) (of_decide_eq_true (c.fact 363)) (c.fact 364) (of_decide_eq_true (c.fact 365)) (of_decide_eq_true (c.fact 366)) (of_decide_eq_true (c.fact 367)) D_UnlikeEvents (of_decide_eq_true (c.fact 368)) F0 (of_decide_eq_true (c.fact 369)) F1 (of_decide_eq_true (c.fact 370)) F2 (of_decide_eq_true (c.fact 371)) F3 (of_decide_eq_true (c.fact 372)) F4 (of_decide_eq_true (c.fact 373)) F5 (of_decide_eq_true (c.fact 374)) F6 (of_decide_eq_true (c.fact 375)) F7 (of_decide_eq_true (c.fact 376)) F8 (of_decide_eq_true (c.fact 377)) F9 (of_decide_eq_true (c.fact 378)) (of_decide_eq_true (c.fact 379)) (of_decide_eq_true (c.fact 380)) (of_decide_eq_true (c.fact 381)) (of_decide_eq_true (c.fact 382)) (of_decide_eq_true (c.fact 383)) (of_decide_eq_true (c.fact 384)) (of_decide_eq_true (c.fact 385)) (of_decide_eq_true (c.fact 386)) (of_decide_eq_true (c.fact 387)) (of_decide_eq_true (c.fact 388)) (of_decide_eq_true (c.fact 389)) (of_decide_eq_true (c.fact 390)) (of_decide_eq_true (c.fact 391))
end K03
open PySem PySem.W PyProof.Rows
set_option maxHeartbeats 0 in
theorem PySem.Challenge.cw_pileups_k03_errors_and_their_fields_holds : PySem.Challenge.rw_pileups_k03_errors_and_their_fields.Holds := by
  w_on; o_law
  refine HandSHeadRun.head_any (r := OpenLaw.row PySem.Challenge.rw_pileups_k03_errors_and_their_fields) (q := K03.qB) (H := K03.hkB) (ob := K03.obB) (M := 40000) (loose := K03.nmB) (d := HandSHeadRun.topDef (OpenLaw.row PySem.Challenge.rw_pileups_k03_errors_and_their_fields).prog 51) (kwd := []) K03.obB_eq
    (by kernel_rfl) (fun s => by kernel_rfl) K03.runB (by kernel_rfl) (by kernel_rfl) (by kernel_rfl) (by rfl) (by first | assumption | decide +kernel) (by decide +kernel) ⟨rfl, rfl, rfl, rfl, rfl, by decide +kernel⟩ ?hw ?hc
  case hw => w_witness2
  case hc =>
    refine L3.walkE (l := PySem.Challenge.rw_pileups_k03_errors_and_their_fields) (n := 63) (k := 4) (x := "_law_script") (X0 := fun _ => L2.CX0) (by decide +kernel) rfl (by decide) (by kernel_rfl) ⟨rfl, by decide, by decide⟩ ?F (fun _ _ _ _ _ z => z)
    intro w mg fa h Y G hmg0
    obtain ⟨K, KX, c⟩ := Y
    have hmg : mg ("law" : PySem.Str) = some (.ref fa) := by
      have e : (HandSHeadRun.topDef (OpenLaw.row PySem.Challenge.rw_pileups_k03_errors_and_their_fields).prog 51).name = ("law" : PySem.Str) := by kernel_rfl
      rw [← e]
      exact hmg0
    obtain ⟨fd, hb, hF⟩ := K03.endB (l := PySem.Challenge.rw_pileups_k03_errors_and_their_fields) (w := w) KX G hmg c
    exact ⟨K, fd, _, KX, hb, fun H a ns hl hS => K03.enter (K := ⟨K, (PySem.Challenge.rw_pileups_k03_errors_and_their_fields).prog, w⟩) hl hS, hF⟩
