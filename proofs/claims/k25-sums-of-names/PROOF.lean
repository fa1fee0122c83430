import PyProof.Rows.All
import Wide.All
import OpenK.AllK
import Wide.FinOn
import PySem.Challenge.RW_sevensights_k25_sums_of_names
import HandS.ForMost
import HandS.Star
import HandS.IsInst
import HandS.DictComp
import HandS.Zip
import HandS.Nested
import HandS.EndTab
import HandS.SortInts
import HandS.ExcInit
import HandS.ExcSuper
import HandS.WordsExc
import HandS.Lambda
import HandS.TupAny
import HandS.TupMul
import HandS.TupLen
import HandS.Wide
import HandS.Style
import HandS.Strs
import HandS.Gcd
import HandS.Deep
import HandS.Conv
import HandS.More
import HandS.RaiseMore
import HandS.Iter
import HandS.Sort
import HandS.SortOrd
import KE.GoesMore
import KE.GoesEnum
import KE.KExcSuper
import KE.KDflt
import KE.KExcIs
import HandS.ExcIs
import HandS.SetFor
import PyProof.StrLawsOcc
import KE.KNestM
section
set_option Elab.async false
set_option linter.all false
set_option maxRecDepth 100000
set_option maxHeartbeats 4000000
namespace Dn
open PySem PySem.Spec PyProof.Rows L2

abbrev St := L2.St
/-- a value as a tree -/
inductive D where
  | non | bl (b : Bool) | int (i : Int) | str (x : Str)
  | lst (xs : List D) | tup (xs : List D)
  | dk (ks : List Key) (vs : List D)
  | dt (ks : List (List Key)) (vs : List D)
  | pen
  | ins (c : Str) (ks : List Str) (vs : List D)
  /-- an exception that was caught, by its class and its fields -/
  | ex (c : Str) (ks : List Str) (vs : List D)
  deriving Inhabited

/-- what comes: a value and the pen, an exception by its class's name and its fields, or no word -/
inductive R (α : Type) where
  | ok (a : α) (p : List D)
  | exc (c : Str) (ks : List Str) (ds : List D) (p : List D)
  | stuck
def R.bnd {α β : Type} (r : R α) (k : α → List D → R β) : R β := match r with
  | .ok a p => k a p
  | .exc c ks ds p => .exc c ks ds p
  | .stuck => .stuck
@[simp] theorem bnd_ok {α β : Type} (a : α) (p : List D) (k : α → List D → R β) : (R.ok a p).bnd k = k a p := rfl
@[simp] theorem bnd_exc {α β : Type} (c : Str) (ks : List Str) (ds p : List D) (k : α → List D → R β) : (R.exc c ks ds p : R α).bnd k = .exc c ks ds p := rfl
@[simp] theorem bnd_stuck {α β : Type} (k : α → List D → R β) : (R.stuck : R α).bnd k = .stuck := rfl

def SqLa (K : PySem.W.Frag) (Av : List Addr) (H : Hp) (a : Addr) (xs : List V) : Prop :=
  (Rd H a (.lst xs) ∧ a ∉ Av) ∨
    ∃ (o : Obj) (its : Array Value) (n : Nat), K.lookup a = some o ∧ o.cls = .type "list" ∧ o.dict = none ∧ o.data = .seq its n ∧ its.size ≤ sizeLine ∧ Vals xs its.toList
def SqTa (K : PySem.W.Frag) (Av : List Addr) (H : Hp) (a : Addr) (xs : List V) : Prop :=
  (Rd H a (.tup xs) ∧ a ∉ Av) ∨
    ∃ (o : Obj) (its : Array Value) (n : Nat), K.lookup a = some o ∧ o.cls = .type "tuple" ∧ o.data = .seq its n ∧ its.size ≤ sizeLine ∧ Vals xs its.toList
theorem SqLa.sq {K : PySem.W.Frag} {Av : List Addr} {H : Hp} {a : Addr} {xs : List V} (h : SqLa K Av H a xs) : SqL K H a xs := h.elim (fun h => .inl h.1) .inr
theorem SqTa.sq {K : PySem.W.Frag} {Av : List Addr} {H : Hp} {a : Addr} {xs : List V} (h : SqTa K Av H a xs) : SqT K H a xs := h.elim (fun h => .inl h.1) .inr
theorem SqLa.of {K : PySem.W.Frag} {Av : List Addr} {H : Hp} {a : Addr} {xs : List V} (h : H a = some (.lst xs)) (n : a ∉ Av) : SqLa K Av H a xs := .inl ⟨.inl h, n⟩
theorem SqTa.of {K : PySem.W.Frag} {Av : List Addr} {H : Hp} {a : Addr} {xs : List V} (h : H a = some (.tup xs)) (n : a ∉ Av) : SqTa K Av H a xs := .inl ⟨.inl h, n⟩

/-- the object at a is an exception of the class at C, its dict at x -/
def ExO (C x a : Addr) : HO := .ext fun h => ∃ (oe : Obj) (vs : Array Value), h.get? a = some oe ∧ oe.cls = .ref C ∧ oe.dict = some x ∧ oe.data = .fields vs
/-- no table of code objects -/
def _root_.L2.HO.nt : HO → Bool
  | .tbl _ => false
  | _ => true
mutual
inductive DR (K : PySem.W.Frag) (mg : Str → Option Value) (pa : Addr) (Av : List Addr) (H : Hp) : V → D → Prop
  | non : DR K mg pa Av H .non .non
  | bl (b : Bool) : DR K mg pa Av H (.bl b) (.bl b)
  | int (i : Int) : DR K mg pa Av H (.int i) (.int i)
  | str (x : Str) : DR K mg pa Av H (.str x) (.str x)
  | pen : DR K mg pa Av H (.ref pa) .pen
  | lst {a : Addr} {xs : List V} {ds : List D} : H a = some (.lst xs) → a ∉ Av → DRs K mg pa Av H xs ds → DR K mg pa Av H (.ref a) (.lst ds)
  | tup {a : Addr} {xs : List V} {ds : List D} : SqTa K Av H a xs → DRs K mg pa Av H xs ds → DR K mg pa Av H (.ref a) (.tup ds)
  | dk {a : Addr} {kvs : List (Key × V)} {ks : List Key} {vs : List V} {ds : List D} : H a = some (.dK kvs) → a ∉ Av → kvs.map (·.1) = ks → kvs.map (·.2) = vs → DRs K mg pa Av H vs ds → DR K mg pa Av H (.ref a) (.dk ks ds)
  | dt {a : Addr} {kvs : List (List Key × V)} {ks : List (List Key)} {vs : List V} {ds : List D} : H a = some (.dT kvs) → a ∉ Av → kvs.map (·.1) = ks → kvs.map (·.2) = vs → DRs K mg pa Av H vs ds → DR K mg pa Av H (.ref a) (.dt ks ds)
  | ins {a C dx : Addr} {c : Str} {fs : List (Str × V)} {ks : List Str} {vs : List V} {ds : List D} : mg c = some (.ref C) → H a = some (.ins C dx fs) → H dx = some (.own a) → a ∉ Av → dx ∉ Av → fs.map (·.1) = ks → fs.map (·.2) = vs → DRs K mg pa Av H vs ds →
      DR K mg pa Av H (.ref a) (.ins c ks ds)
  | ex {a C x : Addr} {c : Str} {fs : List (Str × V)} {ks : List Str} {vs : List V} {ds : List D} : mg c = some (.ref C) → H a = some (ExO C x a) → H x = some (.xd fs) → a ∉ Av → x ∉ Av → fs.map (·.1) = ks → fs.map (·.2) = vs → DRs K mg pa Av H vs ds →
      DR K mg pa Av H (.ref a) (.ex c ks ds)
inductive DRs (K : PySem.W.Frag) (mg : Str → Option Value) (pa : Addr) (Av : List Addr) (H : Hp) : List V → List D → Prop
  | nil : DRs K mg pa Av H [] []
  | cons {v : V} {vs : List V} {d : D} {ds : List D} : DR K mg pa Av H v d → DRs K mg pa Av H vs ds → DRs K mg pa Av H (v :: vs) (d :: ds)
end

section
variable {K : PySem.W.Frag} {mg : Str → Option Value} {pa : Addr} {Av Av' : List Addr} {H H' : Hp} {v : V} {d : D} {vs : List V} {ds : List D}
/-- from one heap, one avoided set to another -/
structure Mv (Av Av' : List Addr) (H H' : Hp) : Prop where
  ext : ∀ a o, a ∉ Av → H a = some o → (h : o.nt = true := by rfl) → H' a = some o
  av : ∀ a ∈ Av', a ∈ Av ∨ H a = none
theorem Mv.ne {a : Addr} {o : HO} (m : Mv Av Av' H H') (h : H a = some o) (n : a ∉ Av) : a ∉ Av' := fun z => by
  rcases m.av a z with q | q
  · exact n q
  · rw [h] at q; cases q
theorem Rd.live {a : Addr} {u : HO} (h : Rd H a u) : ∃ o, H a = some o := by
  rcases h with h | ⟨o, h⟩
  · exact ⟨_, h⟩
  · exact ⟨_, h⟩
theorem Mv.rd {a : Addr} {u : HO} (m : Mv Av Av' H H') (h : Rd H a u) (n : a ∉ Av) (hu : u.nt = true := by rfl) : Rd H' a u ∧ a ∉ Av' := by
  obtain ⟨o, e⟩ := Rd.live h
  refine ⟨?_, m.ne e n⟩
  rcases h with h | ⟨o, h⟩
  · exact .inl (m.ext _ _ n h hu)
  · exact .inr ⟨o, m.ext _ _ n h⟩
theorem Mv.sql {a : Addr} {xs : List V} (m : Mv Av Av' H H') (h : SqLa K Av H a xs) : SqLa K Av' H' a xs := h.elim (fun h => .inl (m.rd h.1 h.2)) .inr
theorem Mv.sqt {a : Addr} {xs : List V} (m : Mv Av Av' H H') (h : SqTa K Av H a xs) : SqTa K Av' H' a xs := h.elim (fun h => .inl (m.rd h.1 h.2)) .inr
mutual
theorem Mv.dr (m : Mv Av Av' H H') : ∀ {v : V} {d : D}, DR K mg pa Av H v d → DR K mg pa Av' H' v d
  | _, _, .non => .non
  | _, _, .bl b => .bl b
  | _, _, .int i => .int i
  | _, _, .str x => .str x
  | _, _, .pen => .pen
  | _, _, .lst h n q => .lst (m.ext _ _ n h) (m.ne h n) (Mv.drs m q)
  | _, _, .tup h q => .tup (m.sqt h) (Mv.drs m q)
  | _, _, .dk h n e1 e2 q => .dk (m.ext _ _ n h) (m.ne h n) e1 e2 (Mv.drs m q)
  | _, _, .dt h n e1 e2 q => .dt (m.ext _ _ n h) (m.ne h n) e1 e2 (Mv.drs m q)
  | _, _, .ins e h h2 n n2 e1 e2 q => .ins e (m.ext _ _ n h) (m.ext _ _ n2 h2) (m.ne h n) (m.ne h2 n2) e1 e2 (Mv.drs m q)
  | _, _, .ex e h h2 n n2 e1 e2 q => .ex e (m.ext _ _ n h) (m.ext _ _ n2 h2) (m.ne h n) (m.ne h2 n2) e1 e2 (Mv.drs m q)
theorem Mv.drs (m : Mv Av Av' H H') : ∀ {vs : List V} {ds : List D}, DRs K mg pa Av H vs ds → DRs K mg pa Av' H' vs ds
  | _, _, .nil => .nil
  | _, _, .cons h q => .cons (Mv.dr m h) (Mv.drs m q)
end
theorem DRs.length : ∀ {vs : List V} {ds : List D}, DRs K mg pa Av H vs ds → vs.length = ds.length
  | _, _, .nil => rfl
  | _, _, .cons _ q => congrArg (· + 1) q.length
theorem DRs.get : ∀ {vs : List V} {ds : List D} {i : Nat} {d : D}, DRs K mg pa Av H vs ds → ds[i]? = some d → ∃ v, vs[i]? = some v ∧ DR K mg pa Av H v d
  | _, _, _, _, .nil, e => by simp at e
  | _, _, 0, _, .cons h _, e => by
    simp at e
    subst e
    exact ⟨_, rfl, h⟩
  | _, _, i + 1, _, .cons _ q, e => by
    obtain ⟨v, h1, h2⟩ := DRs.get (i := i) q (by simpa using e)
    exact ⟨v, by simpa using h1, h2⟩
theorem DRs.getV : ∀ {vs : List V} {ds : List D} {i : Nat} {v : V}, DRs K mg pa Av H vs ds → vs[i]? = some v → ∃ d, ds[i]? = some d ∧ DR K mg pa Av H v d
  | _, _, _, _, .nil, e => by simp at e
  | _, _, 0, _, .cons h _, e => by
    simp at e
    subst e
    exact ⟨_, rfl, h⟩
  | _, _, i + 1, _, .cons _ q, e => by
    obtain ⟨v, h1, h2⟩ := DRs.getV (i := i) q (by simpa using e)
    exact ⟨v, by simpa using h1, h2⟩
theorem DRs.app : ∀ {vs ws : List V} {ds es : List D}, DRs K mg pa Av H vs ds → DRs K mg pa Av H ws es → DRs K mg pa Av H (vs ++ ws) (ds ++ es)
  | _, _, _, _, .nil, q => q
  | _, _, _, _, .cons h r, q => .cons h (r.app q)
theorem DRs.set : ∀ {vs : List V} {ds : List D} {v : V} {d : D} (i : Nat), DRs K mg pa Av H vs ds → DR K mg pa Av H v d → DRs K mg pa Av H (vs.set i v) (ds.set i d)
  | _, _, _, _, _, .nil, _ => .nil
  | _, _, _, _, 0, .cons _ q, h => .cons h q
  | _, _, _, _, i + 1, .cons g q, h => .cons g (DRs.set i q h)
theorem DRs.drop : ∀ {vs : List V} {ds : List D} (n : Nat), DRs K mg pa Av H vs ds → DRs K mg pa Av H (vs.drop n) (ds.drop n)
  | _, _, 0, q => q
  | _, _, _ + 1, .nil => .nil
  | _, _, n + 1, .cons _ q => q.drop n
theorem DRs.take : ∀ {vs : List V} {ds : List D} (n : Nat), DRs K mg pa Av H vs ds → DRs K mg pa Av H (vs.take n) (ds.take n)
  | _, _, 0, _ => .nil
  | _, _, _ + 1, .nil => .nil
  | _, _, n + 1, .cons h q => .cons h (q.take n)
theorem DRs.rev : ∀ {vs : List V} {ds : List D}, DRs K mg pa Av H vs ds → DRs K mg pa Av H vs.reverse ds.reverse
  | _, _, .nil => .nil
  | _, _, .cons h q => by
    rw [List.reverse_cons, List.reverse_cons]
    exact q.rev.app (.cons h .nil)
theorem DRs.erase : ∀ {vs : List V} {ds : List D} (n : Nat), DRs K mg pa Av H vs ds → DRs K mg pa Av H (vs.eraseIdx n) (ds.eraseIdx n)
  | _, _, _, .nil => .nil
  | _, _, 0, .cons _ q => q
  | _, _, n + 1, .cons h q => .cons h (q.erase n)
end
/-! ### the state -/
inductive Sl where
  | none | val (d : D) | own (ds : List D)
  deriving Inhabited
/-! ### tables of code objects -/
/-- the names of the defs in which a lambda stands -/
def lamNames : List Str := ["_law_refused_right"]
/-- the table of the code object at c -/
def tabOf (K : PySem.W.Frag) (c : Addr) : Option Addr := match K.lookup c with
  | some o => match o.data with
    | .fields us => match (us[11]? : Option Value) with
      | some (.ref P) => some P
      | _ => none
    | _ => none
  | none => none
def tabF (K : PySem.W.Frag) (mg : Str → Option Value) (x : Str) : List (Addr × Str) := match mg x with
  | some (.ref f) => match K.lookup f with
    | some o => match o.data with
      | .func fd => match fd.code with
        | .ref c => match tabOf K c with
          | some P => [(P, fd.qualname ++ ".<locals>." ++ "<lambda>")]
          | none => []
        | _ => []
      | _ => []
    | none => []
  | _ => []
def tabsOf (K : PySem.W.Frag) (mg : Str → Option Value) : List (Addr × Str) := lamNames.flatMap (tabF K mg)
abbrev TabsK (K : PySem.W.Frag) (mg : Str → Option Value) (H : Hp) : Prop := LamX.Tabs (tabsOf K mg) H
/-- tables and code objects stay -/
theorem tabs_upd {T : List (Addr × Str)} {H : Hp} {a : Addr} {o u : HO} (t : LamX.Tabs T H) (h : H a = some u) (n1 : ∀ ps, u ≠ .tbl ps) (n2 : ∀ c q, u ≠ LamX.CodeO c q) : LamX.Tabs T (upd H a o) := fun p hp => by
  obtain ⟨ps, h1, h2, h3⟩ := t p hp
  refine ⟨ps, by rw [upd_ne (ne_of h1 h (Ne.symm (n1 ps)))]; exact h1, h2, fun pos cv hc => ?_⟩
  obtain ⟨c, e1, e2⟩ := h3 pos cv hc
  exact ⟨c, e1, by rw [upd_ne (ne_of e2 h (Ne.symm (n2 _ _)))]; exact e2⟩
theorem tabs_upd_lst {T : List (Addr × Str)} {H : Hp} {a : Addr} {o : HO} {vs : List V} (t : LamX.Tabs T H) (h : H a = some (.lst vs)) : LamX.Tabs T (upd H a o) := tabs_upd t h (fun _ z => by cases z) (fun _ _ z => by unfold LamX.CodeO at z; cases z)
theorem tabs_new {T : List (Addr × Str)} {H : Hp} {a : Addr} {o : HO} (t : LamX.Tabs T H) (h : H a = none) : LamX.Tabs T (upd H a o) := t.ext fun b u e => by
  rw [upd_ne (ne_of_none e h)]
  exact e
/-- all but the pen's own list and the tables stays -/
structure Ext (pa : Addr) (H H' : Hp) : Prop where
  keep : ∀ a o, a ≠ pa → H a = some o → o.nt = true → H' a = some o
  liv : ∀ a, a ≠ pa → H a ≠ none → H' a ≠ none
theorem Ext.at {pa : Addr} {H H' : Hp} (e : Ext pa H H') (a : Addr) (o : HO) (n : a ≠ pa) (h : H a = some o) (ht : o.nt = true := by rfl) : H' a = some o := e.keep a o n h ht
instance {pa : Addr} {H H' : Hp} : CoeFun (Ext pa H H') fun _ => ∀ (a : Addr) (o : HO), a ≠ pa → H a = some o → (ht : o.nt = true := by rfl) → H' a = some o := ⟨fun e => @Ext.at pa H H' e⟩
theorem Ext.refl {pa : Addr} (H : Hp) : Ext pa H H := ⟨fun _ _ _ h _ => h, fun _ _ h => h⟩
theorem Ext.trans {pa : Addr} {H H1 H2 : Hp} (a : Ext pa H H1) (b : Ext pa H1 H2) : Ext pa H H2 := ⟨fun x o n h t => b.keep x o n (a.keep x o n h t) t, fun x n h => b.liv x n (a.liv x n h)⟩
/-- nothing is lost -/
theorem Ext.of {pa : Addr} {H H' : Hp} (e : ∀ a o, a ≠ pa → H a = some o → H' a = some o) : Ext pa H H' := ⟨fun a o n h _ => e a o n h, fun a n h => by
  cases z : H a with
  | none => exact absurd z h
  | some o => rw [e a o n z]; simp⟩
theorem Ext.new {pa : Addr} {H : Hp} {p : Addr} {o : HO} (h : H p = none) : Ext pa H (upd H p o) := .of fun a u _ e => by
  rw [upd_ne (ne_of_none e h)]
  exact e
theorem Ext.over {pa a : Addr} {H1 H : Hp} {o : HO} (e : Ext pa H1 H) (h : H1 a = none) : Ext pa H1 (upd H a o) :=
  ⟨fun b u n z t => by rw [upd_ne (ne_of_none z h)]; exact e.keep b u n z t, fun b n z => by
    have nb : b ≠ a := fun q => z (q ▸ h)
    rw [upd_ne nb]; exact e.liv b n z⟩
section
variable {K : PySem.W.Frag} {mg : Str → Option Value} {pa : Addr} {Av Av' : List Addr} {H H' : Hp} {σ : St} {ρ : List Sl} {p p' : List D}
structure PenOk (K : PySem.W.Frag) (mg : Str → Option Value) (pa : Addr) (Av : List Addr) (H : Hp) (p : List D) : Prop where
  at' : ∃ vs, H pa = some (.lst vs) ∧ DRs K mg pa Av H vs p
  tabs : TabsK K mg H
structure Base (pa : Addr) (Av : List Addr) (H : Hp) : Prop where
  mem : pa ∈ Av
  liv : ∀ a ∈ Av, H a ≠ none
theorem Ext.live (e : Ext pa H H') (hp : H' pa ≠ none) {a : Addr} (h : H a ≠ none) : H' a ≠ none := by
  by_cases q : a = pa
  · rw [q]; exact hp
  · exact e.liv a q h
theorem PenOk.live (k : PenOk K mg pa Av H p) : H pa ≠ none := by
  obtain ⟨vs, h, _⟩ := k.at'
  rw [h]; simp
theorem Base.step (b : Base pa Av H) (e : Ext pa H H') (k : PenOk K mg pa Av H' p') : Base pa Av H' := ⟨b.mem, fun a ha => e.live k.live (b.liv a ha)⟩
theorem Base.mv (b : Base pa Av H) (e : Ext pa H H') : Mv Av Av H H' := ⟨fun a o n h ht => e.keep a o (fun z => n (z ▸ b.mem)) h ht, fun a h => .inl h⟩
theorem Base.fresh (b : Base pa Av H) {a : Addr} (h : H a = none) : a ∉ Av := fun z => b.liv a z h
structure Rel (K : PySem.W.Frag) (mg : Str → Option Value) (pa : Addr) (Av : List Addr) (σ : St) (H : Hp) (ρ : List Sl) (p : List D) : Prop where
  val : ∀ (i : Nat) (d : D), ρ[i]? = some (Sl.val d) → ∃ v, σ[i]? = some (some v) ∧ DR K mg pa Av H v d
  own : ∀ (i : Nat) (ds : List D), ρ[i]? = some (Sl.own ds) → ∃ a vs, σ[i]? = some (some (.ref a)) ∧ a ∈ Av ∧ a ≠ pa ∧ H a = some (.lst vs) ∧ DRs K mg pa Av H vs ds
  sep : ∀ (i j : Nat) (ds es : List D), ρ[i]? = some (Sl.own ds) → ρ[j]? = some (Sl.own es) → σ[i]? = σ[j]? → i = j
  pen : PenOk K mg pa Av H p
  base : Base pa Av H
  len : ρ.length = σ.length
theorem Rel.step (r : Rel K mg pa Av σ H ρ p) (e : Ext pa H H') (k : PenOk K mg pa Av H' p') : Rel K mg pa Av σ H' ρ p' where
  val := fun i d h => by
    obtain ⟨v, h1, h2⟩ := r.val i d h
    exact ⟨v, h1, (r.base.mv e).dr h2⟩
  own := fun i ds h => by
    obtain ⟨a, vs, h1, h2, h3, h4, h5⟩ := r.own i ds h
    exact ⟨a, vs, h1, h2, h3, e _ _ h3 h4, (r.base.mv e).drs h5⟩
  sep := r.sep
  pen := k
  base := r.base.step e k
  len := r.len
theorem PenOk.step (k : PenOk K mg pa Av H p) (b : Base pa Av H) (e : Ext pa H H') (same : H' pa = H pa) (t : TabsK K mg H') : PenOk K mg pa Av H' p := by
  obtain ⟨vs, h, q⟩ := k.at'
  exact ⟨⟨vs, same.trans h, (b.mv e).drs q⟩, t⟩
/-- a new object: the pen stays -/
theorem PenOk.new {a : Addr} {o : HO} (k : PenOk K mg pa Av H p) (b : Base pa Av H) (h : H a = none) : PenOk K mg pa Av (upd H a o) p :=
  k.step b (Ext.new h) (upd_ne (fun z => k.live (z ▸ h))) (tabs_new k.tabs h)
end
/-! ### what is asked behind an expression -/
abbrev EX := St → Hp → VK → Prop
section
variable (K : PySem.W.Frag) (mg : Str → Option Value) (pa : Addr) (Av : List Addr) (W : WX) (σ : St) (H : Hp)
/-- an exception goes out -/
def PX (c : Str) (ks : List Str) (ds p : List D) : Prop := ∀ C x fs H', mg c = some (.ref C) → Ext pa H H' → H x = none → H' x = some (.xd fs) → fs.map (·.1) = ks → DRs K mg pa Av H' (fs.map (·.2)) ds → PenOk K mg pa Av H' p → W (.ref C) (some x) σ H'
def PE1 (Q : VK) : R D → Prop
  | .ok d p' => ∀ v H', Ext pa H H' → DR K mg pa Av H' v d → PenOk K mg pa Av H' p' → Q v H'
  | .exc c ks ds p' => PX K mg pa Av W σ H c ks ds p'
  | .stuck => False
/-- a new list -/
def PL1 (Q : VK) : R (List D) → Prop
  | .ok ds p' => ∀ a vs H', Ext pa H H' → H a = none → H' a = some (.lst vs) → DRs K mg pa (a :: Av) H' vs ds → PenOk K mg pa (a :: Av) H' p' → Q (.ref a) H'
  | .exc c ks ds p' => PX K mg pa Av W σ H c ks ds p'
  | .stuck => False
def PT1 (Q : Bool → Hp → Prop) : R Bool → Prop
  | .ok b p' => ∀ H', Ext pa H H' → PenOk K mg pa Av H' p' → Q b H'
  | .exc c ks ds p' => PX K mg pa Av W σ H c ks ds p'
  | .stuck => False
def PA1 (Q : List V → Hp → Prop) : R (List D) → Prop
  | .ok ds p' => ∀ vs H', Ext pa H H' → DRs K mg pa Av H' vs ds → PenOk K mg pa Av H' p' → Q vs H'
  | .exc c ks ds p' => PX K mg pa Av W σ H c ks ds p'
  | .stuck => False
end
abbrev FE := List Sl → List D → R D
abbrev FL := List Sl → List D → R (List D)
abbrev FT := List Sl → List D → R Bool
section
variable (K : PySem.W.Frag) (mg : Str → Option Value) (W : WX)
def TD (f : FE) : TE := fun σ H Q => ∃ pa Av ρ p, Rel K mg pa Av σ H ρ p ∧ PE1 K mg pa Av W σ H Q (f ρ p)
def TL (f : FL) : TE := fun σ H Q => ∃ pa Av ρ p, Rel K mg pa Av σ H ρ p ∧ PL1 K mg pa Av W σ H Q (f ρ p)
def TB (f : FT) : TT := fun σ H Q => ∃ pa Av ρ p, Rel K mg pa Av σ H ρ p ∧ PT1 K mg pa Av W σ H Q (f ρ p)
def TAr (f : FL) : TA := fun σ H Q => ∃ pa Av ρ p, Rel K mg pa Av σ H ρ p ∧ PA1 K mg pa Av W σ H Q (f ρ p)
end
theorem _root_.L2.PE.imp {X : Cx} {e : Expr} {t t' : TE} (h : PE X e t) (i : ∀ σ H Q, t' σ H Q → t σ H Q) : PE X e t' := ⟨fun pins s σ H Q I q => h.run pins s σ H Q I (i σ H Q q)⟩
theorem _root_.L2.PT.imp {X : Cx} {e : Expr} {t t' : TT} (h : PT X e t) (i : ∀ σ H Q, t' σ H Q → t σ H Q) : PT X e t' := ⟨fun pins s σ H Q I q => h.run pins s σ H Q I (i σ H Q q)⟩
theorem _root_.L2.PW.imp {X : Cx} {e : Expr} {t t' : TT} (h : PW X e t) (i : ∀ σ H Q, t' σ H Q → t σ H Q) : PW X e t' := ⟨fun wh pins s σ H Q I q => h.run wh pins s σ H Q I (i σ H Q q)⟩
theorem _root_.L2.PA.imp {X : Cx} {e : List Expr} {t t' : TA} (h : PA X e t) (i : ∀ σ H Q, t' σ H Q → t σ H Q) : PA X e t' := ⟨fun pos pins s σ H Q I q => h.run pos pins s σ H Q I (i σ H Q q)⟩
theorem _root_.L2.PS.imp {X : Cx} {e : Stmt} {t t' : TS} (h : PS X e t) (i : ∀ D σ H, t' D σ H → t D σ H) : PS X e t' := ⟨fun pins s σ H D I q => h.run pins s σ H D I (i D σ H q)⟩
theorem _root_.L2.PSs.imp {X : Cx} {e : List Stmt} {t t' : TS} (h : PSs X e t) (i : ∀ D σ H, t' D σ H → t D σ H) : PSs X e t' := ⟨fun pins s σ H D I q => h.run pins s σ H D I (i D σ H q)⟩
/-! ### from an elder heap -/
section
variable {K : PySem.W.Frag} {mg : Str → Option Value} {pa : Addr} {Av : List Addr} {W : WX} {σ : St} {H H1 : Hp} {ρ : List Sl} {p : List D}
theorem fresh_back {H H1 : Hp} (e : Ext pa H H1) (hp : H1 pa ≠ none) {a : Addr} (h : H1 a = none) : H a = none := by
  cases z : H a with
  | none => rfl
  | some o => exact absurd h (e.live hp (by rw [z]; simp))
theorem PX.later {c : Str} {ks : List Str} {ds p : List D} (e : Ext pa H H1) (hp : H1 pa ≠ none) (h : PX K mg pa Av W σ H c ks ds p) : PX K mg pa Av W σ H1 c ks ds p :=
  fun C x fs H' h1 h2 h3 h4 h5 h6 h7 => h C x fs H' h1 (e.trans h2) (fresh_back e hp h3) h4 h5 h6 h7
theorem PE1.later {Q : VK} {r : R D} (e : Ext pa H H1) (hp : H1 pa ≠ none) (h : PE1 K mg pa Av W σ H Q r) : PE1 K mg pa Av W σ H1 Q r := by
  cases r with
  | ok d p' => exact fun v H' e' => h v H' (e.trans e')
  | exc c ks ds p' => exact PX.later e hp h
  | stuck => exact h
theorem PL1.later {Q : VK} {r : R (List D)} (e : Ext pa H H1) (hp : H1 pa ≠ none) (h : PL1 K mg pa Av W σ H Q r) : PL1 K mg pa Av W σ H1 Q r := by
  cases r with
  | ok d p' => exact fun a vs H' e' n => h a vs H' (e.trans e') (fresh_back e hp n)
  | exc c ks ds p' => exact PX.later e hp h
  | stuck => exact h
theorem PT1.later {Q : Bool → Hp → Prop} {r : R Bool} (e : Ext pa H H1) (hp : H1 pa ≠ none) (h : PT1 K mg pa Av W σ H Q r) : PT1 K mg pa Av W σ H1 Q r := by
  cases r with
  | ok d p' => exact fun H' e' => h H' (e.trans e')
  | exc c ks ds p' => exact PX.later e hp h
  | stuck => exact h
theorem PA1.later {Q : List V → Hp → Prop} {r : R (List D)} (e : Ext pa H H1) (hp : H1 pa ≠ none) (h : PA1 K mg pa Av W σ H Q r) : PA1 K mg pa Av W σ H1 Q r := by
  cases r with
  | ok d p' => exact fun vs H' e' => h vs H' (e.trans e')
  | exc c ks ds p' => exact PX.later e hp h
  | stuck => exact h
/-- the first part of something, then the rest -/
theorem seqE {α : Type} {f : FE} {k : D → List D → R α} {Q : VK} {Z : Hp → R α → Prop} (r : Rel K mg pa Av σ H ρ p)
    (hx : ∀ c ks ds p', Z H (.exc c ks ds p') → PX K mg pa Av W σ H c ks ds p') (hs : Z H .stuck → False) (h : Z H ((f ρ p).bnd k))
    (go : ∀ d p1 v H1, Ext pa H H1 → DR K mg pa Av H1 v d → Rel K mg pa Av σ H1 ρ p1 → Z H (k d p1) → Q v H1) : TD K mg W f σ H Q := by
  refine ⟨pa, Av, ρ, p, r, ?_⟩
  cases e : f ρ p with
  | ok d p1 =>
    rw [e] at h
    exact fun v H1 e1 hd hk => go d p1 v H1 e1 hd (r.step e1 hk) h
  | exc c ks ds p1 =>
    rw [e] at h
    exact hx _ _ _ _ h
  | stuck =>
    rw [e] at h
    exact hs h
theorem seqT {α : Type} {f : FT} {k : Bool → List D → R α} {Q : Bool → Hp → Prop} {Z : Hp → R α → Prop} (r : Rel K mg pa Av σ H ρ p)
    (hx : ∀ c ks ds p', Z H (.exc c ks ds p') → PX K mg pa Av W σ H c ks ds p') (hs : Z H .stuck → False) (h : Z H ((f ρ p).bnd k))
    (go : ∀ d p1 H1, Ext pa H H1 → Rel K mg pa Av σ H1 ρ p1 → Z H (k d p1) → Q d H1) : TB K mg W f σ H Q := by
  refine ⟨pa, Av, ρ, p, r, ?_⟩
  cases e : f ρ p with
  | ok d p1 =>
    rw [e] at h
    exact fun H1 e1 hk => go d p1 H1 e1 (r.step e1 hk) h
  | exc c ks ds p1 =>
    rw [e] at h
    exact hx _ _ _ _ h
  | stuck =>
    rw [e] at h
    exact hs h
theorem seqA {α : Type} {f : FL} {k : List D → List D → R α} {Q : List V → Hp → Prop} {Z : Hp → R α → Prop} (r : Rel K mg pa Av σ H ρ p)
    (hx : ∀ c ks ds p', Z H (.exc c ks ds p') → PX K mg pa Av W σ H c ks ds p') (hs : Z H .stuck → False) (h : Z H ((f ρ p).bnd k))
    (go : ∀ ds p1 vs H1, Ext pa H H1 → DRs K mg pa Av H1 vs ds → Rel K mg pa Av σ H1 ρ p1 → Z H (k ds p1) → Q vs H1) : TAr K mg W f σ H Q := by
  refine ⟨pa, Av, ρ, p, r, ?_⟩
  cases e : f ρ p with
  | ok d p1 =>
    rw [e] at h
    exact fun vs H1 e1 hd hk => go d p1 vs H1 e1 hd (r.step e1 hk) h
  | exc c ks ds p1 =>
    rw [e] at h
    exact hx _ _ _ _ h
  | stuck =>
    rw [e] at h
    exact hs h
end
end Dn
end

section
set_option Elab.async false
set_option linter.all false
set_option maxRecDepth 100000
set_option maxHeartbeats 4000000
namespace Dn
open PySem PySem.Spec PyProof.Rows L2
section
variable {X : Cx} {W : WX} {pos : Pos}
abbrev DE (X : Cx) (W : WX) (e : Expr) (f : FE) : Prop := PE X e (TD X.K X.mg W f)
abbrev DL (X : Cx) (W : WX) (e : Expr) (f : FL) : Prop := PE X e (TL X.K X.mg W f)
abbrev DT (X : Cx) (W : WX) (e : Expr) (f : FT) : Prop := PT X e (TB X.K X.mg W f)
abbrev DW (X : Cx) (W : WX) (e : Expr) (f : FT) : Prop := PW X e (TB X.K X.mg W f)
abbrev DA (X : Cx) (W : WX) (es : List Expr) (f : FL) : Prop := PA X es (TAr X.K X.mg W f)

/-! ### names, constants -/
def fVar (i : Nat) : FE := fun ρ p => match ρ[i]? with
  | some (.val d) => .ok d p
  | _ => .stuck
def fC (d : D) : FE := fun _ p => .ok d p
theorem de_var (i : Nat) {x : Str} (hN : X.N[i]? = some x := by rfl) (hv : Vis X.env.scope x := by first | exact Or.inl rfl | exact Or.inr (Or.inl rfl) | exact Or.inr (Or.inr rfl)) (hd : (x == ("__debug__" : Str)) = false := by decide)
    (hcd : (x == ("__classdict__" : Str)) = false := by decide) : DE X W (.Name x pos) (fVar i) := (pe_var hN hv hd hcd).imp fun σ H Q h => by
  obtain ⟨pa, Av, ρ, p, r, h⟩ := h
  unfold fVar at h
  split at h
  · next d e =>
    obtain ⟨v, h1, h2⟩ := r.val i d e
    exact ⟨v, h1, h v H (Ext.refl H) h2 r.pen⟩
  · exact h.elim
theorem td_c {K : PySem.W.Frag} {mg : Str → Option Value} {v : V} {d : D} (hd : ∀ pa Av H, DR K mg pa Av H v d) (σ : L2.St) (H : Hp) (Q : VK) (h : TD K mg W (fC d) σ H Q) : tC v σ H Q := by
  obtain ⟨pa, Av, ρ, p, r, h⟩ := h
  exact h v H (Ext.refl H) (hd pa Av H) r.pen
theorem de_int {i : Int} {j} : DE X W (.Constant (.int i) j pos) (fC (.int i)) := L2.PE.imp pe_int (td_c fun _ _ _ => .int i)
theorem de_bl {b : Bool} {j} : DE X W (.Constant (.bool b) j pos) (fC (.bl b)) := L2.PE.imp pe_bl (td_c fun _ _ _ => .bl b)
theorem de_non {j} : DE X W (.Constant .none j pos) (fC .non) := L2.PE.imp pe_non (td_c fun _ _ _ => .non)
theorem de_str {x : Str} {j} : DE X W (.Constant (.str x) j pos) (fC (.str x)) := L2.PE.imp pe_str (td_c fun _ _ _ => .str x)
/-- a constant of the module, by its tree -/
structure GV (K : PySem.W.Frag) (mg : Str → Option Value) (x : Str) (d : D) : Prop where
  ex : ∃ v u, mg x = some u ∧ RelV v u ∧ ∀ pa Av H, DR K mg pa Av H v d
theorem de_glob {x : Str} {d : D} (g : GV X.K X.mg x d) (hg : Gl X x := by rfl) (hd : (x == ("__debug__" : Str)) = false := by decide) : DE X W (.Name x pos) (fC d) := by
  obtain ⟨v, u, h1, h2, h3⟩ := g.ex
  exact (pe_glob hg h1 h2 hd).imp (td_c h3)

/-! ### operators -/
def OpD (K : PySem.W.Frag) (mg : Str → Option Value) (r : R2) (g : D → D → List D → R D) : Prop :=
  ∀ pa Av W σ H p Q v w d e, Base pa Av H → PenOk K mg pa Av H p → DR K mg pa Av H v d → DR K mg pa Av H w e → PE1 K mg pa Av W σ H Q (g d e p) → r v w H Q
def f2 (g : D → D → List D → R D) (fa fb : FE) : FE := fun ρ p => (fa ρ p).bnd fun x p => (fb ρ p).bnd fun y p => g x y p
theorem td_2 {K : PySem.W.Frag} {mg : Str → Option Value} {r : R2} {g : D → D → List D → R D} {fa fb : FE} (hr : OpD K mg r g) (σ : L2.St) (H : Hp) (Q : VK) (h : TD K mg W (f2 g fa fb) σ H Q) : tOp r (TD K mg W fa) (TD K mg W fb) σ H Q := by
  obtain ⟨pa, Av, ρ, p, rl, h⟩ := h
  refine seqE (Z := fun H r => PE1 K mg pa Av W σ H Q r) rl (fun _ _ _ _ h => h) id h fun d p1 v H1 e1 hd r1 h1 => ?_
  have h1' := PE1.later e1 r1.pen.live h1
  refine seqE (Z := fun H r => PE1 K mg pa Av W σ H Q r) r1 (fun _ _ _ _ h => h) id h1' fun e p2 w H2 e2 he r2 h2 => ?_
  exact hr pa Av W σ H2 p2 Q v w d e r2.base r2.pen ((r1.base.mv e2).dr hd) he (PE1.later e2 r2.pen.live h2)
theorem de_op {op : Operator} {r : R2} {g : D → D → List D → R D} {a b : Expr} {fa fb : FE} (ho : OpR X (binaryOp op) r) (hr : OpD X.K X.mg r g) (ha : DE X W a fa) (hb : DE X W b fb) : DE X W (.BinOp a op b pos) (f2 g fa fb) := (pe_op ho ha hb).imp (td_2 hr)
theorem de_cmp {op : CmpOp} {r : R2} {g : D → D → List D → R D} {a b : Expr} {fa fb : FE} (ho : OpR X (compareOp op) r) (hr : OpD X.K X.mg r g) (ha : DE X W a fa) (hb : DE X W b fb) (hm : behindInMarks op b = false) : DE X W (.Compare a [op] [b] pos) (f2 g fa fb) :=
  (pe_cmpR ho ha hb hm).imp (td_2 hr)
/-- a value that is True or False, as a test -/
def fTst (f : FE) : FT := fun ρ p => (f ρ p).bnd fun d p => match d with
  | .bl b => .ok b p
  | _ => .stuck
theorem td_tst {K : PySem.W.Frag} {mg : Str → Option Value} {f : FE} {t : TE} (ht : ∀ σ H Q, TD K mg W f σ H Q → t σ H Q) (σ : L2.St) (H : Hp) (Q : Bool → Hp → Prop) (h : TB K mg W (fTst f) σ H Q) : tTest t σ H Q := by
  obtain ⟨pa, Av, ρ, p, rl, h⟩ := h
  refine ht _ _ _ (seqE (Z := fun H r => PT1 K mg pa Av W σ H Q r) rl (fun _ _ _ _ h => h) id h fun d p1 v H1 e1 hd r1 h1 => ?_)
  cases d <;> first
    | exact h1.elim
    | (cases hd
       exact ⟨_, rfl, h1 H1 e1 r1.pen⟩)
theorem dt_cmp {op : CmpOp} {r : R2} {g : D → D → List D → R D} {a b : Expr} {fa fb : FE} (ho : OpR X (compareOp op) r) (hr : OpD X.K X.mg r g) (ha : DE X W a fa) (hb : DE X W b fb) (hm : behindInMarks op b = false) : DT X W (.Compare a [op] [b] pos) (fTst (f2 g fa fb)) :=
  (pt_cmpR ho ha hb hm).imp (td_tst (td_2 hr))
theorem dt_val {e : Expr} {f : FE} (h : DE X W e f) (he : ∀ whole, isTrue e X.env whole = (do let v ← whole; standAt e.pos; holding [v] (truthy v)) := by intro _; rfl) : DT X W e (fTst f) :=
  (pt_val h he).imp (td_tst fun _ _ _ h => h)
def UnD (K : PySem.W.Frag) (mg : Str → Option Value) (r : V → Hp → VK → Prop) (g : D → List D → R D) : Prop :=
  ∀ pa Av W σ H p Q v d, Base pa Av H → PenOk K mg pa Av H p → DR K mg pa Av H v d → PE1 K mg pa Av W σ H Q (g d p) → r v H Q
def f1 (g : D → List D → R D) (fa : FE) : FE := fun ρ p => (fa ρ p).bnd fun x p => g x p
theorem td_1 {K : PySem.W.Frag} {mg : Str → Option Value} {r : V → Hp → VK → Prop} {g : D → List D → R D} {fa : FE} (hr : UnD K mg r g) (σ : L2.St) (H : Hp) (Q : VK) (h : TD K mg W (f1 g fa) σ H Q) : tUn r (TD K mg W fa) σ H Q := by
  obtain ⟨pa, Av, ρ, p, rl, h⟩ := h
  refine seqE (Z := fun H r => PE1 K mg pa Av W σ H Q r) rl (fun _ _ _ _ h => h) id h fun d p1 v H1 e1 hd r1 h1 => ?_
  exact hr pa Av W σ H1 p1 Q v d r1.base r1.pen hd (PE1.later e1 r1.pen.live h1)
theorem de_un {op : UnaryOp} {r : V → Hp → VK → Prop} {g : D → List D → R D} {a : Expr} {fa : FE} (ho : UnR X (unaryOp op) r) (hr : UnD X.K X.mg r g) (ha : DE X W a fa) : DE X W (.UnaryOp op a pos) (f1 g fa) := (pe_un ho ha).imp (td_1 hr)

/-! ### and, or, not, if -/
def fAndB (f g : FT) : FT := fun ρ p => (f ρ p).bnd fun b p => if b then g ρ p else .ok false p
def fOrB (f g : FT) : FT := fun ρ p => (f ρ p).bnd fun b p => if b then .ok true p else g ρ p
def fNotB (f : FT) : FT := fun ρ p => (f ρ p).bnd fun b p => .ok (!b) p
def fBool (f : FT) : FE := fun ρ p => (f ρ p).bnd fun b p => .ok (.bl b) p
def fIf (c : FT) (f g : FE) : FE := fun ρ p => (c ρ p).bnd fun b p => if b then f ρ p else g ρ p
theorem dw_and1 {a : Expr} {f : FT} (h : DT X W a f) : DW X W (.BoolOp .And [a] pos) f := pw_and1 h
theorem dw_or1 {a : Expr} {f : FT} (h : DT X W a f) : DW X W (.BoolOp .Or [a] pos) f := pw_or1 h
theorem dw_and {a b : Expr} {rest : List Expr} {f g : FT} (ha : DT X W a f) (hb : DW X W (.BoolOp .And (b :: rest) pos) g) : DW X W (.BoolOp .And (a :: b :: rest) pos) (fAndB f g) := (pw_and ha hb).imp fun σ H Q h => by
  obtain ⟨pa, Av, ρ, p, rl, h⟩ := h
  refine seqT (Z := fun H r => PT1 X.K X.mg pa Av W σ H Q r) rl (fun _ _ _ _ h => h) id h fun d p1 H1 e1 r1 h1 => ?_
  cases d with
  | true => exact ⟨pa, Av, ρ, p1, r1, PT1.later e1 r1.pen.live h1⟩
  | false => exact h1 H1 e1 r1.pen
theorem dw_or {a b : Expr} {rest : List Expr} {f g : FT} (ha : DT X W a f) (hb : DW X W (.BoolOp .Or (b :: rest) pos) g) : DW X W (.BoolOp .Or (a :: b :: rest) pos) (fOrB f g) := (pw_or ha hb).imp fun σ H Q h => by
  obtain ⟨pa, Av, ρ, p, rl, h⟩ := h
  refine seqT (Z := fun H r => PT1 X.K X.mg pa Av W σ H Q r) rl (fun _ _ _ _ h => h) id h fun d p1 H1 e1 r1 h1 => ?_
  cases d with
  | false => exact ⟨pa, Av, ρ, p1, r1, PT1.later e1 r1.pen.live h1⟩
  | true => exact h1 H1 e1 r1.pen
theorem dt_w {e : Expr} {f : FT} (h : DW X W e f) : DT X W e f := h.pt
theorem dt_not {a : Expr} {f : FT} (ha : DT X W a f) : DT X W (.UnaryOp .Not a pos) (fNotB f) := (pt_not ha).imp fun σ H Q h => by
  obtain ⟨pa, Av, ρ, p, rl, h⟩ := h
  exact seqT (Z := fun H r => PT1 X.K X.mg pa Av W σ H Q r) rl (fun _ _ _ _ h => h) id h fun d p1 H1 e1 r1 h1 => h1 H1 e1 r1.pen
/-- as values: all but the last True or False -/
def fAnd (f g : FE) : FE := fun ρ p => (fTst f ρ p).bnd fun b p => if b then g ρ p else .ok (.bl false) p
def fOr (f g : FE) : FE := fun ρ p => (fTst f ρ p).bnd fun b p => if b then .ok (.bl true) p else g ρ p
def fNot (f : FE) : FE := fun ρ p => (fTst f ρ p).bnd fun b p => .ok (.bl (!b)) p
theorem seqB {K : PySem.W.Frag} {mg : Str → Option Value} {pa : Addr} {Av : List Addr} {σ : L2.St} {H : Hp} {ρ : List Sl} {p : List D} {α : Type} {f : FE} {k : Bool → List D → R α} {Q : VK} {Z : Hp → R α → Prop} (r : Rel K mg pa Av σ H ρ p)
    (hx : ∀ c ks ds p', Z H (.exc c ks ds p') → PX K mg pa Av W σ H c ks ds p') (hs : Z H .stuck → False) (h : Z H ((fTst f ρ p).bnd k))
    (go : ∀ b p1 H1, Ext pa H H1 → Rel K mg pa Av σ H1 ρ p1 → Z H (k b p1) → Q (.bl b) H1) : TD K mg W f σ H Q := by
  refine ⟨pa, Av, ρ, p, r, ?_⟩
  unfold fTst at h
  cases e : f ρ p with
  | ok d p1 =>
    rw [e] at h
    intro v H1 e1 hd hk
    cases d <;> first
      | exact (hs h).elim
      | (cases hd
         exact go _ p1 H1 e1 (r.step e1 hk) h)
  | exc c ks ds p1 =>
    rw [e] at h
    exact hx _ _ _ _ h
  | stuck =>
    rw [e] at h
    exact hs h
theorem de_one {op : BoolOp} {a : Expr} {f : FE} (h : DE X W a f) : DE X W (.BoolOp op [a] pos) f := pe_one h
theorem de_and {a b : Expr} {rest : List Expr} {f g : FE} (ha : DE X W a f) (hb : DE X W (.BoolOp .And (b :: rest) pos) g) : DE X W (.BoolOp .And (a :: b :: rest) pos) (fAnd f g) := (pe_and ha hb).imp fun σ H Q h => by
  obtain ⟨pa, Av, ρ, p, rl, h⟩ := h
  refine seqB (Z := fun H r => PE1 X.K X.mg pa Av W σ H Q r) rl (fun _ _ _ _ h => h) id h fun d p1 H1 e1 r1 h1 => ⟨d, rfl, ?_⟩
  cases d with
  | true => exact ⟨pa, Av, ρ, p1, r1, PE1.later e1 r1.pen.live h1⟩
  | false => exact h1 _ H1 e1 (.bl false) r1.pen
theorem de_or {a b : Expr} {rest : List Expr} {f g : FE} (ha : DE X W a f) (hb : DE X W (.BoolOp .Or (b :: rest) pos) g) : DE X W (.BoolOp .Or (a :: b :: rest) pos) (fOr f g) := (pe_or ha hb).imp fun σ H Q h => by
  obtain ⟨pa, Av, ρ, p, rl, h⟩ := h
  refine seqB (Z := fun H r => PE1 X.K X.mg pa Av W σ H Q r) rl (fun _ _ _ _ h => h) id h fun d p1 H1 e1 r1 h1 => ⟨d, rfl, ?_⟩
  cases d with
  | false => exact ⟨pa, Av, ρ, p1, r1, PE1.later e1 r1.pen.live h1⟩
  | true => exact h1 _ H1 e1 (.bl true) r1.pen
theorem de_not {a : Expr} {f : FE} (ha : DE X W a f) : DE X W (.UnaryOp .Not a pos) (fNot f) := (pe_not ha).imp fun σ H Q h => by
  obtain ⟨pa, Av, ρ, p, rl, h⟩ := h
  exact seqB (Z := fun H r => PE1 X.K X.mg pa Av W σ H Q r) rl (fun _ _ _ _ h => h) id h fun d p1 H1 e1 r1 h1 => ⟨d, rfl, h1 _ H1 e1 (.bl _) r1.pen⟩
theorem de_if {c a b : Expr} {fc : FT} {f g : FE} (hc : DT X W c fc) (ha : DE X W a f) (hb : DE X W b g) : DE X W (.IfExp c a b pos) (fIf fc f g) := (pe_ifExp hc ha hb).imp fun σ H Q h => by
  obtain ⟨pa, Av, ρ, p, rl, h⟩ := h
  refine seqT (Z := fun H r => PE1 X.K X.mg pa Av W σ H Q r) rl (fun _ _ _ _ h => h) id h fun d p1 H1 e1 r1 h1 => ?_
  have h1' := PE1.later e1 r1.pen.live h1
  cases d with
  | true => exact ⟨pa, Av, ρ, p1, r1, h1'⟩
  | false => exact ⟨pa, Av, ρ, p1, r1, h1'⟩

/-! ### argument lists, displays -/
def fNil : FL := fun _ p => .ok [] p
def fCons (f : FE) (g : FL) : FL := fun ρ p => (f ρ p).bnd fun d p => (g ρ p).bnd fun ds p => .ok (d :: ds) p
/-- *e, .. -/
def items : D → Option (List D)
  | .lst ds => some ds
  | .tup ds => some ds
  | _ => none
def fStar (f : FE) (g : FL) : FL := fun ρ p => (f ρ p).bnd fun d p => match items d with
  | some xs => (g ρ p).bnd fun ds p => .ok (xs ++ ds) p
  | none => .stuck
theorem da_nil : DA X W [] fNil := L2.PA.imp pa_nil fun σ H Q h => by
  obtain ⟨pa, Av, ρ, p, rl, h⟩ := h
  exact h [] H (Ext.refl H) .nil rl.pen
theorem da_cons {e : Expr} {es : List Expr} {f : FE} {g : FL} (ha : DE X W e f) (hr : DA X W es g) (hs : starEach (e :: es) X.env = (false, eval e X.env) :: starEach es X.env := by rfl) : DA X W (e :: es) (fCons f g) := (pa_cons ha hr hs).imp fun σ H Q h => by
  obtain ⟨pa, Av, ρ, p, rl, h⟩ := h
  refine seqE (Z := fun H r => PA1 X.K X.mg pa Av W σ H Q r) rl (fun _ _ _ _ h => h) id h fun d p1 v H1 e1 hd r1 h1 => ?_
  have h1' := PA1.later e1 r1.pen.live h1
  refine seqA (Z := fun H r => PA1 X.K X.mg pa Av W σ H Q r) r1 (fun _ _ _ _ h => h) id h1' fun ds p2 vs H2 e2 hds r2 h2 => ?_
  exact h2 _ H2 e2 (.cons ((r1.base.mv e2).dr hd) hds) r2.pen
theorem DR.its {K : PySem.W.Frag} {mg : Str → Option Value} {pa : Addr} {Av : List Addr} {H : Hp} {v : V} {d : D} {ds : List D} (h : DR K mg pa Av H v d) (e : items d = some ds) : ∃ a xs, v = .ref a ∧ (SqT K H a xs ∨ SqL K H a xs) ∧ DRs K mg pa Av H xs ds := by
  cases h with
  | lst s n q => cases e; exact ⟨_, _, rfl, .inr (.of s), q⟩
  | tup s q => cases e; exact ⟨_, _, rfl, .inl s.sq, q⟩
  | _ => cases e
end
end Dn
end

section
set_option Elab.async false
set_option linter.all false
set_option maxRecDepth 100000
set_option maxHeartbeats 4000000
namespace Dn
open PySem PySem.Spec PyProof.Rows L2
theorem line24 : sizeLine = 16777216 := rfl
section
variable {X : Cx} {W : WX} {pos : Pos}
theorem da_star {e : Expr} {es : List Expr} {sp : Pos} {f : FE} {g : FL} (ha : DE X W e f) (hr : DA X W es g) (hs : starEach (.Starred e sp :: es) X.env = (true, eval e X.env) :: starEach es X.env := by rfl) : DA X W (.Starred e sp :: es) (fStar f g) := (StX.pa_star ha hr hs).imp fun σ H Q h => by
  obtain ⟨pa, Av, ρ, p, rl, h⟩ := h
  refine seqE (Z := fun H r => PA1 X.K X.mg pa Av W σ H Q r) rl (fun _ _ _ _ h => h) id h fun d p1 v H1 e1 hd r1 h1 => ?_
  have h1' := PA1.later e1 r1.pen.live h1
  cases q : items d with
  | none =>
    rw [q] at h1
    exact h1.elim
  | some xs =>
    obtain ⟨a, vs, rfl, hq, hxs⟩ := hd.its q
    refine ⟨a, vs, rfl, hq, ?_⟩
    rw [q] at h1'
    refine seqA (Z := fun H r => PA1 X.K X.mg pa Av W σ H Q r) r1 (fun _ _ _ _ h => h) id h1' fun ds p2 ws H2 e2 hds r2 h2 => ?_
    exact h2 _ H2 e2 (((r1.base.mv e2).drs hxs).app hds) r2.pen

/-! ### displays, new lists -/
def fTup (f : FL) : FE := fun ρ p => (f ρ p).bnd fun ds p => if ds.length ≤ 16777216 then .ok (.tup ds) p else .stuck
def fLst (f : FL) : FL := fun ρ p => (f ρ p).bnd fun ds p => if ds.length ≤ 16777216 then .ok ds p else .stuck
def fL (f : FL) : FE := fun ρ p => (f ρ p).bnd fun ds p => .ok (.lst ds) p
section
variable {K : PySem.W.Frag} {mg : Str → Option Value} {pa : Addr} {Av : List Addr} {σ : L2.St} {H H1 : Hp} {p : List D} {Q : VK}
theorem pen_up {a : Addr} {o : HO} (b : Base pa Av H) (k : PenOk K mg pa Av H p) (h : H a = none) : PenOk K mg pa (a :: Av) (upd H a o) p := by
  obtain ⟨vs, h1, q⟩ := k.at'
  refine ⟨⟨vs, (upd_ne (show pa ≠ a from fun z => k.live (z ▸ h))).trans h1, ?_⟩, tabs_new k.tabs h⟩
  refine Mv.drs (H := H) (Av := Av) ⟨fun c u n e _ => ?_, fun c hc => ?_⟩ q
  · rw [upd_ne (ne_of_none e h)]; exact e
  · rcases List.mem_cons.mp hc with z | z
    · exact .inr (z ▸ h)
    · exact .inl z
theorem drs_up {a : Addr} {o : HO} (h : H a = none) {vs : List V} {ds : List D} (q : DRs K mg pa Av H vs ds) : DRs K mg pa (a :: Av) (upd H a o) vs ds :=
  Mv.drs (H := H) (Av := Av) ⟨fun c u n e _ => by rw [upd_ne (ne_of_none e h)]; exact e, fun c hc => (List.mem_cons.mp hc).elim (fun z => .inr (z ▸ h)) .inl⟩ q
theorem drs_new {a : Addr} {o : HO} (h : H a = none) {vs : List V} {ds : List D} (q : DRs K mg pa Av H vs ds) : DRs K mg pa Av (upd H a o) vs ds :=
  Mv.drs (H := H) (Av := Av) ⟨fun c u n e _ => by rw [upd_ne (ne_of_none e h)]; exact e, fun c hc => .inl hc⟩ q
theorem dr_new {a : Addr} {o : HO} (h : H a = none) {v : V} {d : D} (q : DR K mg pa Av H v d) : DR K mg pa Av (upd H a o) v d :=
  Mv.dr (H := H) (Av := Av) ⟨fun c u n e _ => by rw [upd_ne (ne_of_none e h)]; exact e, fun c hc => .inl hc⟩ q
/-- less avoided -/
theorem drs_less {a : Addr} {vs : List V} {ds : List D} (q : DRs K mg pa (a :: Av) H vs ds) : DRs K mg pa Av H vs ds :=
  Mv.drs (H := H) (Av := a :: Av) ⟨fun c u n e _ => e, fun c hc => .inl (List.mem_cons_of_mem _ hc)⟩ q
theorem pen_less {a : Addr} (q : PenOk K mg pa (a :: Av) H p) : PenOk K mg pa Av H p := by
  obtain ⟨vs, h, r⟩ := q.at'
  exact ⟨⟨vs, h, drs_less r⟩, q.tabs⟩
/-- a new tuple, a new list as the answer -/
theorem ans_tup {ds : List D} {vs : List V} (b : Base pa Av H) (k : PenOk K mg pa Av H p) (q : DRs K mg pa Av H vs ds) (h : PE1 K mg pa Av W σ H Q (.ok (.tup ds) p)) : ∀ a, H a = none → Q (.ref a) (upd H a (.tup vs)) := fun a ha =>
  h _ _ (Ext.new ha) (.tup (.of upd_same (b.fresh ha)) (drs_new ha q)) (k.new b ha)
theorem ans_lst {ds : List D} {vs : List V} (b : Base pa Av H) (k : PenOk K mg pa Av H p) (q : DRs K mg pa Av H vs ds) (h : PL1 K mg pa Av W σ H Q (.ok ds p)) : ∀ a, H a = none → Q (.ref a) (upd H a (.lst vs)) := fun a ha =>
  h a vs _ (Ext.new ha) ha upd_same (drs_up ha q) (pen_up b k ha)
theorem pl_of_pe {r : R (List D)} (b : Base pa Av H) (h : PE1 K mg pa Av W σ H Q (r.bnd fun ds p => .ok (.lst ds) p)) : PL1 K mg pa Av W σ H Q r := by
  cases r with
  | ok ds p1 => exact fun a vs H' e n ha hq hk => h _ H' e (.lst ha (b.fresh n) (drs_less hq)) (pen_less hk)
  | exc c ks ds p1 => exact h
  | stuck => exact h
end
theorem de_tup {es : List Expr} {x1} {f : FL} (ha : DA X W es f) : DE X W (.Tuple es x1 pos) (fTup f) := (pe_tup ha).imp fun σ H Q h => by
  obtain ⟨pa, Av, ρ, p, rl, h⟩ := h
  refine seqA (Z := fun H r => PE1 X.K X.mg pa Av W σ H Q r) rl (fun _ _ _ _ h => h) id h fun ds p1 vs H1 e1 hd r1 h1 => ?_
  by_cases q : ds.length ≤ 16777216
  · rw [if_pos q] at h1
    exact ⟨by rw [hd.length, line24]; exact q, ans_tup r1.base r1.pen hd (PE1.later e1 r1.pen.live h1)⟩
  · rw [if_neg q] at h1
    exact h1.elim
theorem dl_lst {es : List Expr} {f : FL} (ha : DA X W es f) : DL X W (.List es pos) (fLst f) := (pe_lst ha).imp fun σ H Q h => by
  obtain ⟨pa, Av, ρ, p, rl, h⟩ := h
  refine seqA (Z := fun H r => PL1 X.K X.mg pa Av W σ H Q r) rl (fun _ _ _ _ h => h) id h fun ds p1 vs H1 e1 hd r1 h1 => ?_
  by_cases q : ds.length ≤ 16777216
  · rw [if_pos q] at h1
    exact ⟨by rw [hd.length, line24]; exact q, ans_lst r1.base r1.pen hd (PL1.later e1 r1.pen.live h1)⟩
  · rw [if_neg q] at h1
    exact h1.elim
theorem de_l {e : Expr} {f : FL} (h : DL X W e f) : DE X W e (fL f) := L2.PE.imp h fun σ H Q h => by
  obtain ⟨pa, Av, ρ, p, rl, h⟩ := h
  exact ⟨pa, Av, ρ, p, rl, pl_of_pe rl.base h⟩

/-! ### calls by values -/
def CallD (K : PySem.W.Frag) (mg : Str → Option Value) (r : List V → Hp → VK → Prop) (g : List D → List D → R D) : Prop :=
  ∀ pa Av W σ H p Q vs ds, Base pa Av H → PenOk K mg pa Av H p → DRs K mg pa Av H vs ds → PE1 K mg pa Av W σ H Q (g ds p) → r vs H Q
def CallDL (K : PySem.W.Frag) (mg : Str → Option Value) (r : List V → Hp → VK → Prop) (g : List D → List D → R (List D)) : Prop :=
  ∀ pa Av W σ H p Q vs ds, Base pa Av H → PenOk K mg pa Av H p → DRs K mg pa Av H vs ds → PL1 K mg pa Av W σ H Q (g ds p) → r vs H Q
def fCall (g : List D → List D → R D) (f : FL) : FE := fun ρ p => (f ρ p).bnd g
def fCallL (g : List D → List D → R (List D)) (f : FL) : FL := fun ρ p => (f ρ p).bnd g
theorem td_call {r : List V → Hp → VK → Prop} {g : List D → List D → R D} {f : FL} {K : PySem.W.Frag} {mg : Str → Option Value} (hr : CallD K mg r g) (σ : L2.St) (H : Hp) (Q : VK) (h : TD K mg W (fCall g f) σ H Q) : tCB r (TAr K mg W f) σ H Q := by
  obtain ⟨pa, Av, ρ, p, rl, h⟩ := h
  refine seqA (Z := fun H r => PE1 K mg pa Av W σ H Q r) rl (fun _ _ _ _ h => h) id h fun ds p1 vs H1 e1 hd r1 h1 => ?_
  exact hr pa Av W σ H1 p1 Q vs ds r1.base r1.pen hd (PE1.later e1 r1.pen.live h1)
theorem tl_call {r : List V → Hp → VK → Prop} {g : List D → List D → R (List D)} {f : FL} {K : PySem.W.Frag} {mg : Str → Option Value} (hr : CallDL K mg r g) (σ : L2.St) (H : Hp) (Q : VK) (h : TL K mg W (fCallL g f) σ H Q) : tCB r (TAr K mg W f) σ H Q := by
  obtain ⟨pa, Av, ρ, p, rl, h⟩ := h
  refine seqA (Z := fun H r => PL1 K mg pa Av W σ H Q r) rl (fun _ _ _ _ h => h) id h fun ds p1 vs H1 e1 hd r1 h1 => ?_
  exact hr pa Av W σ H1 p1 Q vs ds r1.base r1.pen hd (PL1.later e1 r1.pen.live h1)
theorem de_callB {x : Str} {p : Pos} {e : Expr} {es : List Expr} {id : String} {r : List V → Hp → VK → Prop} {g : List D → List D → R D} {f : FL} (hc : CallR X (.builtin id) r) (hr : CallD X.K X.mg r g) (hm : X.mg x = none) (ha : DA X W (e :: es) f) (hg : Gl X x := by rfl)
    (hv : bootBuiltins x = some (.builtin id) := by decide +kernel) (hn : x ≠ "__name__" := by decide) (hdb : (x == ("__debug__" : Str)) = false := by decide)
    (he : starEach (e :: es) X.env = (false, eval e X.env) :: starEach es X.env := by rfl) (hpl : (backTo pos (starEach es X.env)).any (·.1) = false := by rfl) : DE X W (.Call (.Name x p) (e :: es) [] pos) (fCall g f) := (pe_callB hc hg hm hv ha hn hdb he hpl).imp (td_call hr)
theorem de_callT {x : Str} {p : Pos} {e : Expr} {es : List Expr} {T : String} {r : List V → Hp → VK → Prop} {g : List D → List D → R D} {f : FL} (hc : CallR X (.type T) r) (hr : CallD X.K X.mg r g) (hm : X.mg x = none) (ha : DA X W (e :: es) f) (hg : Gl X x := by rfl)
    (hv : bootBuiltins x = some (.type T) := by decide +kernel) (hn : x ≠ "__name__" := by decide) (hdb : (x == ("__debug__" : Str)) = false := by decide)
    (he : starEach (e :: es) X.env = (false, eval e X.env) :: starEach es X.env := by rfl) (hpl : (backTo pos (starEach es X.env)).any (·.1) = false := by rfl) : DE X W (.Call (.Name x p) (e :: es) [] pos) (fCall g f) := (pe_callTy hc hg hm hv ha hn hdb he hpl).imp (td_call hr)
theorem dl_callB {x : Str} {p : Pos} {e : Expr} {es : List Expr} {id : String} {r : List V → Hp → VK → Prop} {g : List D → List D → R (List D)} {f : FL} (hc : CallR X (.builtin id) r) (hr : CallDL X.K X.mg r g) (hm : X.mg x = none) (ha : DA X W (e :: es) f) (hg : Gl X x := by rfl)
    (hv : bootBuiltins x = some (.builtin id) := by decide +kernel) (hn : x ≠ "__name__" := by decide) (hdb : (x == ("__debug__" : Str)) = false := by decide)
    (he : starEach (e :: es) X.env = (false, eval e X.env) :: starEach es X.env := by rfl) (hpl : (backTo pos (starEach es X.env)).any (·.1) = false := by rfl) : DL X W (.Call (.Name x p) (e :: es) [] pos) (fCallL g f) := (pe_callB hc hg hm hv ha hn hdb he hpl).imp (tl_call hr)
theorem dl_callT {x : Str} {p : Pos} {e : Expr} {es : List Expr} {T : String} {r : List V → Hp → VK → Prop} {g : List D → List D → R (List D)} {f : FL} (hc : CallR X (.type T) r) (hr : CallDL X.K X.mg r g) (hm : X.mg x = none) (ha : DA X W (e :: es) f) (hg : Gl X x := by rfl)
    (hv : bootBuiltins x = some (.type T) := by decide +kernel) (hn : x ≠ "__name__" := by decide) (hdb : (x == ("__debug__" : Str)) = false := by decide)
    (he : starEach (e :: es) X.env = (false, eval e X.env) :: starEach es X.env := by rfl) (hpl : (backTo pos (starEach es X.env)).any (·.1) = false := by rfl) : DL X W (.Call (.Name x p) (e :: es) [] pos) (fCallL g f) := (pe_callTy hc hg hm hv ha hn hdb he hpl).imp (tl_call hr)
end

section
variable {K : PySem.W.Frag} {mg : Str → Option Value} {pa : Addr} {Av : List Addr} {H : Hp} {p : List D} {v : V} {vs : List V} {d : D} {ds : List D}
theorem drs1 (h : DRs K mg pa Av H vs [d]) : ∃ v, vs = [v] ∧ DR K mg pa Av H v d := by
  cases h with
  | cons h q => cases q; exact ⟨_, rfl, h⟩
theorem drs2 {e : D} (h : DRs K mg pa Av H vs [d, e]) : ∃ v w, vs = [v, w] ∧ DR K mg pa Av H v d ∧ DR K mg pa Av H w e := by
  cases h with
  | cons h q =>
    obtain ⟨w, rfl, h2⟩ := drs1 q
    exact ⟨_, _, rfl, h, h2⟩
/-- data of one kind -/
theorem DRs.ints : ∀ {ns : List Int} {vs : List V}, DRs K mg pa Av H vs (ns.map D.int) → vs = ns.map V.int
  | [], _, .nil => rfl
  | n :: ns, _, .cons h q => by cases h; rw [DRs.ints q]; rfl
theorem DRs.ofInts : ∀ (ns : List Int), DRs K mg pa Av H (ns.map V.int) (ns.map D.int)
  | [] => .nil
  | n :: ns => .cons (.int n) (DRs.ofInts ns)
theorem DRs.strs : ∀ {ns : List Str} {vs : List V}, DRs K mg pa Av H vs (ns.map D.str) → vs = ns.map V.str
  | [], _, .nil => rfl
  | n :: ns, _, .cons h q => by cases h; rw [DRs.strs q]; rfl
theorem DRs.ofStrs : ∀ (ns : List Str), DRs K mg pa Av H (ns.map V.str) (ns.map D.str)
  | [] => .nil
  | n :: ns => .cons (.str n) (DRs.ofStrs ns)
theorem DRs.bls : ∀ {ns : List Bool} {vs : List V}, DRs K mg pa Av H vs (ns.map D.bl) → vs = ns.map V.bl
  | [], _, .nil => rfl
  | n :: ns, _, .cons h q => by cases h; rw [DRs.bls q]; rfl
/-- .. asked of the list -/
def D.int? : D → Option Int
  | .int i => some i
  | _ => none
def D.str? : D → Option Str
  | .str i => some i
  | _ => none
def D.bl? : D → Option Bool
  | .bl i => some i
  | _ => none
def allOf {α : Type} (f : D → Option α) : List D → Option (List α)
  | [] => some []
  | d :: ds => match f d, allOf f ds with
    | some a, some as => some (a :: as)
    | _, _ => none
theorem allOf_map {α : Type} {f : D → Option α} {g : α → D} (h : ∀ d a, f d = some a → d = g a) : ∀ {ds : List D} {as : List α}, allOf f ds = some as → ds = as.map g
  | [], as, e => by cases e; rfl
  | d :: ds, as, e => by
    unfold allOf at e
    split at e
    · next a as' h1 h2 =>
      cases e
      rw [h d a h1, allOf_map h h2]
      rfl
    · cases e
theorem allOf_of {α : Type} {f : D → Option α} {g : α → D} (h : ∀ a, f (g a) = some a) : ∀ as : List α, allOf f (as.map g) = some as
  | [] => rfl
  | a :: as => by
    show (match f (g a), allOf f (as.map g) with | some a, some as => some (a :: as) | _, _ => none) = _
    rw [h, allOf_of h as]
theorem allInt {ds : List D} {as : List Int} (e : allOf D.int? ds = some as) : ds = as.map D.int := allOf_map (fun d a h => by cases d <;> cases h; rfl) e
theorem allStr {ds : List D} {as : List Str} (e : allOf D.str? ds = some as) : ds = as.map D.str := allOf_map (fun d a h => by cases d <;> cases h; rfl) e
theorem allBl {ds : List D} {as : List Bool} (e : allOf D.bl? ds = some as) : ds = as.map D.bl := allOf_map (fun d a h => by cases d <;> cases h; rfl) e
@[simp] theorem allInt_of (as : List Int) : allOf D.int? (as.map D.int) = some as := allOf_of (g := D.int) (fun _ => rfl) as
@[simp] theorem allStr_of (as : List Str) : allOf D.str? (as.map D.str) = some as := allOf_of (g := D.str) (fun _ => rfl) as
@[simp] theorem allBl_of (as : List Bool) : allOf D.bl? (as.map D.bl) = some as := allOf_of (g := D.bl) (fun _ => rfl) as
end

/-! ### the operators -/
def gAdd : D → D → List D → R D
  | .int i, .int j, p => .ok (.int (i + j)) p
  | .str x, .str y, p => if x.length + y.length ≤ 16777216 then .ok (.str (x ++ y)) p else .stuck
  | .lst x, .lst y, p => if x.length + y.length ≤ 16777216 then .ok (.lst (x ++ y)) p else .stuck
  | .tup x, .tup y, p => if x.length + y.length ≤ 16777216 then .ok (.tup (x ++ y)) p else .stuck
  | _, _, _ => .stuck
def gSub : D → D → List D → R D
  | .int i, .int j, p => .ok (.int (i - j)) p
  | _, _, _ => .stuck
def gMul : D → D → List D → R D
  | .int i, .int j, p => if i.natAbs.log2 + j.natAbs.log2 < 100000000 then .ok (.int (i * j)) p else .stuck
  | .lst x, .int j, p => if -(2 ^ 63) ≤ j ∧ j < 2 ^ 63 ∧ x.length * j.toNat ≤ 16777216 then .ok (.lst (List.replicate j.toNat x).flatten) p else .stuck
  | .tup x, .int j, p => if x ≠ [] ∧ 2 ≤ j ∧ j ≤ 1000 ∧ x.length ≤ 1000 then .ok (.tup (List.replicate j.toNat x).flatten) p else .stuck
  | _, _, _ => .stuck
def gMod : D → D → List D → R D
  | .int i, .int j, p => if j ≠ 0 then .ok (.int (i.fmod j)) p else .stuck
  | _, _, _ => .stuck
def gDiv : D → D → List D → R D
  | .int i, .int j, p => if 0 < j ∧ j.natAbs.log2 < 9000 then .ok (.int (i / j)) p else if j ≠ 0 ∧ j.natAbs < 1073741824 then .ok (.int (i.fdiv j)) p else .stuck
  | _, _, _ => .stuck
def gPow : D → D → List D → R D
  | .int i, .int j, p => if 0 ≤ j ∧ j ≤ 1000000 ∧ i.natAbs < 2 ^ 64 then .ok (.int (i ^ j.toNat)) p else .stuck
  | _, _, _ => .stuck
def gNeg : D → List D → R D
  | .int i, p => .ok (.int (-i)) p
  | _, _ => .stuck
section
variable {K : PySem.W.Frag} {mg : Str → Option Value}
def rAddA (K : PySem.W.Frag) : R2 := fun x y H Q => rI0 (fun i j => .int (i + j)) x y H Q ∨ (∃ i j, x = .str i ∧ y = .str j ∧ i.length + j.length ≤ sizeLine ∧ Q (.str (i ++ j)) H) ∨ rCat x y H Q ∨ rCatA K x y H Q
theorem op_addA {X : Cx} : OpR X (binaryOp .Add) (rAddA X.K) := op_add.or (op_add_str.or (op_cat.or op_catA))
theorem D.ite_ok {α : Type} {c : Prop} [Decidable c] {r : R α} {Z : R α → Prop} (hs : Z .stuck → False) (h : Z (if c then r else .stuck)) : c ∧ Z r := by
  by_cases q : c
  · rw [if_pos q] at h
    exact ⟨q, h⟩
  · rw [if_neg q] at h
    exact (hs h).elim
theorem add_d : OpD K mg (rAddA K) gAdd := by
  intro pa Av W σ H p Q v w d e b k hd he h
  unfold gAdd at h
  split at h
  · cases hd; cases he
    exact .inl ⟨_, _, rfl, rfl, h _ H (Ext.refl H) (.int _) k⟩
  · cases hd; cases he
    obtain ⟨q, h⟩ := D.ite_ok (Z := PE1 K mg pa Av W σ H Q) id h
    exact .inr (.inl ⟨_, _, rfl, rfl, by rw [line24]; exact q, h _ H (Ext.refl H) (.str _) k⟩)
  · cases hd with
    | lst h1 n1 q1 =>
      cases he with
      | lst h2 n2 q2 =>
        obtain ⟨q, h⟩ := D.ite_ok (Z := PE1 K mg pa Av W σ H Q) id h
        refine .inr (.inr (.inl ⟨_, _, _, _, rfl, rfl, h1, h2, by rw [q1.length, q2.length, line24]; exact q, fun a ha => ?_⟩))
        exact h _ _ (Ext.new ha) (.lst upd_same (b.fresh ha) (drs_new ha (q1.app q2))) (k.new b ha)
  · cases hd with
    | tup h1 q1 =>
      cases he with
      | tup h2 q2 =>
        obtain ⟨q, h⟩ := D.ite_ok (Z := PE1 K mg pa Av W σ H Q) id h
        refine .inr (.inr (.inr ⟨_, _, _, _, rfl, rfl, h1.sq, h2.sq, by rw [q1.length, q2.length, line24]; exact q, fun z => ?_, fun _ z => ?_, fun _ _ a ha => ?_⟩))
        · subst z
          cases q1
          exact h _ H (Ext.refl H) (.tup h2 q2) k
        · subst z
          cases q2
          rw [List.append_nil] at h
          exact h _ H (Ext.refl H) (.tup h1 q1) k
        · exact h _ _ (Ext.new ha) (.tup (.of upd_same (b.fresh ha)) (drs_new ha (q1.app q2))) (k.new b ha)
  · exact h.elim
theorem sub_d : OpD K mg (rI0 fun i j => .int (i - j)) gSub := by
  intro pa Av W σ H p Q v w d e b k hd he h
  unfold gSub at h
  split at h
  · cases hd; cases he
    exact ⟨_, _, rfl, rfl, h _ H (Ext.refl H) (.int _) k⟩
  · exact h.elim
/-- * of two factors of together less than a hundred million bits -/
def CMulX (i j : Int) : Prop := i.natAbs.log2 + j.natAbs.log2 < 100000000
theorem CMulX.fits {i j : Int} (h : CMulX i j) : IntMulOk i j := by
  have bits : ∀ x : Int, Builtin.Int.intBits x ≤ x.natAbs.log2 + 1 := fun x => by
    unfold Builtin.Int.intBits
    split <;> omega
  have q1 := bits i
  have q2 := bits j
  have q3 : i.natAbs.log2 + j.natAbs.log2 < 100000000 := h
  have line : bitsLine = 134217728 := by decide
  unfold IntMulOk
  intro both
  rw [Bool.and_eq_true] at both
  have big := both.2
  unfold Builtin.Int.intTooBig at big
  have big := of_decide_eq_true big
  rw [line] at big
  omega
theorem op_mulX {X : Cx} : OpR X (binaryOp .Mult) (rI CMulX fun i j => .int (i * j)) := opI fun _ _ _ _ _ _ _ hc q => mul_int q hc.fits
def rMulA (K : PySem.W.Frag) : R2 := fun x y H Q => rI CMulX (fun i j => .int (i * j)) x y H Q ∨ rRep x y H Q ∨ rRepT K x y H Q
theorem op_mulA {X : Cx} : OpR X (binaryOp .Mult) (rMulA X.K) := op_mulX.or (op_rep.or op_repT)
theorem drs_rep {pa : Addr} {Av : List Addr} {H : Hp} {vs : List V} {ds : List D} (q : DRs K mg pa Av H vs ds) : ∀ n, DRs K mg pa Av H (List.replicate n vs).flatten (List.replicate n ds).flatten
  | 0 => .nil
  | n + 1 => by
    rw [List.replicate_succ, List.replicate_succ, List.flatten_cons, List.flatten_cons]
    exact q.app (drs_rep q n)
theorem mul_d : OpD K mg (rMulA K) gMul := by
  intro pa Av W σ H p Q v w d e b k hd he h
  unfold gMul at h
  split at h
  · cases hd; cases he
    obtain ⟨q, h⟩ := D.ite_ok (Z := PE1 K mg pa Av W σ H Q) id h
    exact .inl ⟨_, _, rfl, rfl, q, h _ H (Ext.refl H) (.int _) k⟩
  · cases hd with
    | lst h1 n1 q1 =>
      cases he
      obtain ⟨q, h⟩ := D.ite_ok (Z := PE1 K mg pa Av W σ H Q) id h
      refine .inr (.inl ⟨_, _, _, rfl, rfl, h1, q.1, q.2.1, by rw [q1.length, line24]; exact q.2.2, fun a ha => ?_⟩)
      exact h _ _ (Ext.new ha) (.lst upd_same (b.fresh ha) (drs_new ha (drs_rep q1 _))) (k.new b ha)
  · cases hd with
    | tup h1 q1 =>
      cases he
      obtain ⟨q, h⟩ := D.ite_ok (Z := PE1 K mg pa Av W σ H Q) id h
      refine .inr (.inr ⟨_, _, _, rfl, rfl, h1.sq, fun z => ?_, q.2.1, q.2.2.1, by rw [q1.length]; exact q.2.2.2, fun a ha => ?_⟩)
      · subst z
        cases q1
        exact q.1 rfl
      · exact h _ _ (Ext.new ha) (.tup (.of upd_same (b.fresh ha)) (drs_new ha (drs_rep q1 _))) (k.new b ha)
  · exact h.elim
theorem mod_d : OpD K mg (rI (fun _ j => j ≠ 0) fun i j => .int (i.fmod j)) gMod := by
  intro pa Av W σ H p Q v w d e b k hd he h
  unfold gMod at h
  split at h
  · cases hd; cases he
    obtain ⟨q, h⟩ := D.ite_ok (Z := PE1 K mg pa Av W σ H Q) id h
    exact ⟨_, _, rfl, rfl, q, h _ H (Ext.refl H) (.int _) k⟩
  · exact h.elim
def rDivA : R2 := fun x y H Q => rI CDivW (fun i j => .int (i / j)) x y H Q ∨ rI CDivN (fun i j => .int (i.fdiv j)) x y H Q
theorem op_divA {X : Cx} : OpR X (binaryOp .FloorDiv) rDivA := op_fdivW.or op_fdivN
theorem div_d : OpD K mg rDivA gDiv := by
  intro pa Av W σ H p Q v w d e b k hd he h
  unfold gDiv at h
  split at h
  · cases hd; cases he
    split at h
    · next q => exact .inl ⟨_, _, rfl, rfl, q, h _ H (Ext.refl H) (.int _) k⟩
    · obtain ⟨q, h⟩ := D.ite_ok (Z := PE1 K mg pa Av W σ H Q) id h
      exact .inr ⟨_, _, rfl, rfl, q, h _ H (Ext.refl H) (.int _) k⟩
  · exact h.elim
theorem pow_d : OpD K mg (rI CPow fun i j => .int (i ^ j.toNat)) gPow := by
  intro pa Av W σ H p Q v w d e b k hd he h
  unfold gPow at h
  split at h
  · cases hd; cases he
    obtain ⟨q, h⟩ := D.ite_ok (Z := PE1 K mg pa Av W σ H Q) id h
    exact ⟨_, _, rfl, rfl, q, h _ H (Ext.refl H) (.int _) k⟩
  · exact h.elim
theorem neg_d : UnD K mg (rU fun i => .int (-i)) gNeg := by
  intro pa Av W σ H p Q v d b k hd h
  unfold gNeg at h
  split at h
  · cases hd
    exact ⟨_, rfl, h _ H (Ext.refl H) (.int _) k⟩
  · exact h.elim
end
end Dn
end

section
set_option Elab.async false
set_option linter.all false
set_option maxRecDepth 100000
set_option maxHeartbeats 4000000
namespace Dn
open PySem PySem.Spec PyProof.Rows L2
/-! ### equality of data -/
mutual
def D.toP : D → PyData
  | .non => .none
  | .bl b => .bool b
  | .int i => .int i
  | .str x => .str x
  | .lst ds => .list (toPs ds)
  | .tup ds => .tuple (toPs ds)
  | .dk _ _ => .none
  | .dt _ _ => .none
  | .pen => .none
  | .ins _ _ _ => .none
  | .ex _ _ _ => .none
def toPs : List D → List PyData
  | [] => []
  | d :: ds => d.toP :: toPs ds
end
mutual
def D.fine : D → Bool
  | .non => true
  | .bl _ => true
  | .int _ => true
  | .str x => PyData.strOk x
  | .lst ds => fines ds
  | .tup ds => fines ds
  | .dk _ _ => false
  | .dt _ _ => false
  | .pen => false
  | .ins _ _ _ => false
  | .ex _ _ _ => false
def fines : List D → Bool
  | [] => true
  | d :: ds => d.fine && fines ds
end
mutual
def D.dep : D → Nat
  | .lst ds => deps ds + 1
  | .tup ds => deps ds + 1
  | .non | .bl _ | .int _ | .str _ | .dk _ _ | .dt _ _ | .pen | .ins _ _ _ | .ex _ _ _ => 0
def deps : List D → Nat
  | [] => 0
  | d :: ds => max d.dep (deps ds)
end
mutual
def D.eq : D → D → Bool
  | .non, .non => true
  | .bl a, .bl b => a == b
  | .bl a, .int j => (if a then 1 else 0) == j
  | .int i, .bl b => i == (if b then 1 else 0)
  | .int i, .int j => i == j
  | .str x, .str y => x == y
  | .lst xs, .lst ys => eqs xs ys
  | .tup xs, .tup ys => eqs xs ys
  | _, _ => false
def eqs : List D → List D → Bool
  | [], [] => true
  | x :: xs, y :: ys => x.eq y && eqs xs ys
  | _, _ => false
end
def D.ok (d : D) : Bool := d.fine && decide (d.dep ≤ 64)
mutual
theorem toP_dep : ∀ d : D, d.toP.depth = d.dep
  | .non => rfl
  | .bl _ => rfl
  | .int _ => rfl
  | .str _ => rfl
  | .lst ds => congrArg (· + 1) (toPs_dep ds)
  | .tup ds => congrArg (· + 1) (toPs_dep ds)
  | .dk _ _ => rfl
  | .dt _ _ => rfl
  | .pen => rfl
  | .ins _ _ _ => rfl
  | .ex _ _ _ => rfl
theorem toPs_dep : ∀ ds : List D, PyData.depthAll (toPs ds) = deps ds
  | [] => rfl
  | d :: ds => by
    show max d.toP.depth (PyData.depthAll (toPs ds)) = max d.dep (deps ds)
    rw [toP_dep d, toPs_dep ds]
end
mutual
theorem toP_lay : ∀ d : D, d.fine = true → d.toP.canLay0 = true
  | .non, _ => rfl
  | .bl _, _ => rfl
  | .int _, _ => rfl
  | .str _, h => h
  | .lst ds, h => toPs_lay ds h
  | .tup ds, h => toPs_lay ds h
  | .dk _ _, h => by cases h
  | .dt _ _, h => by cases h
  | .pen, h => by cases h
  | .ins _ _ _, h => by cases h
  | .ex _ _ _, h => by cases h
theorem toPs_lay : ∀ ds : List D, fines ds = true → PyData.canLayAll0 (toPs ds) = true
  | [], _ => rfl
  | d :: ds, h => by
    have h' : (d.fine && fines ds) = true := h
    rw [Bool.and_eq_true] at h'
    show (d.toP.canLay0 && PyData.canLayAll0 (toPs ds)) = true
    rw [toP_lay d h'.1, toPs_lay ds h'.2]
    rfl
end
theorem toP_shaped {d : D} (h : d.ok = true) : SeqAt.shaped d.toP = true := by
  unfold D.ok at h
  rw [Bool.and_eq_true] at h
  unfold SeqAt.shaped
  rw [toP_lay d h.1, toP_dep, h.2]
  rfl
theorem ok_fine {d : D} (h : d.ok = true) : d.fine = true := (Bool.and_eq_true_iff.mp h).1
mutual
theorem toP_eq : ∀ d e : D, d.fine = true → e.fine = true → PyData.eqv d.toP e.toP = d.eq e
  | .lst xs, e, h, g => by
    cases e <;> first
      | rfl
      | (cases g)
      | exact toPs_eq xs _ h g
  | .tup xs, e, h, g => by
    cases e <;> first
      | rfl
      | (cases g)
      | exact toPs_eq xs _ h g
  | .non, e, _, g => by cases e <;> first | rfl | cases g
  | .bl _, e, _, g => by cases e <;> first | rfl | cases g
  | .int _, e, _, g => by cases e <;> first | rfl | cases g
  | .str _, e, _, g => by cases e <;> first | rfl | cases g
  | .dk _ _, _, h, _ => by cases h
  | .dt _ _, _, h, _ => by cases h
  | .pen, _, h, _ => by cases h
  | .ins _ _ _, _, h, _ => by cases h
  | .ex _ _ _, _, h, _ => by cases h
theorem toPs_eq : ∀ xs ys : List D, fines xs = true → fines ys = true → PyData.eqvAll (toPs xs) (toPs ys) = eqs xs ys
  | [], [], _, _ => rfl
  | [], _ :: _, _, _ => rfl
  | _ :: _, [], _, _ => rfl
  | x :: xs, y :: ys, h, g => by
    have h' : (x.fine && fines xs) = true := h
    have g' : (y.fine && fines ys) = true := g
    rw [Bool.and_eq_true] at h' g'
    show (PyData.eqv x.toP y.toP && PyData.eqvAll (toPs xs) (toPs ys)) = (x.eq y && eqs xs ys)
    rw [toP_eq x y h'.1 g'.1, toPs_eq xs ys h'.2 g'.2]
end
section
variable {K : PySem.W.Frag} {mg : Str → Option Value} {pa : Addr} {Av : List Addr} {H : Hp}
mutual
theorem DR.dp : ∀ {v : V} {d : D}, DR K mg pa Av H v d → d.fine = true → Dp K H v d.toP
  | _, _, .non, _ => .non
  | _, _, .bl b, _ => .bl b
  | _, _, .int i, _ => .int i
  | _, _, .str x, _ => .str x
  | _, _, .lst h _ q, g => .lst (.of h) (DRs.dp q g)
  | _, _, .tup h q, g => .tup h.sq (DRs.dp q g)
  | _, _, .pen, g => by cases g
  | _, _, .dk .., g => by cases g
  | _, _, .dt .., g => by cases g
  | _, _, .ins .., g => by cases g
  | _, _, .ex .., g => by cases g
theorem DRs.dp : ∀ {vs : List V} {ds : List D}, DRs K mg pa Av H vs ds → fines ds = true → DpAll K H vs (toPs ds)
  | _, _, .nil, _ => .nil
  | _, _, .cons h q, g => by
    have g' := Bool.and_eq_true_iff.mp (show (_ && _) = true from g)
    exact .cons (DR.dp h g'.1) (DRs.dp q g'.2)
end
end
def gEq (d e : D) (p : List D) : R D := if d.ok && e.ok then .ok (.bl (d.eq e)) p else .stuck
def gNe (d e : D) (p : List D) : R D := if d.ok && e.ok then .ok (.bl (!d.eq e)) p else .stuck
section
variable {K : PySem.W.Frag} {mg : Str → Option Value}
theorem eq_d : OpD K mg (rEqD K) gEq := by
  intro pa Av W σ H p Q v w d e b k hd he h
  unfold gEq at h
  obtain ⟨q, h⟩ := D.ite_ok (Z := PE1 K mg pa Av W σ H Q) id h
  obtain ⟨q1, q2⟩ := Bool.and_eq_true_iff.mp q
  exact ⟨_, _, hd.dp (ok_fine q1), he.dp (ok_fine q2), toP_shaped q1, toP_shaped q2, by rw [toP_eq d e (ok_fine q1) (ok_fine q2)]; exact h _ H (Ext.refl H) (.bl _) k⟩
theorem ne_d : OpD K mg (rNeD K) gNe := by
  intro pa Av W σ H p Q v w d e b k hd he h
  unfold gNe at h
  obtain ⟨q, h⟩ := D.ite_ok (Z := PE1 K mg pa Av W σ H Q) id h
  obtain ⟨q1, q2⟩ := Bool.and_eq_true_iff.mp q
  exact ⟨_, _, hd.dp (ok_fine q1), he.dp (ok_fine q2), toP_shaped q1, toP_shaped q2, by rw [toP_eq d e (ok_fine q1) (ok_fine q2)]; exact h _ H (Ext.refl H) (.bl _) k⟩
end
/-! ### order of ints, of texts -/
def gLt : D → D → List D → R D
  | .int i, .int j, p => .ok (.bl (decide (i < j))) p
  | .str i, .str j, p => .ok (.bl (decide (i.cps.toList < j.cps.toList))) p
  | _, _, _ => .stuck
def gLe : D → D → List D → R D
  | .int i, .int j, p => .ok (.bl (decide (i ≤ j))) p
  | .str i, .str j, p => .ok (.bl (!decide (j.cps.toList < i.cps.toList))) p
  | _, _, _ => .stuck
def gGt : D → D → List D → R D
  | .int i, .int j, p => .ok (.bl (decide (j < i))) p
  | .str i, .str j, p => .ok (.bl (decide (j.cps.toList < i.cps.toList))) p
  | _, _, _ => .stuck
def gGe : D → D → List D → R D
  | .int i, .int j, p => .ok (.bl (decide (j ≤ i))) p
  | .str i, .str j, p => .ok (.bl (!decide (i.cps.toList < j.cps.toList))) p
  | _, _, _ => .stuck
section
variable {K : PySem.W.Frag} {mg : Str → Option Value} {X : Cx}
theorem op_ltA : OpR X (compareOp .Lt) (fun x y H Q => rI0 (fun i j => .bl (decide (i < j))) x y H Q ∨ ∃ i j, x = .str i ∧ y = .str j ∧ Q (.bl (decide (i.cps.toList < j.cps.toList))) H) := op_lt.or op_lt_str
theorem op_leA : OpR X (compareOp .LtE) (fun x y H Q => rI0 (fun i j => .bl (decide (i ≤ j))) x y H Q ∨ ∃ i j, x = .str i ∧ y = .str j ∧ Q (.bl (!decide (j.cps.toList < i.cps.toList))) H) := op_le.or op_le_str
theorem op_gtA : OpR X (compareOp .Gt) (fun x y H Q => rI0 (fun i j => .bl (decide (j < i))) x y H Q ∨ ∃ i j, x = .str i ∧ y = .str j ∧ Q (.bl (decide (j.cps.toList < i.cps.toList))) H) := op_gt.or op_gt_str
theorem op_geA : OpR X (compareOp .GtE) (fun x y H Q => rI0 (fun i j => .bl (decide (j ≤ i))) x y H Q ∨ ∃ i j, x = .str i ∧ y = .str j ∧ Q (.bl (!decide (i.cps.toList < j.cps.toList))) H) := op_ge.or op_ge_str
theorem lt_d : OpD K mg (fun x y H Q => rI0 (fun i j => .bl (decide (i < j))) x y H Q ∨ ∃ i j, x = .str i ∧ y = .str j ∧ Q (.bl (decide (i.cps.toList < j.cps.toList))) H) gLt := by
  intro pa Av W σ H p Q v w d e b k hd he h
  unfold gLt at h
  split at h
  · cases hd; cases he
    exact .inl ⟨_, _, rfl, rfl, h _ H (Ext.refl H) (.bl _) k⟩
  · cases hd; cases he
    exact .inr ⟨_, _, rfl, rfl, h _ H (Ext.refl H) (.bl _) k⟩
  · exact h.elim
theorem le_d : OpD K mg (fun x y H Q => rI0 (fun i j => .bl (decide (i ≤ j))) x y H Q ∨ ∃ i j, x = .str i ∧ y = .str j ∧ Q (.bl (!decide (j.cps.toList < i.cps.toList))) H) gLe := by
  intro pa Av W σ H p Q v w d e b k hd he h
  unfold gLe at h
  split at h
  · cases hd; cases he
    exact .inl ⟨_, _, rfl, rfl, h _ H (Ext.refl H) (.bl _) k⟩
  · cases hd; cases he
    exact .inr ⟨_, _, rfl, rfl, h _ H (Ext.refl H) (.bl _) k⟩
  · exact h.elim
theorem gt_d : OpD K mg (fun x y H Q => rI0 (fun i j => .bl (decide (j < i))) x y H Q ∨ ∃ i j, x = .str i ∧ y = .str j ∧ Q (.bl (decide (j.cps.toList < i.cps.toList))) H) gGt := by
  intro pa Av W σ H p Q v w d e b k hd he h
  unfold gGt at h
  split at h
  · cases hd; cases he
    exact .inl ⟨_, _, rfl, rfl, h _ H (Ext.refl H) (.bl _) k⟩
  · cases hd; cases he
    exact .inr ⟨_, _, rfl, rfl, h _ H (Ext.refl H) (.bl _) k⟩
  · exact h.elim
theorem ge_d : OpD K mg (fun x y H Q => rI0 (fun i j => .bl (decide (j ≤ i))) x y H Q ∨ ∃ i j, x = .str i ∧ y = .str j ∧ Q (.bl (!decide (i.cps.toList < j.cps.toList))) H) gGe := by
  intro pa Av W σ H p Q v w d e b k hd he h
  unfold gGe at h
  split at h
  · cases hd; cases he
    exact .inl ⟨_, _, rfl, rfl, h _ H (Ext.refl H) (.bl _) k⟩
  · cases hd; cases he
    exact .inr ⟨_, _, rfl, rfl, h _ H (Ext.refl H) (.bl _) k⟩
  · exact h.elim
/-! ### is None, is True, is False -/
def V.isB : V → V → Bool
  | .non, .non => true
  | .bl a, .bl b => a == b
  | _, _ => false
def isC : V → Bool
  | .non => true
  | .bl _ => true
  | _ => false
theorem op_isC : OpR X (compareOp .Is) (fun x y H Q => isC y = true ∧ Q (.bl (V.isB x y)) H) := by
  intro pins s σ H x y v u Q I rx ry h
  obtain ⟨hy, q⟩ := h
  cases y <;> first
    | (cases hy; done)
    | skip
  · cases ry
    refine is_none_gen ⟨.bl _, H, I, ?_, q⟩
    show Value.bool _ = Value.bool _
    cases x <;> first
      | (cases rx; rfl)
      | (obtain ⟨t, rfl⟩ := rx; rfl)
  · rename_i b
    cases ry
    cases x <;> first
      | (cases rx; exact wpAny_pure ⟨.bl _, H, I, rfl, q⟩)
      | (cases rx; rename_i c; exact wpAny_pure ⟨.bl _, H, I, (by cases c <;> cases b <;> rfl), q⟩)
      | (obtain ⟨t, rfl⟩ := rx; exact wpAny_pure ⟨.bl _, H, I, rfl, q⟩)
theorem op_notC : OpR X (compareOp .IsNot) (fun x y H Q => isC y = true ∧ Q (.bl (!V.isB x y)) H) := by
  intro pins s σ H x y v u Q I rx ry h
  obtain ⟨hy, q⟩ := h
  cases y <;> first
    | (cases hy; done)
    | skip
  · cases ry
    refine isnot_none_gen ⟨.bl _, H, I, ?_, q⟩
    show Value.bool _ = Value.bool _
    cases x <;> first
      | (cases rx; rfl)
      | (obtain ⟨t, rfl⟩ := rx; rfl)
  · rename_i b
    cases ry
    cases x <;> first
      | (cases rx; exact wpAny_pure ⟨.bl _, H, I, rfl, q⟩)
      | (cases rx; rename_i c; exact wpAny_pure ⟨.bl _, H, I, (by cases c <;> cases b <;> rfl), q⟩)
      | (obtain ⟨t, rfl⟩ := rx; exact wpAny_pure ⟨.bl _, H, I, rfl, q⟩)
def D.isB : D → D → Bool
  | .non, .non => true
  | .bl a, .bl b => a == b
  | _, _ => false
def D.isC : D → Bool
  | .non => true
  | .bl _ => true
  | _ => false
def gIs (d e : D) (p : List D) : R D := if e.isC then .ok (.bl (d.isB e)) p else .stuck
def gIsNot (d e : D) (p : List D) : R D := if e.isC then .ok (.bl (!d.isB e)) p else .stuck
theorem dr_isB {pa : Addr} {Av : List Addr} {H : Hp} {v w : V} {d e : D} (hd : DR K mg pa Av H v d) (he : DR K mg pa Av H w e) (q : e.isC = true) : isC w = true ∧ V.isB v w = d.isB e := by
  cases he <;> first
    | (cases q; done)
    | (cases hd <;> exact ⟨rfl, rfl⟩)
theorem is_d : OpD K mg (fun x y H Q => isC y = true ∧ Q (.bl (V.isB x y)) H) gIs := by
  intro pa Av W σ H p Q v w d e b k hd he h
  unfold gIs at h
  obtain ⟨q, h⟩ := D.ite_ok (Z := PE1 K mg pa Av W σ H Q) id h
  obtain ⟨q1, q2⟩ := dr_isB hd he q
  exact ⟨q1, by rw [q2]; exact h _ H (Ext.refl H) (.bl _) k⟩
theorem isnot_d : OpD K mg (fun x y H Q => isC y = true ∧ Q (.bl (!V.isB x y)) H) gIsNot := by
  intro pa Av W σ H p Q v w d e b k hd he h
  unfold gIsNot at h
  obtain ⟨q, h⟩ := D.ite_ok (Z := PE1 K mg pa Av W σ H Q) id h
  obtain ⟨q1, q2⟩ := dr_isB hd he q
  exact ⟨q1, by rw [q2]; exact h _ H (Ext.refl H) (.bl _) k⟩
/-! ### x in a list, a tuple -/
def rInT (K : PySem.W.Frag) : R2 := fun x y H Q => ∃ d ds, Dp K H x d ∧ Dp K H y (.tuple ds) ∧ SeqAt.shaped d = true ∧ SeqAt.shaped (.tuple ds) = true ∧ Q (.bl (ds.any fun z => PyData.eqv z d)) H
def rNotInT (K : PySem.W.Frag) : R2 := fun x y H Q => ∃ d ds, Dp K H x d ∧ Dp K H y (.tuple ds) ∧ SeqAt.shaped d = true ∧ SeqAt.shaped (.tuple ds) = true ∧ Q (.bl (!ds.any fun z => PyData.eqv z d)) H
theorem op_inT (hu : X.A.units + 65 < cLine) : OpR X (compareOp .In) (rInT X.K) := by
  intro pins s σ H x y v u Q I rx ry h
  obtain ⟨d, ds, hd, he, sd, se, q⟩ := h
  obtain ⟨as, r1⟩ := Dp.reads I d x v hd rx
  obtain ⟨bs, r2⟩ := Dp.reads I (.tuple ds) y u he ry
  exact SeqAt.in_tuple_reads r2 r1 (SeqAt.canLay_of_shaped se) (SeqAt.canLay_of_shaped sd) (room_in_shaped sd hu) ⟨.bl _, H, I, rfl, q⟩
theorem op_notInT (hu : X.A.units + 65 < cLine) : OpR X (compareOp .NotIn) (rNotInT X.K) := by
  intro pins s σ H x y v u Q I rx ry h
  obtain ⟨d, ds, hd, he, sd, se, q⟩ := h
  obtain ⟨as, r1⟩ := Dp.reads I d x v hd rx
  obtain ⟨bs, r2⟩ := Dp.reads I (.tuple ds) y u he ry
  exact SeqAt.notIn_tuple_reads r2 r1 (SeqAt.canLay_of_shaped se) (SeqAt.canLay_of_shaped sd) (room_in_shaped sd hu) ⟨.bl _, H, I, rfl, q⟩
def rInA (K : PySem.W.Frag) : R2 := fun x y H Q => rInD K x y H Q ∨ rInT K x y H Q ∨ ∃ (c : Nat) (z : Str), x = .str ⟨#[c]⟩ ∧ y = .str z ∧ Q (.bl (decide (c ∈ z.cps.toList))) H
def rNotInA (K : PySem.W.Frag) : R2 := fun x y H Q => rNotInD K x y H Q ∨ rNotInT K x y H Q ∨ ∃ (c : Nat) (z : Str), x = .str ⟨#[c]⟩ ∧ y = .str z ∧ Q (.bl (!decide (c ∈ z.cps.toList))) H
theorem op_inA (hu : X.A.units + 65 < cLine) : OpR X (compareOp .In) (rInA X.K) := (op_inD hu).or ((op_inT hu).or op_in_sign)
theorem op_notInA (hu : X.A.units + 65 < cLine) : OpR X (compareOp .NotIn) (rNotInA X.K) := (op_notInD hu).or ((op_notInT hu).or op_notIn_sign)
def sign? (x : Str) : Option Nat := match x.cps.toList with
  | [c] => some c
  | _ => none
theorem sign_of {x : Str} {c : Nat} (h : sign? x = some c) : x = ⟨#[c]⟩ := by
  unfold sign? at h
  split at h
  · next c' e =>
    cases h
    cases x with
    | mk cs =>
      have e' : cs.toList = [c] := e
      congr 1
      exact Array.toList_inj.mp e'
  · cases h
def gIn (neg : Bool) (d e : D) (p : List D) : R D := match e with
  | .lst ds => if d.ok && e.ok then .ok (.bl (xor neg (ds.any fun z => z.eq d))) p else .stuck
  | .tup ds => if d.ok && e.ok then .ok (.bl (xor neg (ds.any fun z => z.eq d))) p else .stuck
  | .str z => match d with
    | .str x => match sign? x with
      | some c => .ok (.bl (xor neg (decide (c ∈ z.cps.toList)))) p
      | none => .stuck
    | _ => .stuck
  | _ => .stuck
theorem any_toP {d : D} (h : d.fine = true) : ∀ {ds : List D}, fines ds = true → ((toPs ds).any fun z => PyData.eqv z d.toP) = ds.any fun z => z.eq d
  | [], _ => rfl
  | e :: ds, g => by
    have g' := Bool.and_eq_true_iff.mp (show (_ && _) = true from g)
    show (PyData.eqv e.toP d.toP || (toPs ds).any _) = (e.eq d || ds.any _)
    rw [toP_eq e d g'.1 h, any_toP h g'.2]
theorem in_d : OpD K mg (rInA K) (gIn false) := by
  intro pa Av W σ H p Q v w d e b k hd he h
  unfold gIn at h
  split at h
  · obtain ⟨q, h⟩ := D.ite_ok (Z := PE1 K mg pa Av W σ H Q) id h
    obtain ⟨q1, q2⟩ := Bool.and_eq_true_iff.mp q
    rw [Bool.false_xor] at h
    exact .inl ⟨_, _, hd.dp (ok_fine q1), he.dp (ok_fine q2), toP_shaped q1, toP_shaped q2, by rw [any_toP (ok_fine q1) (ok_fine q2)]; exact h _ H (Ext.refl H) (.bl _) k⟩
  · obtain ⟨q, h⟩ := D.ite_ok (Z := PE1 K mg pa Av W σ H Q) id h
    obtain ⟨q1, q2⟩ := Bool.and_eq_true_iff.mp q
    rw [Bool.false_xor] at h
    exact .inr (.inl ⟨_, _, hd.dp (ok_fine q1), he.dp (ok_fine q2), toP_shaped q1, toP_shaped q2, by rw [any_toP (ok_fine q1) (ok_fine q2)]; exact h _ H (Ext.refl H) (.bl _) k⟩)
  · split at h
    · split at h
      · next c e =>
        cases hd; cases he
        rw [Bool.false_xor] at h
        rw [sign_of e]
        exact .inr (.inr ⟨_, _, rfl, rfl, h _ H (Ext.refl H) (.bl _) k⟩)
      · exact h.elim
    · exact h.elim
  · exact h.elim
theorem notin_d : OpD K mg (rNotInA K) (gIn true) := by
  intro pa Av W σ H p Q v w d e b k hd he h
  unfold gIn at h
  split at h
  · obtain ⟨q, h⟩ := D.ite_ok (Z := PE1 K mg pa Av W σ H Q) id h
    obtain ⟨q1, q2⟩ := Bool.and_eq_true_iff.mp q
    rw [Bool.true_xor] at h
    exact .inl ⟨_, _, hd.dp (ok_fine q1), he.dp (ok_fine q2), toP_shaped q1, toP_shaped q2, by rw [any_toP (ok_fine q1) (ok_fine q2)]; exact h _ H (Ext.refl H) (.bl _) k⟩
  · obtain ⟨q, h⟩ := D.ite_ok (Z := PE1 K mg pa Av W σ H Q) id h
    obtain ⟨q1, q2⟩ := Bool.and_eq_true_iff.mp q
    rw [Bool.true_xor] at h
    exact .inr (.inl ⟨_, _, hd.dp (ok_fine q1), he.dp (ok_fine q2), toP_shaped q1, toP_shaped q2, by rw [any_toP (ok_fine q1) (ok_fine q2)]; exact h _ H (Ext.refl H) (.bl _) k⟩)
  · split at h
    · split at h
      · next c e =>
        cases hd; cases he
        rw [Bool.true_xor] at h
        rw [sign_of e]
        exact .inr (.inr ⟨_, _, rfl, rfl, h _ H (Ext.refl H) (.bl _) k⟩)
      · exact h.elim
    · exact h.elim
  · exact h.elim
end
end Dn
end

section
set_option Elab.async false
set_option linter.all false
set_option maxRecDepth 100000
set_option maxHeartbeats 4000000
namespace Dn
open PySem PySem.Spec PyProof.Rows L2
section
variable {K : PySem.W.Frag} {mg : Str → Option Value} {X : Cx} {W : WX} {pos : Pos}
/-! ### items -/
def gIx (pn : List D) : D → D → List D → R D
  | .lst ds, .int i, p => match atI ds i with
    | some d => .ok d p
    | none => .stuck
  | .tup ds, .int i, p => match atI ds i with
    | some d => .ok d p
    | none => .stuck
  | .str z, .int i, p => if z.length ≤ 16777216 then (match atI z.cps.toList i with
    | some c => .ok (.str ⟨#[c]⟩) p
    | none => .stuck) else .stuck
  | .pen, .int i, p => match atI p i with
    | some d => .ok d p
    | none => .stuck
  | _, _, _ => .stuck
theorem atI_drs {pa : Addr} {Av : List Addr} {H : Hp} {vs : List V} {ds : List D} {i : Int} {d : D} (q : DRs K mg pa Av H vs ds) (h : atI ds i = some d) : ∃ v, atI vs i = some v ∧ DR K mg pa Av H v d := by
  unfold atI at h ⊢
  rw [q.length]
  cases e : ixN ds.length i with
  | none => rw [e] at h; cases h
  | some j =>
    rw [e] at h
    exact q.get h
theorem ix_d : OpD K mg (rIx K) (gIx []) := by
  intro pa Av W σ H p Q v w d e b k hd he h
  unfold gIx at h
  split at h
  · split at h
    · next z hz =>
      cases hd with
      | lst h1 n1 q1 =>
        cases he
        obtain ⟨x, hx, hr⟩ := atI_drs q1 hz
        exact .inl ⟨_, _, _, _, rfl, rfl, .of h1, hx, h _ H (Ext.refl H) hr k⟩
    · exact h.elim
  · split at h
    · next z hz =>
      cases hd with
      | tup h1 q1 =>
        cases he
        obtain ⟨x, hx, hr⟩ := atI_drs q1 hz
        exact .inr (.inl ⟨_, _, _, _, rfl, rfl, h1.sq, hx, h _ H (Ext.refl H) hr k⟩)
    · exact h.elim
  · obtain ⟨q, h⟩ := D.ite_ok (Z := PE1 K mg pa Av W σ H Q) id h
    split at h
    · next z hz =>
      cases hd; cases he
      exact .inr (.inr ⟨_, _, _, rfl, rfl, by rw [line24]; exact q, hz, h _ H (Ext.refl H) (.str _) k⟩)
    · exact h.elim
  · split at h
    · next z hz =>
      cases hd; cases he
      obtain ⟨vs, hp, q1⟩ := k.at'
      obtain ⟨x, hx, hr⟩ := atI_drs q1 hz
      exact .inl ⟨_, _, _, _, rfl, rfl, .of hp, hx, h _ H (Ext.refl H) hr k⟩
    · exact h.elim
  · exact h.elim
theorem de_ix {a b : Expr} {fa fb : FE} (ha : DE X W a fa) (hb : DE X W b fb) (hs : PlainIx b := by exact fun _ _ => rfl) : DE X W (.Subscript a b pos) (f2 (gIx []) fa fb) := (pe_ix ix_seq ha hb hs).imp (td_2 ix_d)

/-! ### slices -/
abbrev FO := List Sl → List D → R (Option Int)
def fNoPart : FO := fun _ p => .ok none p
def fPart (f : FE) : FO := fun ρ p => (f ρ p).bnd fun d p => match d with
  | .int i => .ok (some i) p
  | _ => .stuck
def cutD {α : Type} (xs : List α) (lo hi : Option Int) : List α := (xs.drop (HT.sIx xs.length 0 lo)).take (HT.sIx xs.length xs.length hi - HT.sIx xs.length 0 lo)
theorem cut_drs {pa : Addr} {Av : List Addr} {H : Hp} {vs : List V} {ds : List D} (q : DRs K mg pa Av H vs ds) (lo hi : Option Int) : DRs K mg pa Av H (cutV vs lo hi) (cutD ds lo hi) := by
  unfold cutV cutD
  rw [q.length]
  exact (q.drop _).take _
def fSlL (f : FE) (lo hi : FO) : FL := fun ρ p => (f ρ p).bnd fun d p => (lo ρ p).bnd fun l p => (hi ρ p).bnd fun u p => match d with
  | .lst ds => .ok (cutD ds l u) p
  | _ => .stuck
def fSlT (f : FE) (lo hi : FO) : FE := fun ρ p => (f ρ p).bnd fun d p => (lo ρ p).bnd fun l p => (hi ρ p).bnd fun u p => match d with
  | .tup ds => .ok (.tup (cutD ds l u)) p
  | .lst ds => .ok (.lst (cutD ds l u)) p
  | .str z => if z.length ≤ 16777216 then .ok (.str (cutS z l u)) p else .stuck
  | _ => .stuck
/-- a slice's part keeps all -/
structure DO (X : Cx) (W : WX) (e : Option Expr) (f : FO) : Prop where
  ex : ∃ to : TO, PO X e to ∧ ∀ (α : Type) pa Av σ H ρ p (Z : Hp → R α → Prop) (k : Option Int → List D → R α) (Q : Option Int → Hp → Prop), Rel X.K X.mg pa Av σ H ρ p →
    (∀ c ks ds p', Z H (.exc c ks ds p') → PX X.K X.mg pa Av W σ H c ks ds p') → (Z H .stuck → False) → Z H ((f ρ p).bnd k) →
    (∀ o p1 H1, Ext pa H H1 → Rel X.K X.mg pa Av σ H1 ρ p1 → Z H (k o p1) → Q o H1) → to σ H Q
theorem do_none : DO X W none fNoPart := ⟨_, po_none, fun _ pa Av σ H ρ p Z k Q r hx hs h go => go none p H (Ext.refl H) r h⟩
theorem do_some {e : Expr} {f : FE} (he : DE X W e f) : DO X W (some e) (fPart f) := ⟨_, po_some he, fun _ pa Av σ H ρ p Z k Q r hx hs h go => by
  refine ⟨pa, Av, ρ, p, r, ?_⟩
  unfold fPart at h
  cases q : f ρ p with
  | ok d p1 =>
    rw [q] at h
    intro v H1 e1 hd hk
    cases d <;> first
      | exact (hs h).elim
      | (cases hd
         exact ⟨_, rfl, go _ p1 H1 e1 (r.step e1 hk) h⟩)
  | exc c ks ds p1 =>
    rw [q] at h
    exact hx _ _ _ _ h
  | stuck =>
    rw [q] at h
    exact hs h⟩
theorem de_sl {e : Expr} {lo hi : Option Expr} {p2 : Pos} {f : FE} {fl fh : FO} (he : DE X W e f) (hl : DO X W lo fl) (hh : DO X W hi fh) : DE X W (.Subscript e (.Slice lo hi none p2) pos) (fSlT f fl fh) := by
  obtain ⟨tl, pl, rl⟩ := hl.ex
  obtain ⟨th, ph, rh⟩ := hh.ex
  refine L2.PE.imp (pe_slice (sl_list.or (sl_tupA.or sl_str)) he pl ph) fun σ H Q h => ?_
  obtain ⟨pa, Av, ρ, p, r, h⟩ := h
  refine seqE (Z := fun H r => PE1 X.K X.mg pa Av W σ H Q r) r (fun _ _ _ _ h => h) id h fun d p1 v H1 e1 hd r1 h1 => ?_
  have h1 := PE1.later e1 r1.pen.live h1
  refine rl _ pa Av σ H1 ρ p1 (fun H r => PE1 X.K X.mg pa Av W σ H Q r) _ _ r1 (fun _ _ _ _ h => h) id h1 fun l p2 H2 e2 r2 h2 => ?_
  have h2 := PE1.later e2 r2.pen.live h2
  refine rh _ pa Av σ H2 ρ p2 (fun H r => PE1 X.K X.mg pa Av W σ H Q r) _ _ r2 (fun _ _ _ _ h => h) id h2 fun u p3 H3 e3 r3 h3 => ?_
  have h3 := PE1.later e3 r3.pen.live h3
  have hd3 := (r2.base.mv e3).dr ((r1.base.mv e2).dr hd)
  cases d <;> first
    | exact h3.elim
    | skip
  · cases hd3
    obtain ⟨q, h3⟩ := D.ite_ok (Z := PE1 X.K X.mg pa Av W σ H3 Q) id h3
    exact .inr (.inr ⟨_, rfl, by rw [line24]; exact q, h3 _ H3 (Ext.refl _) (.str _) r3.pen⟩)
  · cases hd3 with
    | lst h4 n4 q4 => exact .inl ⟨_, _, rfl, .of h4, fun a ha => h3 _ _ (Ext.new ha) (.lst upd_same (r3.base.fresh ha) (drs_new ha (cut_drs q4 l u))) (r3.pen.new r3.base ha)⟩
  · cases hd3 with
    | tup h4 q4 =>
      refine .inr (.inl ⟨_, _, rfl, h4.sq, fun z => ?_, fun _ a ha => h3 _ _ (Ext.new ha) (.tup (.of upd_same (r3.base.fresh ha)) (drs_new ha (cut_drs q4 l u))) (r3.pen.new r3.base ha)⟩)
      refine h3 _ H3 (Ext.refl _) (.tup h4 ?_) r3.pen
      have := cut_drs q4 l u
      unfold cutV at this
      rw [z.1, z.2, List.drop_zero, Nat.sub_zero, List.take_length] at this
      exact this
theorem dl_sl {e : Expr} {lo hi : Option Expr} {p2 : Pos} {f : FE} {fl fh : FO} (he : DE X W e f) (hl : DO X W lo fl) (hh : DO X W hi fh) : DL X W (.Subscript e (.Slice lo hi none p2) pos) (fSlL f fl fh) := by
  obtain ⟨tl, pl, rl⟩ := hl.ex
  obtain ⟨th, ph, rh⟩ := hh.ex
  refine L2.PE.imp (pe_slice sl_list he pl ph) fun σ H Q h => ?_
  obtain ⟨pa, Av, ρ, p, r, h⟩ := h
  refine seqE (Z := fun H r => PL1 X.K X.mg pa Av W σ H Q r) r (fun _ _ _ _ h => h) id h fun d p1 v H1 e1 hd r1 h1 => ?_
  have h1 := PL1.later e1 r1.pen.live h1
  refine rl _ pa Av σ H1 ρ p1 (fun H r => PL1 X.K X.mg pa Av W σ H Q r) _ _ r1 (fun _ _ _ _ h => h) id h1 fun l p2 H2 e2 r2 h2 => ?_
  have h2 := PL1.later e2 r2.pen.live h2
  refine rh _ pa Av σ H2 ρ p2 (fun H r => PL1 X.K X.mg pa Av W σ H Q r) _ _ r2 (fun _ _ _ _ h => h) id h2 fun u p3 H3 e3 r3 h3 => ?_
  have h3 := PL1.later e3 r3.pen.live h3
  have hd3 := (r2.base.mv e3).dr ((r1.base.mv e2).dr hd)
  cases d <;> first
    | exact h3.elim
    | skip
  cases hd3 with
  | lst h4 n4 q4 => exact ⟨_, _, rfl, .of h4, ans_lst r3.base r3.pen (cut_drs q4 l u) h3⟩
/-- e[::-1] of a list -/
def fRevL (f : FE) : FE := fun ρ p => (f ρ p).bnd fun d p => match d with
  | .lst ds => .ok (.lst ds.reverse) p
  | _ => .stuck
theorem de_rev {e : Expr} {f : FE} {k : Nat} {p1 p2 p3 : Pos} (he : DE X W e f) : DE X W (.Subscript e (.Slice none none (some (.UnaryOp .USub (.Constant (.int 1) k p1) p2)) p3) pos) (fRevL f) := (pe_revL he).imp fun σ H Q h => by
  obtain ⟨pa, Av, ρ, p, r, h⟩ := h
  refine seqE (Z := fun H r => PE1 X.K X.mg pa Av W σ H Q r) r (fun _ _ _ _ h => h) id h fun d p1 v H1 e1 hd r1 h1 => ?_
  have h1 := PE1.later e1 r1.pen.live h1
  cases d <;> first
    | exact h1.elim
    | skip
  cases hd with
  | lst h4 n4 q4 => exact ⟨_, _, rfl, .of h4, fun a ha => h1 _ _ (Ext.new ha) (.lst upd_same (r1.base.fresh ha) (drs_new ha q4.rev)) (r1.pen.new r1.base ha)⟩
/-! ### built-ins of values -/
def gLen : List D → List D → R D
  | [.lst ds], p => .ok (.int ds.length) p
  | [.tup ds], p => .ok (.int ds.length) p
  | [.dk ks _], p => .ok (.int ks.length) p
  | [.dt ks _], p => .ok (.int ks.length) p
  | [.str x], p => if x.length ≤ 16777216 then .ok (.int x.length) p else .stuck
  | _, _ => .stuck
def rLenAll (K : PySem.W.Frag) : List V → Hp → VK → Prop := fun xs H Q => (∃ x n, xs = [x] ∧ LenV K x H n ∧ Q (.int n) H) ∨ (∃ a kvs, xs = [V.ref a] ∧ H a = some (.dK kvs) ∧ Q (.int kvs.length) H) ∨ rLenT xs H Q
theorem call_lenA : CallR X (.builtin "len") (rLenAll X.K) := call_len.or (call_lenD.or call_len_dT)
theorem len_d : CallD K mg (rLenAll K) gLen := by
  intro pa Av W σ H p Q vs ds b k hd h
  unfold gLen at h
  split at h
  · obtain ⟨v, rfl, hv⟩ := drs1 hd
    cases hv with
    | lst h1 n1 q1 => exact .inl ⟨_, _, rfl, .inl ⟨_, .of h1, q1.length.symm⟩, h _ H (Ext.refl H) (.int _) k⟩
  · obtain ⟨v, rfl, hv⟩ := drs1 hd
    cases hv with
    | tup h1 q1 => exact .inl ⟨_, _, rfl, .inr ⟨_, h1.sq, q1.length.symm⟩, h _ H (Ext.refl H) (.int _) k⟩
  · obtain ⟨v, rfl, hv⟩ := drs1 hd
    cases hv with
    | dk h1 n1 e1 e2 q1 => exact .inr (.inl ⟨_, _, rfl, h1, by rw [← e1, List.length_map] at h; exact h _ H (Ext.refl H) (.int _) k⟩)
  · obtain ⟨v, rfl, hv⟩ := drs1 hd
    cases hv with
    | dt h1 n1 e1 e2 q1 => exact .inr (.inr ⟨_, _, rfl, h1, by rw [← e1, List.length_map] at h; exact h _ H (Ext.refl H) (.int _) k⟩)
  · obtain ⟨v, rfl, hv⟩ := drs1 hd
    cases hv
    obtain ⟨q, h⟩ := D.ite_ok (Z := PE1 K mg pa Av W σ H Q) id h
    exact .inl ⟨_, _, rfl, ⟨by rw [line24]; exact q, rfl⟩, h _ H (Ext.refl H) (.int _) k⟩
  · exact h.elim
def gList : List D → List D → R (List D)
  | [.lst ds], p => .ok ds p
  | [.tup ds], p => .ok ds p
  | _, _ => .stuck
theorem list_d : CallDL K mg (fun xs H Q => ∃ p ys, xs = [.ref p] ∧ (SqL K H p ys ∨ SqT K H p ys) ∧ ∀ l, H l = none → Q (.ref l) (upd H l (.lst ys))) gList := by
  intro pa Av W σ H p Q vs ds b k hd h
  unfold gList at h
  split at h
  · obtain ⟨v, rfl, hv⟩ := drs1 hd
    cases hv with
    | lst h1 n1 q1 => exact ⟨_, _, rfl, .inl (.of h1), ans_lst b k q1 h⟩
  · obtain ⟨v, rfl, hv⟩ := drs1 hd
    cases hv with
    | tup h1 q1 => exact ⟨_, _, rfl, .inr h1.sq, ans_lst b k q1 h⟩
  · exact h.elim
def gTuple : List D → List D → R D
  | [.lst ds], p => .ok (.tup ds) p
  | [.tup ds], p => .ok (.tup ds) p
  | _, _ => .stuck
theorem tuple_d : CallD K mg (fun xs H Q => ∃ p ys, xs = [.ref p] ∧ ((SqL K H p ys ∧ ∀ l, H l = none → Q (.ref l) (upd H l (.tup ys))) ∨ (SqT K H p ys ∧ Q (.ref p) H))) gTuple := by
  intro pa Av W σ H p Q vs ds b k hd h
  unfold gTuple at h
  split at h
  · obtain ⟨v, rfl, hv⟩ := drs1 hd
    cases hv with
    | lst h1 n1 q1 => exact ⟨_, _, rfl, .inl ⟨.of h1, ans_tup b k q1 h⟩⟩
  · obtain ⟨v, rfl, hv⟩ := drs1 hd
    cases hv with
    | tup h1 q1 => exact ⟨_, _, rfl, .inr ⟨h1.sq, h _ H (Ext.refl H) (.tup h1 q1) k⟩⟩
  · exact h.elim
def gSum : List D → List D → R D
  | [.lst ds], p => match allOf D.int? ds with
    | some ns => .ok (.int ns.sum) p
    | none => .stuck
  | _, _ => .stuck
theorem sum_d : CallD K mg (rSum K) gSum := by
  intro pa Av W σ H p Q vs ds b k hd h
  unfold gSum at h
  split at h
  · split at h
    · next ns e =>
      obtain ⟨v, rfl, hv⟩ := drs1 hd
      cases hv with
      | lst h1 n1 q1 =>
        rw [allInt e] at q1
        exact ⟨_, ns, rfl, .of (by rw [← q1.ints]; exact h1), h _ H (Ext.refl H) (.int _) k⟩
    · exact h.elim
  · exact h.elim
def gAll : List D → List D → R D
  | [.lst ds], p => match allOf D.bl? ds with
    | some ns => .ok (.bl (ns.all id)) p
    | none => .stuck
  | _, _ => .stuck
def gAny : List D → List D → R D
  | [.lst ds], p => match allOf D.bl? ds with
    | some ns => .ok (.bl (ns.any id)) p
    | none => .stuck
  | _, _ => .stuck
theorem all_d : CallD K mg (rAll K) gAll := by
  intro pa Av W σ H p Q vs ds b k hd h
  unfold gAll at h
  split at h
  · split at h
    · next ns e =>
      obtain ⟨v, rfl, hv⟩ := drs1 hd
      cases hv with
      | lst h1 n1 q1 =>
        rw [allBl e] at q1
        exact ⟨_, ns, rfl, .of (by rw [← q1.bls]; exact h1), h _ H (Ext.refl H) (.bl _) k⟩
    · exact h.elim
  · exact h.elim
theorem any_d : CallD K mg (rAny K) gAny := by
  intro pa Av W σ H p Q vs ds b k hd h
  unfold gAny at h
  split at h
  · split at h
    · next ns e =>
      obtain ⟨v, rfl, hv⟩ := drs1 hd
      cases hv with
      | lst h1 n1 q1 =>
        rw [allBl e] at q1
        exact ⟨_, ns, rfl, .of (by rw [← q1.bls]; exact h1), h _ H (Ext.refl H) (.bl _) k⟩
    · exact h.elim
  · exact h.elim
def gAbs : List D → List D → R D
  | [.int i], p => .ok (.int (if i < 0 then -i else i)) p
  | _, _ => .stuck
theorem abs_d : CallD K mg (fun xs H Q => ∃ i, xs = [.int i] ∧ Q (.int (if i < 0 then -i else i)) H) gAbs := by
  intro pa Av W σ H p Q vs ds b k hd h
  unfold gAbs at h
  split at h
  · obtain ⟨v, rfl, hv⟩ := drs1 hd
    cases hv
    exact ⟨_, rfl, h _ H (Ext.refl H) (.int _) k⟩
  · exact h.elim
def gMax2 : List D → List D → R D
  | [.int i, .int j], p => .ok (.int (if j > i then j else i)) p
  | _, _ => .stuck
def gMin2 : List D → List D → R D
  | [.int i, .int j], p => .ok (.int (if j < i then j else i)) p
  | _, _ => .stuck
theorem max2_d : CallD K mg (fun xs H Q => ∃ i j, xs = [.int i, .int j] ∧ Q (.int (if j > i then j else i)) H) gMax2 := by
  intro pa Av W σ H p Q vs ds b k hd h
  unfold gMax2 at h
  split at h
  · obtain ⟨v, w, rfl, hv, hw⟩ := drs2 hd
    cases hv; cases hw
    exact ⟨_, _, rfl, h _ H (Ext.refl H) (.int _) k⟩
  · exact h.elim
theorem min2_d : CallD K mg (fun xs H Q => ∃ i j, xs = [.int i, .int j] ∧ Q (.int (if j < i then j else i)) H) gMin2 := by
  intro pa Av W σ H p Q vs ds b k hd h
  unfold gMin2 at h
  split at h
  · obtain ⟨v, w, rfl, hv, hw⟩ := drs2 hd
    cases hv; cases hw
    exact ⟨_, _, rfl, h _ H (Ext.refl H) (.int _) k⟩
  · exact h.elim
def gInt : List D → List D → R D
  | [.int i], p => .ok (.int i) p
  | [.bl c], p => .ok (.int (if c then 1 else 0)) p
  | [.str x], p => match PySem.intText? x with
    | some n => if x.length ≤ 640 then .ok (.int n) p else .stuck
    | none => .stuck
  | _, _ => .stuck
def rIntA : List V → Hp → VK → Prop := fun xs H Q => ((∃ i, xs = [.int i] ∧ Q (.int i) H) ∨ ∃ k, xs = [.bl k] ∧ Q (.int (if k then 1 else 0)) H) ∨ (∃ a n, xs = [.str a] ∧ PySem.intText? a = some n ∧ a.length ≤ 640 ∧ Q (.int n) H)
theorem call_intA : CallR X (.type "int") rIntA := call_int1.or call_int_str
theorem int_d : CallD K mg rIntA gInt := by
  intro pa Av W σ H p Q vs ds b k hd h
  unfold gInt at h
  split at h
  · obtain ⟨v, rfl, hv⟩ := drs1 hd
    cases hv
    exact .inl (.inl ⟨_, rfl, h _ H (Ext.refl H) (.int _) k⟩)
  · obtain ⟨v, rfl, hv⟩ := drs1 hd
    cases hv
    exact .inl (.inr ⟨_, rfl, h _ H (Ext.refl H) (.int _) k⟩)
  · split at h
    · next n e =>
      obtain ⟨v, rfl, hv⟩ := drs1 hd
      cases hv
      obtain ⟨q, h⟩ := D.ite_ok (Z := PE1 K mg pa Av W σ H Q) id h
      exact .inr ⟨_, n, rfl, e, q, h _ H (Ext.refl H) (.int _) k⟩
    · exact h.elim
  · exact h.elim
def gStr : List D → List D → R D
  | [.int i], p => if i.natAbs.log2 < 1920 then .ok (.str (toString i)) p else .stuck
  | _, _ => .stuck
theorem str_d : CallD K mg (fun xs H Q => ∃ i, xs = [.int i] ∧ i.natAbs.log2 < 1920 ∧ Q (.str (toString i)) H) gStr := by
  intro pa Av W σ H p Q vs ds b k hd h
  unfold gStr at h
  split at h
  · obtain ⟨v, rfl, hv⟩ := drs1 hd
    cases hv
    obtain ⟨q, h⟩ := D.ite_ok (Z := PE1 K mg pa Av W σ H Q) id h
    exact ⟨_, rfl, q, h _ H (Ext.refl H) (.str _) k⟩
  · exact h.elim
def gGcd : List D → List D → R D
  | [.int i, .int j], p => .ok (.int ((Nat.gcd i.natAbs j.natAbs : Nat) : Int)) p
  | _, _ => .stuck
theorem gcd_d : CallD K mg rGcd gGcd := by
  intro pa Av W σ H p Q vs ds b k hd h
  unfold gGcd at h
  split at h
  · obtain ⟨v, w, rfl, hv, hw⟩ := drs2 hd
    cases hv; cases hw
    exact ⟨_, _, rfl, h _ H (Ext.refl H) (.int _) k⟩
  · exact h.elim

/-! ### isinstance of data -/
def D.ty : D → Option String
  | .non => some "NoneType"
  | .bl _ => some "bool"
  | .int _ => some "int"
  | .str _ => some "str"
  | .lst _ => some "list"
  | .tup _ => some "tuple"
  | .dk _ _ => some "dict"
  | .dt _ _ => some "dict"
  | _ => none
def tyIs (a b : String) : Bool := a == b || (a == "bool" && b == "int")
def tyAll : List String := ["NoneType", "bool", "int", "str", "list", "tuple", "dict"]
theorem ty_mem {d : D} {a : String} (h : d.ty = some a) : a ∈ tyAll := by
  cases d <;> first
    | (cases h; done)
    | (injection h with h; subst h; decide)
theorem kitB_all : (tyAll.all fun a => ["bool", "int", "str", "list", "tuple", "dict"].all fun b => decide (kitB a b = some (tyIs a b))) = true := by decide +kernel
theorem kitB_is {a b : String} (ha : a ∈ tyAll) (hb : b ∈ ["bool", "int", "str", "list", "tuple", "dict"]) : kitB a b = some (tyIs a b) :=
  of_decide_eq_true (List.all_eq_true.mp (List.all_eq_true.mp kitB_all a ha) b hb)
theorem dr_ty {pa : Addr} {Av : List Addr} {H : Hp} {v : V} {d : D} {a : String} (h : DR K mg pa Av H v d) (e : d.ty = some a) : TyX K H v (.type a) := by
  cases h <;> first
    | (cases e; done)
    | (injection e with e; subst e; first
        | exact .base .non | exact .base (.bl _) | exact .base (.int _) | exact .base (.str _) | exact .base (.lst (by assumption)) | exact .base (.dK (by assumption)) | exact .base (.dT (by assumption))
        | (rename_i h q
           rcases h with ⟨h | ⟨o, h⟩, _⟩ | ⟨o, its, n, hk, hc, _⟩
           · exact .base (.tup h)
           · exact .fTuple h
           · exact .kTuple hk hc))
def fIsTy (b : String) (f : FE) : FE := fun ρ p => (f ρ p).bnd fun d p => match d.ty with
  | some a => .ok (.bl (tyIs a b)) p
  | none => .stuck
def fIsTys (bs : List String) (f : FE) : FE := fun ρ p => (f ρ p).bnd fun d p => match d.ty with
  | some a => .ok (.bl (bs.any (tyIs a))) p
  | none => .stuck
theorem de_isTy {b : String} {e : Expr} {p1 p2 : Pos} {f : FE} (he : DE X W e f) (hm : X.mg "isinstance" = none) (hmb : X.mg (Str.ofString b) = none) (hb : b ∈ ["bool", "int", "str", "list", "tuple", "dict"] := by decide) (hg : Gl X "isinstance" := by rfl) (hgb : Gl X (Str.ofString b) := by rfl)
    (hv : bootBuiltins "isinstance" = some (.builtin "isinstance") := by decide +kernel) (hvb : bootBuiltins (Str.ofString b) = some (.type b) := by decide +kernel) (hn : Str.ofString b ≠ "__name__" := by decide) (hd : (Str.ofString b == ("__debug__" : Str)) = false := by decide)
    (hs : starEach [e, .Name (Str.ofString b) p2] X.env = (false, eval e X.env) :: starEach [.Name (Str.ofString b) p2] X.env := by rfl) (hs2 : starEach [.Name (Str.ofString b) p2] X.env = (false, eval (.Name (Str.ofString b) p2) X.env) :: starEach [] X.env := by rfl)
    (hpl : (backTo pos (starEach [.Name (Str.ofString b) p2] X.env)).any (·.1) = false := by rfl) :
    DE X W (.Call (.Name "isinstance" p1) [e, .Name (Str.ofString b) p2] [] pos) (fIsTy b f) :=
  (pe_callB call_isi hg hm hv (pa_cons he (pa_cons (pe_bltn (v := .ty b) hgb hmb hvb rfl hn hd) pa_nil hs2) hs) (by decide) (by decide) hs hpl).imp fun σ H Q h => by
    obtain ⟨pa, Av, ρ, p, r, h⟩ := h
    refine seqE (Z := fun H r => PE1 X.K X.mg pa Av W σ H Q r) r (fun _ _ _ _ h => h) id h fun d p1 v H1 e1 hd r1 h1 => ?_
    have h1 := PE1.later e1 r1.pen.live h1
    split at h1
    · next a ea => exact ⟨v, .ty b, .type a, .type b, tyIs a b, rfl, .ty b, dr_ty hd ea, kit_ty (kitB_is (ty_mem ea) hb), h1 _ H1 (Ext.refl _) (.bl _) r1.pen⟩
    · exact h1.elim
theorem kitAny_is {a : String} (ha : a ∈ tyAll) : ∀ {bs : List String}, (∀ b ∈ bs, b ∈ ["bool", "int", "str", "list", "tuple", "dict"]) → PySem.W.kitAny K (.type a) (bs.map Value.type) = some (bs.any (tyIs a))
  | [], _ => rfl
  | b :: bs, h => by
    have h1 := kit_ty (K := K) (kitB_is ha (h b List.mem_cons_self))
    show (match PySem.W.kitOne K (.type a) (.type b) with | some true => some true | some false => PySem.W.kitAny K (.type a) (bs.map Value.type) | none => none) = some (tyIs a b || bs.any (tyIs a))
    rw [h1]
    cases tyIs a b with
    | true => rfl
    | false => exact kitAny_is ha fun c hc => h c (List.mem_cons_of_mem _ hc)
theorem clsv_all : ∀ bs : List String, Paired ClsV (bs.map V.ty) (bs.map Value.type)
  | [] => .nil
  | b :: bs => .cons (.ty b) (clsv_all bs)
theorem de_isTy2 {b c : String} {e : Expr} {k1 : Nat} {p1 p2 p3 p4 : Pos} {f : FE} (he : DE X W e f) (hm : X.mg "isinstance" = none) (hmb : X.mg (Str.ofString b) = none) (hmc : X.mg (Str.ofString c) = none)
    (hbc : ∀ x ∈ [b, c], x ∈ ["bool", "int", "str", "list", "tuple", "dict"] := by decide) (hg : Gl X "isinstance" := by rfl) (hgb : Gl X (Str.ofString b) := by rfl) (hgc : Gl X (Str.ofString c) := by rfl)
    (hv : bootBuiltins "isinstance" = some (.builtin "isinstance") := by decide +kernel) (hvb : bootBuiltins (Str.ofString b) = some (.type b) := by decide +kernel) (hn : Str.ofString b ≠ "__name__" := by decide) (hd : (Str.ofString b == ("__debug__" : Str)) = false := by decide)
    (hvc : bootBuiltins (Str.ofString c) = some (.type c) := by decide +kernel) (hnc : Str.ofString c ≠ "__name__" := by decide) (hdc : (Str.ofString c == ("__debug__" : Str)) = false := by decide)
    (hs : ∀ t, starEach [e, t] X.env = (false, eval e X.env) :: starEach [t] X.env := by intro _; rfl) :
    DE X W (.Call (.Name "isinstance" p1) [e, .Tuple [.Name (Str.ofString b) p2, .Name (Str.ofString c) p3] k1 p4] [] pos) (fIsTys [b, c] f) :=
  (pe_callB call_isiT hg hm hv (pa_cons he (pa_cons (pe_tup (pa_cons (pe_bltn (v := .ty b) hgb hmb hvb rfl hn hd) (pa_cons (pe_bltn (v := .ty c) hgc hmc hvc rfl hnc hdc) pa_nil))) pa_nil) (hs _)) (by decide) (by decide) (hs _)).imp fun σ H Q h => by
    obtain ⟨pa, Av, ρ, p, r, h⟩ := h
    refine seqE (Z := fun H r => PE1 X.K X.mg pa Av W σ H Q r) r (fun _ _ _ _ h => h) id h fun d p1 v H1 e1 hd r1 h1 => ?_
    have h1 := PE1.later e1 r1.pen.live h1
    refine ⟨by show 2 ≤ sizeLine; decide, fun t ht => ?_⟩
    split at h1
    · next a ea =>
      refine ⟨v, t, [.ty b, .ty c], .type a, [.type b, .type c], [b, c].any (tyIs a), rfl, upd_same, clsv_all [b, c], ?_, kitAny_is (ty_mem ea) hbc, h1 _ _ (Ext.new ht) (.bl _) (r1.pen.new r1.base ht)⟩
      exact dr_ty (dr_new ht hd) ea
    · exact h1.elim
/-! ### list(range(..)) -/
def fRgL (f : FE) : FL := fun ρ p => (f ρ p).bnd fun d p => match d with
  | .int n => if n ≤ 16777216 ∧ -16777216 ≤ n then .ok ((List.range n.toNat).map fun i => .int (0 + (i : Nat))) p else .stuck
  | _ => .stuck
def fRgL2 (f g : FE) : FL := fun ρ p => (f ρ p).bnd fun d p => (g ρ p).bnd fun e p => match d, e with
  | .int m, .int n => if n ≤ 8388608 ∧ -8388608 ≤ n ∧ m ≤ 8388608 ∧ -8388608 ≤ m then .ok ((List.range (n - m).toNat).map fun i => .int (m + (i : Nat))) p else .stuck
  | _, _ => .stuck
theorem drs_rg (pa : Addr) (Av : List Addr) (H : Hp) (a b : Int) : DRs K mg pa Av H (rgV a b) ((List.range (b - a).toNat).map fun i => .int (a + (i : Nat))) := by
  unfold rgV
  have : ∀ l : List Nat, DRs K mg pa Av H (l.map fun i => V.int (a + (i : Nat))) (l.map fun i => D.int (a + (i : Nat))) := fun l => by
    induction l with
    | nil => exact .nil
    | cons x l ih => exact .cons (.int _) ih
  exact this _
theorem dl_listRange {a : Expr} {p1 p2 p3 : Pos} {f : FE} (hc : X.calm = true) (hml : X.mg "list" = none) (hmr : X.mg "range" = none) (ha : DE X W a f) (hg : Gl X "list" := by rfl) (hgr : Gl X "range" := by rfl) (na : starEach [a] X.env = (false, eval a X.env) :: starEach [] X.env := by rfl) :
    DL X W (.Call (.Name "list" p1) [.Call (.Name "range" p2) [a] [] p3] [] pos) (fRgL f) := (pe_listRg hc hg hml (prg_1 hgr hmr ha na)).imp fun σ H Q h => by
  obtain ⟨pa, Av, ρ, p, r, h⟩ := h
  refine seqE (Z := fun H r => PL1 X.K X.mg pa Av W σ H Q r) r (fun _ _ _ _ h => h) id h fun d p1 v H1 e1 hd r1 h1 => ?_
  have h1 := PL1.later e1 r1.pen.live h1
  cases d with
  | int n =>
    cases hd
    obtain ⟨q, h1⟩ := D.ite_ok (Z := PL1 X.K X.mg pa Av W σ H1 Q) id h1
    refine ⟨n, rfl, ⟨by omega, by omega, by omega, by omega, by omega⟩, ans_lst r1.base r1.pen ?_ h1⟩
    have := drs_rg (K := X.K) (mg := X.mg) pa Av H1 0 n
    rw [Int.sub_zero] at this
    exact this
  | _ => exact h1.elim
end
end Dn
end

section
set_option Elab.async false
set_option linter.all false
set_option maxRecDepth 100000
set_option maxHeartbeats 4000000
namespace Dn
open PySem PySem.Spec PyProof.Rows L2
/-! ### statements -/
inductive Fl where
  | nx | rt (d : D) | bk | ct
abbrev FS := List Sl → List D → R (Fl × List Sl)
structure Fr where
  H0 : Hp
  Av0 : List Addr
  O0 : List Addr
def Own (ρ : List Sl) (σ : L2.St) (a : Addr) : Prop := ∃ (i : Nat) (ds : List D), ρ[i]? = some (Sl.own ds) ∧ σ[i]? = some (some (.ref a))
structure SI (pa : Addr) (F : Fr) (Av : List Addr) (σ : L2.St) (ρ : List Sl) (H : Hp) : Prop where
  ext : ∀ a o, a ≠ pa → a ∉ F.O0 → F.H0 a = some o → o.nt = true → H a = some o
  own : ∀ a, Own ρ σ a → a ∈ F.O0 ∨ F.H0 a = none
  av : ∀ a ∈ Av, a ∈ F.Av0 ∨ F.H0 a = none
  keep : ∀ a ∈ F.Av0, a ∈ Av ∨ a ∈ F.O0
  liv : ∀ a, F.H0 a ≠ none → H a ≠ none
  av0 : ∀ a ∈ F.Av0, F.H0 a ≠ none
section
variable {K : PySem.W.Frag} {mg : Str → Option Value} {pa : Addr} {F : Fr} {Av Av' : List Addr} {σ σ' : L2.St} {ρ ρ' : List Sl} {H H' : Hp} {p p' : List D} {W : WX}
theorem SI.step (s : SI pa F Av σ ρ H) (e : Ext pa H H') (hp : H' pa ≠ none) : SI pa F Av σ ρ H' :=
  ⟨fun a o n z h t => e a o n (s.ext a o n z h t) t, s.own, s.av, s.keep, fun a h => e.live hp (s.liv a h), s.av0⟩
def PS1 (K : PySem.W.Frag) (mg : Str → Option Value) (pa : Addr) (W : WX) (F : Fr) (D : Ends) : R (Fl × List Sl) → Prop
  | .ok (.nx, ρ') p' => ∀ Av' σ' H', Rel K mg pa Av' σ' H' ρ' p' → SI pa F Av' σ' ρ' H' → D.nx σ' H'
  | .ok (.ct, ρ') p' => ∀ Av' σ' H', Rel K mg pa Av' σ' H' ρ' p' → SI pa F Av' σ' ρ' H' → D.ct σ' H'
  | .ok (.bk, ρ') p' => ∀ Av' σ' H', Rel K mg pa Av' σ' H' ρ' p' → SI pa F Av' σ' ρ' H' → D.bk σ' H'
  | .ok (.rt d, _) p' => ∀ Av' σ' ρ' v H', Rel K mg pa Av' σ' H' ρ' p' → SI pa F Av' σ' ρ' H' → DR K mg pa Av' H' v d → D.rt v H'
  | .exc c ks ds p' => ∀ Av' σ' ρ' C x fs H', Rel K mg pa Av' σ' H' ρ' p' → SI pa F Av' σ' ρ' H' → mg c = some (.ref C) → F.H0 x = none → H' x = some (.xd fs) → fs.map (·.1) = ks → DRs K mg pa Av' H' (fs.map (·.2)) ds → W (.ref C) (some x) σ' H'
  | .stuck => False
def TSd (K : PySem.W.Frag) (mg : Str → Option Value) (W : WX) (f : FS) : TS := fun D σ H => ∃ pa Av ρ p F, Rel K mg pa Av σ H ρ p ∧ SI pa F Av σ ρ H ∧ PS1 K mg pa W F D (f ρ p)
theorem px_of {c : Str} {ks : List Str} {ds q : List D} {D : Ends} (r : Rel K mg pa Av σ H ρ p) (s : SI pa F Av σ ρ H) (h : PS1 K mg pa W F D (.exc c ks ds q)) : PX K mg pa Av W σ H c ks ds q := fun C x fs H' h1 h2 h3 h4 h5 h6 h7 => by
  refine h Av σ ρ C x fs H' (r.step h2 h7) (s.step h2 h7.live) h1 ?_ h4 h5 h6
  cases z : F.H0 x with
  | none => rfl
  | some o => exact absurd h3 (s.liv x (by rw [z]; simp))
/-- an expression, then the rest -/
theorem seqSE {f : FE} {k : Dn.D → List Dn.D → R (Fl × List Sl)} {Q : VK} {E : Ends} (r : Rel K mg pa Av σ H ρ p) (s : SI pa F Av σ ρ H) (h : PS1 K mg pa W F E ((f ρ p).bnd k))
    (go : ∀ d p1 v H1, Ext pa H H1 → DR K mg pa Av H1 v d → Rel K mg pa Av σ H1 ρ p1 → SI pa F Av σ ρ H1 → PS1 K mg pa W F E (k d p1) → Q v H1) : TD K mg W f σ H Q := by
  refine ⟨pa, Av, ρ, p, r, ?_⟩
  cases e : f ρ p with
  | ok d p1 =>
    rw [e] at h
    exact fun v H1 e1 hd hk => go d p1 v H1 e1 hd (r.step e1 hk) (s.step e1 hk.live) h
  | exc c ks ds p1 =>
    rw [e] at h
    exact px_of r s h
  | stuck =>
    rw [e] at h
    exact h.elim
theorem seqST {f : FT} {k : Bool → List Dn.D → R (Fl × List Sl)} {Q : Bool → Hp → Prop} {E : Ends} (r : Rel K mg pa Av σ H ρ p) (s : SI pa F Av σ ρ H) (h : PS1 K mg pa W F E ((f ρ p).bnd k))
    (go : ∀ d p1 H1, Ext pa H H1 → Rel K mg pa Av σ H1 ρ p1 → SI pa F Av σ ρ H1 → PS1 K mg pa W F E (k d p1) → Q d H1) : TB K mg W f σ H Q := by
  refine ⟨pa, Av, ρ, p, r, ?_⟩
  cases e : f ρ p with
  | ok d p1 =>
    rw [e] at h
    exact fun H1 e1 hk => go d p1 H1 e1 (r.step e1 hk) (s.step e1 hk.live) h
  | exc c ks ds p1 =>
    rw [e] at h
    exact px_of r s h
  | stuck =>
    rw [e] at h
    exact h.elim
/-- a new list, then the rest -/
theorem seqSL {f : FL} {k : List Dn.D → List Dn.D → R (Fl × List Sl)} {Q : VK} {E : Ends} (r : Rel K mg pa Av σ H ρ p) (s : SI pa F Av σ ρ H) (h : PS1 K mg pa W F E ((f ρ p).bnd k))
    (go : ∀ ds p1 a vs H1, Ext pa H H1 → H a = none → H1 a = some (.lst vs) → DRs K mg pa (a :: Av) H1 vs ds → PenOk K mg pa (a :: Av) H1 p1 → PS1 K mg pa W F E (k ds p1) → Q (.ref a) H1) : TL K mg W f σ H Q := by
  refine ⟨pa, Av, ρ, p, r, ?_⟩
  cases e : f ρ p with
  | ok d p1 =>
    rw [e] at h
    exact fun a vs H1 e1 hn ha hd hk => go d p1 a vs H1 e1 hn ha hd hk h
  | exc c ks ds p1 =>
    rw [e] at h
    exact px_of r s h
  | stuck =>
    rw [e] at h
    exact h.elim

/-! ### slots -/
theorem set_cases {α : Type} {l : List α} {i j : Nat} {x y : α} (h : (l.set i x)[j]? = some y) : (j = i ∧ y = x ∧ i < l.length) ∨ (j ≠ i ∧ l[j]? = some y) := by
  by_cases e : i = j
  · subst e
    by_cases hl : i < l.length
    · rw [List.getElem?_set_self hl] at h
      cases h
      exact .inl ⟨rfl, rfl, hl⟩
    · rw [List.getElem?_eq_none (by rw [List.length_set]; omega)] at h
      cases h
  · rw [List.getElem?_set_ne e] at h
    exact .inr ⟨fun z => e z.symm, h⟩
theorem Rel.setV {i : Nat} {v : V} {d : D} (r : Rel K mg pa Av σ H ρ p) (h : DR K mg pa Av H v d) : Rel K mg pa Av (σ.set i (some v)) H (ρ.set i (.val d)) p where
  val := fun j e hj => by
    rcases set_cases hj with ⟨rfl, e1, hl⟩ | ⟨hn, hj⟩
    · cases e1
      exact ⟨v, List.getElem?_set_self (by rw [← r.len]; exact hl), h⟩
    · obtain ⟨w, h1, h2⟩ := r.val j e hj
      exact ⟨w, by rw [List.getElem?_set_ne (Ne.symm hn)]; exact h1, h2⟩
  own := fun j ds hj => by
    rcases set_cases hj with ⟨rfl, e1, hl⟩ | ⟨hn, hj⟩
    · cases e1
    · obtain ⟨a, vs, h1, h2⟩ := r.own j ds hj
      exact ⟨a, vs, by rw [List.getElem?_set_ne (Ne.symm hn)]; exact h1, h2⟩
  sep := fun j k ds es hj hk e => by
    rcases set_cases hj with ⟨_, e1, _⟩ | ⟨hn, hj⟩
    · cases e1
    · rcases set_cases hk with ⟨_, e1, _⟩ | ⟨hm, hk⟩
      · cases e1
      · rw [List.getElem?_set_ne (Ne.symm hn), List.getElem?_set_ne (Ne.symm hm)] at e
        exact r.sep j k ds es hj hk e
  pen := r.pen
  base := r.base
  len := by rw [List.length_set, List.length_set]; exact r.len
theorem SI.setV {i : Nat} {v : V} {d : D} (s : SI pa F Av σ ρ H) : SI pa F Av (σ.set i (some v)) (ρ.set i (.val d)) H :=
  ⟨s.ext, fun a ⟨j, ds, h1, h2⟩ => by
    rcases set_cases h1 with ⟨_, e1, _⟩ | ⟨hn, h1⟩
    · cases e1
    · rw [List.getElem?_set_ne (Ne.symm hn)] at h2
      exact s.own a ⟨j, ds, h1, h2⟩, s.av, s.keep, s.liv, s.av0⟩
/-- a slot gets a new list of its own -/
theorem Rel.setO {i : Nat} {a : Addr} {vs : List V} {ds : List D} (r : Rel K mg pa Av σ H ρ p) (e : Ext pa H H') (hn : H a = none) (ha : H' a = some (.lst vs)) (hd : DRs K mg pa (a :: Av) H' vs ds) (hk : PenOk K mg pa (a :: Av) H' p') :
    Rel K mg pa (a :: Av) (σ.set i (some (.ref a))) H' (ρ.set i (.own ds)) p' := by
  have mv : Mv Av (a :: Av) H H' := ⟨fun a o n h t => (r.base.mv e).ext a o n h t, fun c hc => (List.mem_cons.mp hc).elim (fun z => .inr (z ▸ hn)) .inl⟩
  have npa : a ≠ pa := fun z => r.pen.live (z ▸ hn)
  refine ⟨fun j d hj => ?_, fun j es hj => ?_, fun j k es fs hj hk' q => ?_, hk, ⟨List.mem_cons_of_mem _ r.base.mem, fun c hc => ?_⟩, by rw [List.length_set, List.length_set]; exact r.len⟩
  · rcases set_cases hj with ⟨_, e1, _⟩ | ⟨hne, hj⟩
    · cases e1
    · obtain ⟨w, h1, h2⟩ := r.val j d hj
      exact ⟨w, by rw [List.getElem?_set_ne (Ne.symm hne)]; exact h1, mv.dr h2⟩
  · rcases set_cases hj with ⟨rfl, e1, hl⟩ | ⟨hne, hj⟩
    · cases e1
      exact ⟨a, vs, List.getElem?_set_self (by rw [← r.len]; exact hl), List.mem_cons_self, npa, ha, hd⟩
    · obtain ⟨c, ws, h1, h2, h3, h4, h5⟩ := r.own j es hj
      exact ⟨c, ws, by rw [List.getElem?_set_ne (Ne.symm hne)]; exact h1, List.mem_cons_of_mem _ h2, h3, e _ _ h3 h4, mv.drs h5⟩
  · have apart : ∀ (m : Nat) (gs : List D), ρ[m]? = some (Sl.own gs) → σ[m]? ≠ some (some (V.ref a)) := fun m gs hm z => by
      obtain ⟨c, ws, h1, _, _, h4, _⟩ := r.own m gs hm
      rw [h1] at z
      cases z
      rw [hn] at h4
      cases h4
    have at_i : ∀ m : Nat, m = i → i < ρ.length → (σ.set i (some (V.ref a)))[m]? = some (some (V.ref a)) := fun m z hl => by
      subst z
      exact List.getElem?_set_self (by rw [← r.len]; exact hl)
    rcases set_cases hj with ⟨z1, e1, hl⟩ | ⟨hne, hj⟩
    · rcases set_cases hk' with ⟨z2, e2, hl2⟩ | ⟨hne2, hk2⟩
      · rw [z1, z2]
      · rw [at_i j z1 hl, List.getElem?_set_ne (Ne.symm hne2)] at q
        exact absurd q.symm (apart k fs hk2)
    · rcases set_cases hk' with ⟨z2, e2, hl2⟩ | ⟨hne2, hk2⟩
      · rw [at_i k z2 hl2, List.getElem?_set_ne (Ne.symm hne)] at q
        exact absurd q (apart j es hj)
      · rw [List.getElem?_set_ne (Ne.symm hne), List.getElem?_set_ne (Ne.symm hne2)] at q
        exact r.sep j k es fs hj hk2 q
  · rcases List.mem_cons.mp hc with z | z
    · rw [z, ha]; simp
    · exact e.live hk.live (r.base.liv c z)
theorem SI.setO {i : Nat} {a : Addr} {ds : List D} (s : SI pa F Av σ ρ H) (e : Ext pa H H') (hp : H' pa ≠ none) (hn : H a = none) : SI pa F (a :: Av) (σ.set i (some (.ref a))) (ρ.set i (.own ds)) H' := by
  have h0 : F.H0 a = none := by
    cases z : F.H0 a with
    | none => rfl
    | some o => exact absurd hn (s.liv a (by rw [z]; simp))
  refine ⟨(s.step e hp).ext, fun c ⟨j, es, h1, h2⟩ => ?_, fun c hc => ?_, fun c hc => (s.keep c hc).elim (fun z => .inl (List.mem_cons_of_mem _ z)) .inr, (s.step e hp).liv, s.av0⟩
  · rcases set_cases h1 with ⟨rfl, e1, hl⟩ | ⟨hne, h1⟩
    · have : (σ.set j (some (V.ref a)))[j]? = some (some (.ref a)) := by
        by_cases hs : j < σ.length
        · exact List.getElem?_set_self hs
        · rw [List.getElem?_eq_none (by rw [List.length_set]; omega)] at h2
          cases h2
      rw [this] at h2
      cases h2
      exact .inr h0
    · rw [List.getElem?_set_ne (Ne.symm hne)] at h2
      exact s.own c ⟨j, es, h1, h2⟩
  · rcases List.mem_cons.mp hc with z | z
    · exact .inr (z ▸ h0)
    · exact s.av c z
/-- an own list is changed -/
theorem Rel.chg {i : Nat} {a : Addr} {vs : List V} {es : List D} {ds : List D} (r : Rel K mg pa Av σ H ρ p) (hi : ρ[i]? = some (Sl.own es)) (ha : σ[i]? = some (some (.ref a))) (hd : DRs K mg pa Av H vs ds) :
    Rel K mg pa Av σ (upd H a (.lst vs)) (ρ.set i (.own ds)) p := by
  obtain ⟨a', ws, h1, hA, hpa, hH, _⟩ := r.own i es hi
  rw [ha] at h1
  cases h1
  have mv : Mv Av Av H (upd H a (.lst vs)) := ⟨fun c o n h _ => by rw [upd_ne (fun z : c = a => n (z ▸ hA))]; exact h, fun c h => .inl h⟩
  refine ⟨fun j d hj => ?_, fun j fs hj => ?_, fun j k fs gs hj hk q => ?_, ?_, ⟨r.base.mem, fun c hc => ?_⟩, by rw [List.length_set]; exact r.len⟩
  · rcases set_cases hj with ⟨_, e1, _⟩ | ⟨hne, hj⟩
    · cases e1
    · obtain ⟨w, h1, h2⟩ := r.val j d hj
      exact ⟨w, h1, mv.dr h2⟩
  · rcases set_cases hj with ⟨rfl, e1, hl⟩ | ⟨hne, hj⟩
    · cases e1
      exact ⟨a, vs, ha, hA, hpa, upd_same, mv.drs hd⟩
    · obtain ⟨c, ws', h1, h2, h3, h4, h5⟩ := r.own j fs hj
      have nca : c ≠ a := fun z => by
        subst z
        exact hne (r.sep j i fs es hj hi (h1.trans ha.symm))
      exact ⟨c, ws', h1, h2, h3, by rw [upd_ne nca]; exact h4, mv.drs h5⟩
  · have back : ∀ (m : Nat) (us : List D), (ρ.set i (Sl.own ds))[m]? = some (Sl.own us) → ∃ us', ρ[m]? = some (Sl.own us') := fun m us hm => by
      rcases set_cases hm with ⟨z, _, _⟩ | ⟨_, hm⟩
      · exact ⟨es, z ▸ hi⟩
      · exact ⟨us, hm⟩
    obtain ⟨f', hj'⟩ := back j fs hj
    obtain ⟨g', hk'⟩ := back k gs hk
    exact r.sep j k f' g' hj' hk' q
  · obtain ⟨ws', h1, h2⟩ := r.pen.at'
    exact ⟨⟨ws', by rw [upd_ne (Ne.symm hpa)]; exact h1, mv.drs h2⟩, tabs_upd_lst r.pen.tabs hH⟩
  · by_cases z : c = a
    · rw [z, upd_same]; simp
    · rw [upd_ne z]; exact r.base.liv c hc
theorem SI.chg {i : Nat} {a : Addr} {vs : List V} {es ds : List D} (s : SI pa F Av σ ρ H) (hi : ρ[i]? = some (Sl.own es)) (ha : σ[i]? = some (some (.ref a))) : SI pa F Av σ (ρ.set i (.own ds)) (upd H a (.lst vs)) := by
  have ho := s.own a ⟨i, es, hi, ha⟩
  refine ⟨fun c o n z h t => ?_, fun c ⟨j, fs, h1, h2⟩ => ?_, s.av, s.keep, fun c h => ?_, s.av0⟩
  · have nca : c ≠ a := fun q => by
      subst q
      rcases ho with q | q
      · exact z q
      · rw [q] at h; cases h
    rw [upd_ne nca]
    exact s.ext c o n z h t
  · rcases set_cases h1 with ⟨rfl, _, _⟩ | ⟨_, h1⟩
    · rw [ha] at h2
      cases h2
      exact ho
    · exact s.own c ⟨j, fs, h1, h2⟩
  · by_cases z : c = a
    · rw [z, upd_same]; simp
    · rw [upd_ne z]; exact s.liv c h
/-- an own list is given away: it changes no more -/
theorem Rel.free {i : Nat} {a : Addr} {es : List D} (r : Rel K mg pa Av σ H ρ p) (hi : ρ[i]? = some (Sl.own es)) (ha : σ[i]? = some (some (.ref a))) :
    Rel K mg pa (Av.filter (· ≠ a)) σ H (ρ.set i (.val (.lst es))) p ∧ DR K mg pa (Av.filter (· ≠ a)) H (.ref a) (.lst es) := by
  obtain ⟨a', ws, h1, hA, hpa, hH, hq⟩ := r.own i es hi
  rw [ha] at h1
  cases h1
  have mv : Mv Av (Av.filter (· ≠ a)) H H := ⟨fun c o n h _ => h, fun c h => .inl ((List.mem_filter.mp h).1)⟩
  have na : a ∉ Av.filter (· ≠ a) := fun z => by simpa using (List.mem_filter.mp z).2
  have hdr : DR K mg pa (Av.filter (· ≠ a)) H (.ref a) (.lst es) := .lst hH na (mv.drs hq)
  refine ⟨⟨fun j d hj => ?_, fun j fs hj => ?_, fun j k fs gs hj hk q => ?_, ?_, ⟨?_, fun c hc => r.base.liv c ((List.mem_filter.mp hc).1)⟩, by rw [List.length_set]; exact r.len⟩, hdr⟩
  · rcases set_cases hj with ⟨rfl, e1, _⟩ | ⟨hne, hj⟩
    · cases e1
      exact ⟨_, ha, hdr⟩
    · obtain ⟨w, h1, h2⟩ := r.val j d hj
      exact ⟨w, h1, mv.dr h2⟩
  · rcases set_cases hj with ⟨_, e1, _⟩ | ⟨hne, hj⟩
    · cases e1
    · obtain ⟨c, ws', h1, h2, h3, h4, h5⟩ := r.own j fs hj
      have nca : c ≠ a := fun z => by
        subst z
        exact hne (r.sep j i fs es hj hi (h1.trans ha.symm))
      exact ⟨c, ws', h1, List.mem_filter.mpr ⟨h2, by simpa using nca⟩, h3, h4, mv.drs h5⟩
  · rcases set_cases hj with ⟨_, e1, _⟩ | ⟨_, hj⟩
    · cases e1
    · rcases set_cases hk with ⟨_, e1, _⟩ | ⟨_, hk⟩
      · cases e1
      · exact r.sep j k fs gs hj hk q
  · obtain ⟨ws', h1, h2⟩ := r.pen.at'
    exact ⟨⟨ws', h1, mv.drs h2⟩, r.pen.tabs⟩
  · exact List.mem_filter.mpr ⟨r.base.mem, by simpa using (Ne.symm hpa)⟩
theorem SI.free {i : Nat} {a : Addr} {es : List D} (s : SI pa F Av σ ρ H) (hi : ρ[i]? = some (Sl.own es)) (ha : σ[i]? = some (some (.ref a))) : SI pa F (Av.filter (· ≠ a)) σ (ρ.set i (.val (.lst es))) H := by
  refine ⟨s.ext, fun c ⟨j, fs, h1, h2⟩ => ?_, fun c hc => s.av c ((List.mem_filter.mp hc).1), fun c hc => ?_, s.liv, s.av0⟩
  · rcases set_cases h1 with ⟨_, e1, _⟩ | ⟨_, h1⟩
    · cases e1
    · exact s.own c ⟨j, fs, h1, h2⟩
  · by_cases z : c = a
    · subst z
      rcases s.own c ⟨i, es, hi, ha⟩ with q | q
      · exact .inr q
      · exact absurd q (s.av0 c hc)
    · rcases s.keep c hc with q | q
      · exact .inl (List.mem_filter.mpr ⟨q, by simpa using z⟩)
      · exact .inr q
end
end Dn
end

section
set_option Elab.async false
set_option linter.all false
set_option maxRecDepth 100000
set_option maxHeartbeats 4000000
namespace Dn
open PySem PySem.Spec PyProof.Rows L2
theorem _root_.L2.PG.imp {X : Cx} {e : Expr} {t t' : TG} (h : PG X e t) (i : ∀ v σ H Q, t' v σ H Q → t v σ H Q) : PG X e t' := ⟨fun pins s σ H v u Q I r q => h.run pins s σ H v u Q I r (i v σ H Q q)⟩
theorem _root_.L2.PGs.imp {X : Cx} {e : List Expr} {t t' : TGs} (h : PGs X e t) (i : ∀ v σ H Q, t' v σ H Q → t v σ H Q) : PGs X e t' := ⟨fun pins s σ H v u Q I r q => h.run pins s σ H v u Q I r (i v σ H Q q)⟩
theorem _root_.L2.PI.imp {X : Cx} {tg e : Expr} {t t' : TI} (h : PI X tg e t) (i : ∀ σ H R, t' σ H R → t σ H R) : PI X tg e t' := ⟨fun pins s σ H R I q => h.run pins s σ H R I (i σ H R q)⟩
theorem _root_.L2.PTs.imp {X : Cx} {e : List Expr} {t t' : TT} (h : PTs X e t) (i : ∀ σ H R, t' σ H R → t σ H R) : PTs X e t' := ⟨fun pins s σ H R I q => h.run pins s σ H R I (i σ H R q)⟩
section
variable {X : Cx} {W : WX} {pos : Pos}
abbrev DS (X : Cx) (W : WX) (s : Stmt) (f : FS) : Prop := PS X s (TSd X.K X.mg W f)
abbrev DSs (X : Cx) (W : WX) (s : List Stmt) (f : FS) : Prop := PSs X s (TSd X.K X.mg W f)
/-! ### blocks -/
def sNil : FS := fun ρ p => .ok (.nx, ρ) p
def sSeq (f g : FS) : FS := fun ρ p => (f ρ p).bnd fun x p => match x with
  | (.nx, ρ) => g ρ p
  | x => .ok x p
theorem dss_nil : DSs X W [] sNil := L2.PSs.imp pss_nil fun D σ H h => by
  obtain ⟨pa, Av, ρ, p, F, r, s, h⟩ := h
  exact h Av σ H r s
theorem dss_cons {st : Stmt} {rest : List Stmt} {f g : FS} (h1 : DS X W st f) (h2 : DSs X W rest g) : DSs X W (st :: rest) (sSeq f g) := L2.PSs.imp (pss_cons h1 h2) fun D σ H h => by
  obtain ⟨pa, Av, ρ, p, F, r, s, h⟩ := h
  refine ⟨pa, Av, ρ, p, F, r, s, ?_⟩
  unfold sSeq at h
  cases e : f ρ p with
  | ok x p1 =>
    rw [e] at h
    obtain ⟨fl, ρ1⟩ := x
    cases fl with
    | nx => exact fun Av' σ' H' r' s' => ⟨pa, Av', ρ1, p1, F, r', s', h⟩
    | rt d => exact h
    | bk => exact h
    | ct => exact h
  | exc c ks ds q =>
    rw [e] at h
    exact h
  | stuck =>
    rw [e] at h
    exact h.elim
theorem dss_one {st : Stmt} {f : FS} (h1 : DS X W st f) : DSs X W [st] f := pss_one h1
/-! ### small statements -/
def sDrop (f : FE) : FS := fun ρ p => (f ρ p).bnd fun _ p => .ok (.nx, ρ) p
def sRet (f : FE) : FS := fun ρ p => (f ρ p).bnd fun d p => .ok (.rt d, ρ) p
def sRetN : FS := fun ρ p => .ok (.rt .non, ρ) p
def sIf (c : FT) (f g : FS) : FS := fun ρ p => (c ρ p).bnd fun b p => if b then f ρ p else g ρ p
def sSet (i : Nat) (f : FE) : FS := fun ρ p => (f ρ p).bnd fun d p => .ok (.nx, ρ.set i (.val d)) p
def sSetO (i : Nat) (f : FL) : FS := fun ρ p => (f ρ p).bnd fun ds p => .ok (.nx, ρ.set i (.own ds)) p
theorem ds_expr {e : Expr} {f : FE} (he : DE X W e f) (hs : swapsWith e none pos.line X.env = pure false := by rfl) : DS X W (.Expr e pos) (sDrop f) := L2.PS.imp (ps_expr he hs) fun D σ H h => by
  obtain ⟨pa, Av, ρ, p, F, r, s, h⟩ := h
  exact seqSE r s h fun d p1 v H1 e1 hd r1 s1 h1 => h1 Av σ H1 r1 s1
theorem ds_ret {e : Expr} {f : FE} (he : DE X W e f) : DS X W (.Return (some e) pos) (sRet f) := L2.PS.imp (ps_ret he) fun D σ H h => by
  obtain ⟨pa, Av, ρ, p, F, r, s, h⟩ := h
  exact seqSE r s h fun d p1 v H1 e1 hd r1 s1 h1 => h1 Av σ ρ v H1 r1 s1 hd
theorem ds_retN : DS X W (.Return none pos) sRetN := L2.PS.imp ps_retN fun D σ H h => by
  obtain ⟨pa, Av, ρ, p, F, r, s, h⟩ := h
  exact h Av σ ρ .non H r s .non
theorem ds_pass : DS X W (.Pass pos) sNil := L2.PS.imp ps_pass fun D σ H h => by
  obtain ⟨pa, Av, ρ, p, F, r, s, h⟩ := h
  exact h Av σ H r s
def sCont : FS := fun ρ p => .ok (.ct, ρ) p
def sBrk : FS := fun ρ p => .ok (.bk, ρ) p
theorem ds_cont : DS X W (.Continue pos) sCont := L2.PS.imp ps_continue fun D σ H h => by
  obtain ⟨pa, Av, ρ, p, F, r, s, h⟩ := h
  exact h Av σ H r s
theorem ds_brk : DS X W (.Break pos) sBrk := L2.PS.imp ps_break fun D σ H h => by
  obtain ⟨pa, Av, ρ, p, F, r, s, h⟩ := h
  exact h Av σ H r s
theorem ds_if {c : Expr} {a b : List Stmt} {fc : FT} {f g : FS} (hc : DT X W c fc) (ha : DSs X W a f) (hb : DSs X W b g) : DS X W (.If c a b pos) (sIf fc f g) := L2.PS.imp (ps_if hc ha hb) fun D σ H h => by
  obtain ⟨pa, Av, ρ, p, F, r, s, h⟩ := h
  refine seqST r s h fun b p1 H1 e1 r1 s1 h1 => ?_
  cases b with
  | true => exact ⟨pa, Av, ρ, p1, F, r1, s1, h1⟩
  | false => exact ⟨pa, Av, ρ, p1, F, r1, s1, h1⟩
theorem ds_set {i : Nat} {x : Str} {e : Expr} {f : FE} {pos' : Pos} (hN : X.N.Nodup) (he : DE X W e f) (hi : X.N[i]? = some x := by rfl) (hx : Loc X.env.scope x := by first | exact .inl rfl | exact .inr rfl) (hs : swapsWith e (some (.Name x pos')) pos.line X.env = pure false := by rfl)
    (hf : X.fn x = true ∨ X.env.scope.names.lookup x = some .local := by first | exact .inl rfl | exact .inr rfl) : DS X W (.Assign [.Name x pos'] e pos) (sSet i f) := L2.PS.imp (ps_set hN hi hx he hs hf) fun D σ H h => by
  obtain ⟨pa, Av, ρ, p, F, r, s, h⟩ := h
  exact seqSE r s h fun d p1 v H1 e1 hd r1 s1 h1 => h1 Av _ H1 (r1.setV hd) s1.setV
theorem ds_setO {i : Nat} {x : Str} {e : Expr} {f : FL} {pos' : Pos} (hN : X.N.Nodup) (he : DL X W e f) (hi : X.N[i]? = some x := by rfl) (hx : Loc X.env.scope x := by first | exact .inl rfl | exact .inr rfl) (hs : swapsWith e (some (.Name x pos')) pos.line X.env = pure false := by rfl)
    (hf : X.fn x = true ∨ X.env.scope.names.lookup x = some .local := by first | exact .inl rfl | exact .inr rfl) : DS X W (.Assign [.Name x pos'] e pos) (sSetO i f) := L2.PS.imp (ps_set hN hi hx he hs hf) fun D σ H h => by
  obtain ⟨pa, Av, ρ, p, F, r, s, h⟩ := h
  exact seqSL r s h fun ds p1 a vs H1 e1 hn ha hd hk h1 => h1 (a :: Av) _ H1 (r.setO e1 hn ha hd hk) (s.setO e1 hk.live hn)
/-- return of an own list: it is given away -/
def sRetO (i : Nat) : FS := fun ρ p => match ρ[i]? with
  | some (.own ds) => .ok (.rt (.lst ds), ρ) p
  | _ => .stuck
theorem ds_retO (i : Nat) {x : Str} {px : Pos} (hN : X.N[i]? = some x := by rfl) (hv : Vis X.env.scope x := by first | exact Or.inl rfl | exact Or.inr (Or.inl rfl) | exact Or.inr (Or.inr rfl)) (hd : (x == ("__debug__" : Str)) = false := by decide)
    (hcd : (x == ("__classdict__" : Str)) = false := by decide) : DS X W (.Return (some (.Name x px)) pos) (sRetO i) := L2.PS.imp (ps_ret (pe_var hN hv hd hcd)) fun D σ H h => by
  obtain ⟨pa, Av, ρ, p, F, r, s, h⟩ := h
  unfold sRetO at h
  split at h
  · next ds e =>
    obtain ⟨a, vs, h1, _⟩ := r.own i ds e
    obtain ⟨r', d'⟩ := r.free e h1
    exact ⟨.ref a, h1, h _ _ _ _ H r' (s.free e h1) d'⟩
  · exact h.elim
/-- an own list is kept as a value from here on -/
def sFree (i : Nat) : FS := fun ρ p => match ρ[i]? with
  | some (.own ds) => .ok (.nx, ρ.set i (.val (.lst ds))) p
  | _ => .stuck
/-- .. ahead of a statement -/
theorem ds_free (i : Nat) {st : Stmt} {f : FS} (h : DS X W st f) : DS X W st (sSeq (sFree i) f) := L2.PS.imp h fun D σ H h => by
  obtain ⟨pa, Av, ρ, p, F, r, s, h⟩ := h
  unfold sSeq sFree at h
  cases e : ρ[i]? with
  | none => rw [e] at h; exact h.elim
  | some x =>
    rw [e] at h
    cases x with
    | none => exact h.elim
    | val d => exact h.elim
    | own ds =>
      obtain ⟨a, vs, h1, _⟩ := r.own i ds e
      obtain ⟨r', d'⟩ := r.free e h1
      exact ⟨pa, _, _, p, F, r', s.free e h1, h⟩
/-! ### an own list is changed -/
theorem tyV_own {K : PySem.W.Frag} {H : Hp} {a : Addr} {vs : List V} (h : H a = some (.lst vs)) : tyV K "list" (.ref a) H := .inl ⟨rfl, _, .of h⟩
def sApp (i : Nat) (f : FE) : FS := fun ρ p => match ρ[i]? with
  | some (.own ds) => (f ρ p).bnd fun d p => if ds.length < 16777216 then .ok (.nx, ρ.set i (.own (ds ++ [d]))) p else .stuck
  | _ => .stuck
theorem ds_app (i : Nat) {e : Expr} {f : FE} (hp : PE X e (tBM X.K "list" rAppend (tVar i) (tCons (TD X.K X.mg W f) tNil))) (hs : swapsWith e none pos.line X.env = pure false := by rfl) : DS X W (.Expr e pos) (sApp i f) := L2.PS.imp (ps_expr hp hs) fun D σ H h => by
  obtain ⟨pa, Av, ρ, p, F, r, s, h⟩ := h
  unfold sApp at h
  split at h
  · next ds e =>
    obtain ⟨a, vs, h1, h2, h3, h4, h5⟩ := r.own i ds e
    refine ⟨.ref a, h1, tyV_own h4, ?_⟩
    refine seqSE r s h fun d p1 v H1 e1 hd r1 s1 h1' => ?_
    by_cases hz : ds.length < 16777216
    · rw [if_pos hz] at h1'
      have h5' := (r.base.mv e1).drs h5
      refine ⟨a, vs, v, rfl, rfl, e1 _ _ h3 h4, by rw [h5.length, line24]; exact hz, ?_⟩
      exact h1' Av σ _ (r1.chg e h1 (h5'.app (.cons hd .nil))) (s1.chg e h1)
    · rw [if_neg hz] at h1'
      exact h1'.elim
  · exact h.elim
def sExt (i : Nat) (f : FE) : FS := fun ρ p => match ρ[i]? with
  | some (.own ds) => (f ρ p).bnd fun d p => match d with
    | .lst es => if ds.length + es.length ≤ 16777216 then .ok (.nx, ρ.set i (.own (ds ++ es))) p else .stuck
    | _ => .stuck
  | _ => .stuck
theorem ds_ext (i : Nat) {e : Expr} {f : FE} (hp : PE X e (tBM X.K "list" rExtend (tVar i) (tCons (TD X.K X.mg W f) tNil))) (hs : swapsWith e none pos.line X.env = pure false := by rfl) : DS X W (.Expr e pos) (sExt i f) := L2.PS.imp (ps_expr hp hs) fun D σ H h => by
  obtain ⟨pa, Av, ρ, p, F, r, s, h⟩ := h
  unfold sExt at h
  split at h
  · next ds e =>
    obtain ⟨a, vs, h1, h2, h3, h4, h5⟩ := r.own i ds e
    refine ⟨.ref a, h1, tyV_own h4, ?_⟩
    refine seqSE r s h fun d p1 v H1 e1 hd r1 s1 h1' => ?_
    cases d with
    | lst es =>
      by_cases hz : ds.length + es.length ≤ 16777216
      · have h1' : PS1 X.K X.mg pa W F D (if ds.length + es.length ≤ 16777216 then R.ok (Fl.nx, ρ.set i (Sl.own (ds ++ es))) p1 else R.stuck) := h1'
        rw [if_pos hz] at h1'
        have h5' := (r.base.mv e1).drs h5
        cases hd with
        | lst g1 n1 q1 =>
          refine ⟨a, _, vs, _, rfl, rfl, e1 _ _ h3 h4, g1, by rw [h5.length, q1.length, line24]; exact hz, ?_⟩
          exact h1' Av σ _ (r1.chg e h1 (h5'.app q1)) (s1.chg e h1)
      · have h1' : PS1 X.K X.mg pa W F D (if ds.length + es.length ≤ 16777216 then R.ok (Fl.nx, ρ.set i (Sl.own (ds ++ es))) p1 else R.stuck) := h1'
        rw [if_neg hz] at h1'
        exact h1'.elim
    | _ => exact h1'.elim
  · exact h.elim
/-- own[k] = e -/
def sSub (i : Nat) (f g : FE) : FS := fun ρ p => match ρ[i]? with
  | some (.own ds) => (f ρ p).bnd fun d p => (g ρ p).bnd fun k p => match k with
    | .int k => match ixN ds.length k with
      | some j => .ok (.nx, ρ.set i (.own (ds.set j d))) p
      | none => .stuck
    | _ => .stuck
  | _ => .stuck
theorem ds_sub (i : Nat) {tg e : Expr} {f g : FE} (hp : PS X (.Assign [tg] e pos) (tAsg (TD X.K X.mg W f) (L2.gSub (tVar i) (TD X.K X.mg W g) rSetL))) : DS X W (.Assign [tg] e pos) (sSub i f g) := L2.PS.imp hp fun D σ H h => by
  obtain ⟨pa, Av, ρ, p, F, r, s, h⟩ := h
  unfold sSub at h
  split at h
  · next ds e =>
    obtain ⟨a, vs, h1, h2, h3, h4, h5⟩ := r.own i ds e
    refine seqSE r s h fun d p1 v H1 e1 hd r1 s1 h1' => ?_
    refine ⟨.ref a, h1, ?_⟩
    refine seqSE r1 s1 h1' fun k p2 w H2 e2 hk r2 s2 h2' => ?_
    cases k with
    | int k =>
      cases hk
      cases q : ixN ds.length k with
      | some j =>
        have h2' : PS1 X.K X.mg pa W F D (match ixN ds.length k with | some j => R.ok (Fl.nx, ρ.set i (Sl.own (ds.set j d))) p2 | none => R.stuck) := h2'
        rw [q] at h2'
        have h4' := e2 _ _ h3 (e1 _ _ h3 h4)
        refine ⟨a, vs, k, j, rfl, rfl, h4', by rw [h5.length]; exact q, ?_⟩
        exact h2' Av σ _ (r2.chg e h1 (((r1.base.mv e2).drs ((r.base.mv e1).drs h5)).set j ((r1.base.mv e2).dr hd))) (s2.chg e h1)
      | none =>
        have h2' : PS1 X.K X.mg pa W F D (match ixN ds.length k with | some j => R.ok (Fl.nx, ρ.set i (Sl.own (ds.set j d))) p2 | none => R.stuck) := h2'
        rw [q] at h2'
        exact h2'.elim
    | _ => exact h2'.elim
  · exact h.elim
/-- own[k] read at once -/
def fIxO (i : Nat) (g : FE) : FE := fun ρ p => match ρ[i]? with
  | some (.own ds) => (g ρ p).bnd fun k p => gIx [] (.lst ds) k p
  | _ => .stuck
theorem de_ixO (i : Nat) {a b : Expr} {g : FE} (ha : PE X a (tVar i)) (hb : DE X W b g) (hs : PlainIx b := by exact fun _ _ => rfl) : DE X W (.Subscript a b pos) (fIxO i g) := (pe_ix ix_list ha hb hs).imp fun σ H Q h => by
  obtain ⟨pa, Av, ρ, p, r, h⟩ := h
  unfold fIxO at h
  split at h
  · next ds e =>
    obtain ⟨a, vs, h1, h2, h3, h4, h5⟩ := r.own i ds e
    refine ⟨.ref a, h1, ?_⟩
    refine seqE (Z := fun H r => PE1 X.K X.mg pa Av W σ H Q r) r (fun _ _ _ _ h => h) id h fun d p1 v H1 e1 hd r1 h1' => ?_
    have h1' := PE1.later e1 r1.pen.live h1'
    unfold gIx at h1'
    cases d with
    | int k =>
      cases hd
      dsimp only at h1'
      split at h1'
      · next z hz =>
        obtain ⟨x, hx, hr⟩ := atI_drs ((r.base.mv e1).drs h5) hz
        exact ⟨a, vs, k, x, rfl, rfl, .of (e1 _ _ h3 h4), hx, h1' _ H1 (Ext.refl _) hr r1.pen⟩
      · exact h1'.elim
    | _ => exact h1'.elim
  · exact h.elim
/-- len(own) -/
def fLenO (i : Nat) : FE := fun ρ p => match ρ[i]? with
  | some (.own ds) => .ok (.int ds.length) p
  | _ => .stuck
theorem de_lenO (i : Nat) {e : Expr} (hp : PE X e (tCB (fun xs H Q => ∃ p ys, xs = [.ref p] ∧ (SqL X.K H p ys ∨ SqT X.K H p ys) ∧ Q (.int ys.length) H) (tCons (tVar i) tNil))) : DE X W e (fLenO i) := hp.imp fun σ H Q h => by
  obtain ⟨pa, Av, ρ, p, r, h⟩ := h
  unfold fLenO at h
  split at h
  · next ds e =>
    obtain ⟨a, vs, h1, h2, h3, h4, h5⟩ := r.own i ds e
    exact ⟨.ref a, h1, a, vs, rfl, .inl (.of h4), by rw [h5.length]; exact h _ H (Ext.refl _) (.int _) r.pen⟩
  · exact h.elim
/-- tuple(own) -/
def fTupO (i : Nat) : FE := fun ρ p => match ρ[i]? with
  | some (.own ds) => .ok (.tup ds) p
  | _ => .stuck
theorem de_tupO (i : Nat) {e : Expr} (hp : PE X e (tCB (fun xs H Q => ∃ p ys, xs = [.ref p] ∧ ((SqL X.K H p ys ∧ ∀ l, H l = none → Q (.ref l) (upd H l (.tup ys))) ∨ (SqT X.K H p ys ∧ Q (.ref p) H))) (tCons (tVar i) tNil))) : DE X W e (fTupO i) := hp.imp fun σ H Q h => by
  obtain ⟨pa, Av, ρ, p, r, h⟩ := h
  unfold fTupO at h
  split at h
  · next ds e =>
    obtain ⟨a, vs, h1, h2, h3, h4, h5⟩ := r.own i ds e
    exact ⟨.ref a, h1, a, vs, rfl, .inl ⟨.of h4, ans_tup r.base r.pen h5 h⟩⟩
  · exact h.elim
/-- own.append(other.pop(e)) -/
def sAppPop (i j : Nat) (f : FE) : FS := fun ρ p => match ρ[i]?, ρ[j]? with
  | some (.own ds), some (.own es) => if i ≠ j then (f ρ p).bnd fun k p => match k with
    | .int k => if -(2 ^ 63) ≤ k ∧ k < 2 ^ 63 then (match seqIndex? k es.length with
      | some n => match es[n]? with
        | some d => if ds.length < 16777216 then .ok (.nx, (ρ.set j (.own (es.eraseIdx n))).set i (.own (ds ++ [d]))) p else .stuck
        | none => .stuck
      | none => .stuck) else .stuck
    | _ => .stuck else .stuck
  | _, _ => .stuck
theorem ds_appPop (i j : Nat) {e : Expr} {f : FE} (hp : PE X e (tBM X.K "list" rAppend (tVar i) (tCons (tBM X.K "list" rPopAt (tVar j) (tCons (TD X.K X.mg W f) tNil)) tNil))) (hs : swapsWith e none pos.line X.env = pure false := by rfl) : DS X W (.Expr e pos) (sAppPop i j f) := L2.PS.imp (ps_expr hp hs) fun D σ H h => by
  obtain ⟨pa, Av, ρ, p, F, r, s, h⟩ := h
  unfold sAppPop at h
  split at h
  · next ds es ei ej =>
    obtain ⟨a, vs, h1, h2, h3, h4, h5⟩ := r.own i ds ei
    obtain ⟨b, ws, g1, g2, g3, g4, g5⟩ := r.own j es ej
    by_cases hij : i ≠ j
    · rw [if_pos hij] at h
      have nab : a ≠ b := fun z => hij (r.sep i j ds es ei ej (by rw [h1, g1, z]))
      refine ⟨.ref a, h1, tyV_own h4, .ref b, g1, tyV_own g4, ?_⟩
      refine seqSE r s h fun k p1 v H1 e1 hd r1 s1 h1' => ?_
      cases k with
      | int k =>
        cases hd
        dsimp only at h1'
        split at h1'
        · next hk =>
          split at h1'
          · next n hn =>
            split at h1'
            · next d hd =>
              split at h1'
              · next hz =>
                obtain ⟨x, hx, hr⟩ := ((r.base.mv e1).drs g5).get hd
                have h4' := e1 _ _ h3 h4
                have g4' := e1 _ _ g3 g4
                refine ⟨b, ws, k, n, x, rfl, rfl, g4', hk.1, hk.2, by rw [g5.length]; exact hn, hx, ?_⟩
                refine ⟨a, vs, x, rfl, rfl, by rw [upd_ne nab]; exact h4', by rw [h5.length, line24]; exact hz, ?_⟩
                have r2 := r1.chg ej g1 (((r.base.mv e1).drs g5).erase n)
                have s2 := s1.chg (ds := es.eraseIdx n) (vs := ws.eraseIdx n) ej g1
                have mv : Mv Av Av H1 (upd H1 b (.lst (ws.eraseIdx n))) := ⟨fun c o n h _ => by rw [upd_ne (fun z : c = b => n (z ▸ g2))]; exact h, fun c h => .inl h⟩
                have ei' : (ρ.set j (Sl.own (es.eraseIdx n)))[i]? = some (Sl.own ds) := by rw [List.getElem?_set_ne (Ne.symm hij)]; exact ei
                exact h1' Av σ _ (r2.chg ei' h1 ((mv.drs ((r.base.mv e1).drs h5)).app (.cons (mv.dr hr) .nil))) (s2.chg ei' h1)
              · exact h1'.elim
            · exact h1'.elim
          · exact h1'.elim
        · exact h1'.elim
      | _ => exact h1'.elim
    · rw [if_neg hij] at h
      exact h.elim
  · exact h.elim
/-- pen[k] = e -/
def sPen (t f g : FE) : FS := fun ρ p => (f ρ p).bnd fun d p => (t ρ p).bnd fun z p => (g ρ p).bnd fun k p => match z, k with
  | .pen, .int k => match ixN p.length k with
    | some j => .ok (.nx, ρ) (p.set j d)
    | none => .stuck
  | _, _ => .stuck
theorem ds_pen {tg e : Expr} {t f g : FE} (hp : PS X (.Assign [tg] e pos) (tAsg (TD X.K X.mg W f) (L2.gSub (TD X.K X.mg W t) (TD X.K X.mg W g) rSetL))) : DS X W (.Assign [tg] e pos) (sPen t f g) := L2.PS.imp hp fun D σ H h => by
  obtain ⟨pa, Av, ρ, p, F, r, s, h⟩ := h
  refine seqSE r s h fun d p1 v H1 e1 hd r1 s1 h1' => ?_
  refine seqSE r1 s1 h1' fun z p2 w H2 e2 hz r2 s2 h2' => ?_
  refine seqSE r2 s2 h2' fun k p3 x H3 e3 hk r3 s3 h3' => ?_
  cases z with
  | pen =>
    cases k with
    | int k =>
      dsimp only at h3'
      split at h3'
      · next j q =>
        cases hk
        have hz' := (r2.base.mv e3).dr hz
        cases hz'
        obtain ⟨vs, hp, hq⟩ := r3.pen.at'
        have hd3 := (r2.base.mv e3).dr ((r1.base.mv e2).dr hd)
        refine ⟨pa, vs, k, j, rfl, rfl, hp, by rw [hq.length]; exact q, ?_⟩
        have ex : Ext pa H3 (upd H3 pa (.lst (vs.set j v))) := .of fun c o n h => by rw [upd_ne n]; exact h
        have pk : PenOk X.K X.mg pa Av (upd H3 pa (.lst (vs.set j v))) (p3.set j d) := ⟨⟨_, upd_same, (r3.base.mv ex).drs (hq.set j hd3)⟩, tabs_upd_lst r3.pen.tabs hp⟩
        exact h3' Av σ _ (r3.step ex pk) (s3.step ex pk.live)
      · exact h3'.elim
    | _ => exact h3'.elim
  | _ => exact h3'.elim
end

/-! ### targets -/
section
variable {X : Cx} {W : WX} {pos : Pos}
abbrev HG := D → List Sl → Option (List Sl)
abbrev HGs := List D → List Sl → Option (List Sl)
structure Post (K : PySem.W.Frag) (mg : Str → Option Value) (pa : Addr) (Av : List Addr) (is : List Nat) (σ : L2.St) (H : Hp) (ρ : List Sl) (p : List D) (σ' : L2.St) (ρ' : List Sl) : Prop where
  rel : Rel K mg pa Av σ' H ρ' p
  si : ∀ F, SI pa F Av σ ρ H → SI pa F Av σ' ρ' H
  wip : ∀ vs : List Nat, (∀ i ∈ is, i ∈ vs) → wipe σ' vs = wipe σ vs
def TGd (K : PySem.W.Frag) (mg : Str → Option Value) (is : List Nat) (h : HG) : TG := fun v σ H Q => ∃ pa Av ρ p d ρ', Rel K mg pa Av σ H ρ p ∧ DR K mg pa Av H v d ∧ h d ρ = some ρ' ∧ ∀ σ', Post K mg pa Av is σ H ρ p σ' ρ' → Q σ' H
def TGds (K : PySem.W.Frag) (mg : Str → Option Value) (is : List Nat) (h : HGs) : TGs := fun vs σ H Q => ∃ pa Av ρ p ds ρ', Rel K mg pa Av σ H ρ p ∧ DRs K mg pa Av H vs ds ∧ h ds ρ = some ρ' ∧ ∀ σ', Post K mg pa Av is σ H ρ p σ' ρ' → Q σ' H
abbrev DG (X : Cx) (e : Expr) (is : List Nat) (h : HG) : Prop := PG X e (TGd X.K X.mg is h)
abbrev DGs (X : Cx) (e : List Expr) (is : List Nat) (h : HGs) : Prop := PGs X e (TGds X.K X.mg is h)
theorem wipe_set {i : Nat} {v : Option V} : ∀ {vs : List Nat} {σ : L2.St}, i ∈ vs → wipe (σ.set i v) vs = wipe σ vs
  | [], _, h => absurd h (by simp)
  | w :: vs, σ, h => by
    by_cases e : i ∈ vs
    · show (wipe (σ.set i v) vs).set w none = (wipe σ vs).set w none
      rw [wipe_set e]
    · have ew : i = w := by
        rcases List.mem_cons.mp h with z | z
        · exact z
        · exact absurd z e
      subst ew
      show (wipe (σ.set i v) vs).set i none = (wipe σ vs).set i none
      have : ∀ us : List Nat, i ∉ us → wipe (σ.set i v) us = (wipe σ us).set i v := fun us => by
        induction us with
        | nil => exact fun _ => rfl
        | cons u us ih =>
          intro hn
          show (wipe (σ.set i v) us).set u none = ((wipe σ us).set u none).set i v
          rw [ih fun z => hn (List.mem_cons_of_mem _ z), List.set_comm]
          exact fun z => hn (by rw [z]; exact List.mem_cons_self)
      rw [this vs e, List.set_set]
def hName (i : Nat) : HG := fun d ρ => some (ρ.set i (.val d))
theorem dg_name (i : Nat) {x : Str} (hN : X.N.Nodup) (hi : X.N[i]? = some x := by rfl) (hx : Loc X.env.scope x := by first | exact .inl rfl | exact .inr rfl) (hf : X.fn x = true ∨ X.env.scope.names.lookup x = some .local := by first | exact .inl rfl | exact .inr rfl) : DG X (.Name x pos) [i] (hName i) :=
  L2.PG.imp (pg_name hN hi hx hf) fun v σ H Q h => by
    obtain ⟨pa, Av, ρ, p, d, ρ', r, hd, e, k⟩ := h
    cases e
    exact k _ ⟨r.setV hd, fun F s => s.setV, fun vs hv => wipe_set (hv i List.mem_cons_self)⟩
def hNil : HGs := fun ds ρ => match ds with
  | [] => some ρ
  | _ => none
def hCons (h : HG) (k : HGs) : HGs := fun ds ρ => match ds with
  | d :: ds => match h d ρ with
    | some ρ => k ds ρ
    | none => none
  | [] => none
theorem dgs_nil : DGs X [] [] hNil := L2.PGs.imp pgs_nil fun vs σ H Q h => by
  obtain ⟨pa, Av, ρ, p, ds, ρ', r, hd, e, k⟩ := h
  cases ds with
  | nil =>
    cases hd
    cases e
    exact ⟨rfl, k _ ⟨r, fun F s => s, fun _ _ => rfl⟩⟩
  | cons d ds => cases e
theorem dgs_cons {e : Expr} {es : List Expr} {is js : List Nat} {h : HG} {g : HGs} (h1 : DG X e is h) (h2 : DGs X es js g) (he : (assignEach (e :: es) X.env).map (·.2) = assign e X.env :: (assignEach es X.env).map (·.2) := by rfl) : DGs X (e :: es) (is ++ js) (hCons h g) := L2.PGs.imp (pgs_cons h1 h2 he) fun vs σ H Q q => by
  obtain ⟨pa, Av, ρ, p, ds, ρ', r, hd, e, k⟩ := q
  cases ds with
  | nil => cases e
  | cons d ds =>
    cases hd with
    | cons g1 g2 =>
      unfold hCons at e
      dsimp only at e
      split at e
      · next ρ1 e1 =>
        refine ⟨_, _, rfl, pa, Av, ρ, p, d, ρ1, r, g1, e1, fun σ1 P1 => ?_⟩
        refine ⟨pa, Av, ρ1, p, ds, ρ', P1.rel, g2, e, fun σ2 P2 => k σ2 ⟨P2.rel, fun F s => P2.si F (P1.si F s), fun vs hv => ?_⟩⟩
        rw [P2.wip vs fun i hi => hv i (List.mem_append_right _ hi), P1.wip vs fun i hi => hv i (List.mem_append_left _ hi)]
      · cases e
def hTup (n : Nat) (h : HGs) : HG := fun d ρ => match d with
  | .tup ds => if ds.length = n then h ds ρ else none
  | _ => none
def hLst (n : Nat) (h : HGs) : HG := fun d ρ => match d with
  | .lst ds => if ds.length = n then h ds ρ else none
  | _ => none
theorem dg_tup {es : List Expr} {k n : Nat} {is : List Nat} {h : HGs} (hc : X.calm = true) (hg : DGs X es is h) (hn : (assignEach es X.env).length = n := by rfl) (hst : (assignEach es X.env).findIdx? (·.1) = none := by rfl) : DG X (.Tuple es k pos) is (hTup n h) :=
  L2.PG.imp (pg_tup hc hg hn hst) fun v σ H Q q => by
    obtain ⟨pa, Av, ρ, p, d, ρ', r, hd, e, k⟩ := q
    unfold hTup at e
    split at e
    · next ds =>
      cases hd with
      | tup h1 q1 =>
        split at e
        · next hl => exact ⟨_, _, rfl, h1.sq, q1.length.trans hl, pa, Av, ρ, p, ds, ρ', r, q1, e, k⟩
        · cases e
    · cases e
theorem dg_lst {es : List Expr} {k n : Nat} {is : List Nat} {h : HGs} (hc : X.calm = true) (hg : DGs X es is h) (hn : (assignEach es X.env).length = n := by rfl) (hst : (assignEach es X.env).findIdx? (·.1) = none := by rfl) : DG X (.Tuple es k pos) is (hLst n h) :=
  L2.PG.imp (pg_lst hc hg hn hst) fun v σ H Q q => by
    obtain ⟨pa, Av, ρ, p, d, ρ', r, hd, e, k⟩ := q
    unfold hLst at e
    split at e
    · next ds =>
      cases hd with
      | lst h1 n1 q1 =>
        split at e
        · next hl => exact ⟨_, _, rfl, .of h1, q1.length.trans hl, pa, Av, ρ, p, ds, ρ', r, q1, e, k⟩
        · cases e
    · cases e
/-- target = e -/
def sAsg (h : HG) (f : FE) : FS := fun ρ p => (f ρ p).bnd fun d p => match h d ρ with
  | some ρ => .ok (.nx, ρ) p
  | none => .stuck
theorem ds_asg {tg e : Expr} {is : List Nat} {h : HG} {f : FE} (he : DE X W e f) (hg : DG X tg is h) (hs : swapsWithSole [tg] e pos.line X.env = pure false := by rfl) (hw : swappedStores [tg] e X.env = pure none := by rfl) (h1 : (assignEach [tg] X.env).map (·.2) = [assign tg X.env] := by rfl) : DS X W (.Assign [tg] e pos) (sAsg h f) :=
  L2.PS.imp (ps_asg he hg hs hw h1) fun D σ H q => by
    obtain ⟨pa, Av, ρ, p, F, r, s, q⟩ := q
    refine seqSE r s q fun d p1 v H1 e1 hd r1 s1 h1 => ?_
    split at h1
    · next ρ' e => exact ⟨pa, Av, ρ, p1, d, ρ', r1, hd, e, fun σ' P => h1 Av σ' H1 P.rel (P.si F s1)⟩
    · exact h1.elim
end
end Dn
end

section
set_option Elab.async false
set_option linter.all false
set_option maxRecDepth 100000
set_option maxHeartbeats 4000000
namespace Dn
open PySem PySem.Spec PyProof.Rows L2
/-! ### what is walked -/
def WalkD (K : PySem.W.Frag) (mg : Str → Option Value) (pa : Addr) (Av : List Addr) (J : It) (H : Hp) (ds : List D) : Prop :=
  ∀ H' Av', Mv Av Av' H H' → Base pa Av' H' → (∀ (i : Nat) (d : D), ds[i]? = some d → J.go i H' ∧ ∀ x H'', J.yld i H' x H'' → (∀ a o, H' a = some o → H'' a = some o) ∧ DR K mg pa Av' H'' x d) ∧ J.stop ds.length H'
def PI1 (K : PySem.W.Frag) (mg : Str → Option Value) (pa : Addr) (Av : List Addr) (W : WX) (σ : L2.St) (H : Hp) (Q : It → Hp → Prop) : R (List D) → Prop
  | .ok ds p' => ∀ J H', Ext pa H H' → WalkD K mg pa Av J H' ds → PenOk K mg pa Av H' p' → Q J H'
  | .exc c ks ds p' => PX K mg pa Av W σ H c ks ds p'
  | .stuck => False
def TId (K : PySem.W.Frag) (mg : Str → Option Value) (W : WX) (f : FL) : TI := fun σ H Q => ∃ pa Av ρ p, Rel K mg pa Av σ H ρ p ∧ PI1 K mg pa Av W σ H Q (f ρ p)
abbrev DI (X : Cx) (W : WX) (tg e : Expr) (f : FL) : Prop := PI X tg e (TId X.K X.mg W f)
theorem PI1.later {K : PySem.W.Frag} {mg : Str → Option Value} {pa : Addr} {Av : List Addr} {W : WX} {σ : L2.St} {H H1 : Hp} {Q : It → Hp → Prop} {r : R (List D)} (e : Ext pa H H1) (hp : H1 pa ≠ none) (h : PI1 K mg pa Av W σ H Q r) : PI1 K mg pa Av W σ H1 Q r := by
  cases r with
  | ok d p' => exact fun J H' e' => h J H' (e.trans e')
  | exc c ks ds p' => exact PX.later e hp h
  | stuck => exact h
/-- a list, a tuple that stands -/
def fIt (f : FE) : FL := fun ρ p => (f ρ p).bnd fun d p => match items d with
  | some ds => .ok ds p
  | none => .stuck
def fItL (f : FE) : FL := fun ρ p => (f ρ p).bnd fun d p => match d with
  | .lst ds => .ok ds p
  | _ => .stuck
def fItT (f : FE) : FL := fun ρ p => (f ρ p).bnd fun d p => match d with
  | .tup ds => .ok ds p
  | _ => .stuck
section
variable {K : PySem.W.Frag} {mg : Str → Option Value} {pa : Addr} {Av : List Addr} {H : Hp}
theorem walk_lst {a : Addr} {vs : List V} {ds : List D} (h : H a = some (.lst vs)) (n : a ∉ Av) (q : DRs K mg pa Av H vs ds) : WalkD K mg pa Av (Itl K a) H ds := fun H' Av' m b => by
  have h' := m.ext _ _ n h
  refine ⟨fun i d e => ?_, ⟨vs, .of h', by rw [q.length]; exact Nat.le_refl _⟩⟩
  obtain ⟨v, hv, hr⟩ := q.get e
  refine ⟨⟨vs, v, .of h', hv⟩, fun x H'' y => ?_⟩
  obtain ⟨e1, e2⟩ := y
  subst e1
  have := (e2 vs (.of h')).symm.trans hv
  cases this
  exact ⟨fun _ _ z => z, m.dr hr⟩
theorem sqt_mono {H H' : Hp} {Av Av' : List Addr} {a : Addr} {vs : List V} (m : Mv Av Av' H H') (h : SqTa K Av H a vs) : SqT K H' a vs := (m.sqt h).sq
theorem sqt_inj_walk {a : Addr} {vs : List V} {ds : List D} (h : SqTa K Av H a vs) (q : DRs K mg pa Av H vs ds) : WalkD K mg pa Av (Itt K a) H ds := fun H' Av' m b => by
  have h' := (m.sqt h).sq
  refine ⟨fun i d e => ?_, ⟨vs, h', by rw [q.length]; exact Nat.le_refl _⟩⟩
  obtain ⟨v, hv, hr⟩ := q.get e
  refine ⟨⟨vs, v, h', hv⟩, fun x H'' y => ?_⟩
  obtain ⟨e1, e2⟩ := y
  subst e1
  have := (e2 vs h').symm.trans hv
  cases this
  exact ⟨fun _ _ z => z, m.dr hr⟩
end
section
variable {X : Cx} {W : WX} {pos : Pos} {tg : Expr}
theorem di_list {e : Expr} {f : FE} (he : DE X W e f) : DI X W tg e (fItL f) := (pi_list he).imp fun σ H Q h => by
  obtain ⟨pa, Av, ρ, p, r, h⟩ := h
  refine seqE (Z := fun H r => PI1 X.K X.mg pa Av W σ H Q r) r (fun _ _ _ _ h => h) id h fun d p1 v H1 e1 hd r1 h1 => ?_
  have h1 := PI1.later e1 r1.pen.live h1
  cases d with
  | lst ds =>
    cases hd with
    | lst g1 n1 q1 => exact ⟨_, rfl, ⟨_, .of g1⟩, h1 _ H1 (Ext.refl _) (walk_lst g1 n1 q1) r1.pen⟩
  | _ => exact h1.elim
theorem di_tup {e : Expr} {f : FE} (he : DE X W e f) : DI X W tg e (fItT f) := (pi_tup he).imp fun σ H Q h => by
  obtain ⟨pa, Av, ρ, p, r, h⟩ := h
  refine seqE (Z := fun H r => PI1 X.K X.mg pa Av W σ H Q r) r (fun _ _ _ _ h => h) id h fun d p1 v H1 e1 hd r1 h1 => ?_
  have h1 := PI1.later e1 r1.pen.live h1
  cases d with
  | tup ds =>
    cases hd with
    | tup g1 q1 => exact ⟨_, rfl, ⟨_, g1.sq⟩, h1 _ H1 (Ext.refl _) (sqt_inj_walk g1 q1) r1.pen⟩
  | _ => exact h1.elim
/-- range(n), range(m, n) -/
def fItR (f : FE) : FL := fun ρ p => (f ρ p).bnd fun d p => match d with
  | .int n => if -(2 ^ 62) ≤ n ∧ n < 2 ^ 62 then .ok ((List.range n.toNat).map fun i => .int (0 + (i : Nat))) p else .stuck
  | _ => .stuck
def fItR2 (f g : FE) : FL := fun ρ p => (f ρ p).bnd fun d p => (g ρ p).bnd fun e p => match d, e with
  | .int m, .int n => if (-(2 ^ 62) ≤ m ∧ m < 2 ^ 62) ∧ -(2 ^ 62) ≤ n ∧ n < 2 ^ 62 then .ok ((List.range (n - m).toNat).map fun i => .int (m + (i : Nat))) p else .stuck
  | _, _ => .stuck
theorem walk_rg {K : PySem.W.Frag} {mg : Str → Option Value} {pa : Addr} {Av : List Addr} {H : Hp} (lo : Int) (n : Nat) : WalkD K mg pa Av (Itr lo n) H ((List.range n).map fun i => .int (lo + (i : Nat))) := fun H' Av' m b => by
  refine ⟨fun i d e => ?_, by show n ≤ _; rw [List.length_map, List.length_range]; exact Nat.le_refl _⟩
  rw [List.getElem?_map] at e
  cases q : (List.range n)[i]? with
  | none => rw [q] at e; cases e
  | some j =>
    rw [q] at e
    cases e
    have hi : i < n := by
      have := (List.getElem?_eq_some_iff.mp q).1
      rwa [List.length_range] at this
    have hj : j = i := by
      rw [List.getElem?_range hi] at q
      cases q
      rfl
    subst hj
    refine ⟨hi, fun x H'' y => ?_⟩
    obtain ⟨e1, e2⟩ := y
    subst e1 e2
    exact ⟨fun _ _ z => z, .int _⟩
theorem di_rg {a : Expr} {f : FE} {p1 : Pos} (hm : X.mg "range" = none) (he : DE X W a f) (hg : Gl X "range" := by rfl) (hs : starEach [a] X.env = [(false, eval a X.env)] := by rfl) : DI X W tg (.Call (.Name "range" p1) [a] [] pos) (fItR f) := (pi_range1 hg hm (pa_cons he pa_nil hs) hs).imp fun σ H Q h => by
  obtain ⟨pa, Av, ρ, p, r, h⟩ := h
  refine seqE (Z := fun H r => PI1 X.K X.mg pa Av W σ H Q r) r (fun _ _ _ _ h => h) id h fun d p1 v H1 e1 hd r1 h1 => ?_
  have h1 := PI1.later e1 r1.pen.live h1
  cases d with
  | int n =>
    cases hd
    obtain ⟨q, h1⟩ := D.ite_ok (Z := PI1 X.K X.mg pa Av W σ H1 Q) id h1
    exact ⟨n, rfl, q.1, q.2, h1 _ H1 (Ext.refl _) (walk_rg 0 _) r1.pen⟩
  | _ => exact h1.elim
theorem di_rg2 {a b : Expr} {f g : FE} {p1 : Pos} (hm : X.mg "range" = none) (ha : DE X W a f) (hb : DE X W b g) (hg : Gl X "range" := by rfl) (hs : starEach [a, b] X.env = [(false, eval a X.env), (false, eval b X.env)] := by rfl) (hs2 : starEach [b] X.env = [(false, eval b X.env)] := by rfl) :
    DI X W tg (.Call (.Name "range" p1) [a, b] [] pos) (fItR2 f g) := (pi_range2 hg hm (pa_cons ha (pa_cons hb pa_nil hs2) (hs.trans (by rw [hs2]))) hs hs2).imp fun σ H Q h => by
  obtain ⟨pa, Av, ρ, p, r, h⟩ := h
  refine seqE (Z := fun H r => PI1 X.K X.mg pa Av W σ H Q r) r (fun _ _ _ _ h => h) id h fun d p1 v H1 e1 hd r1 h1 => ?_
  have h1 := PI1.later e1 r1.pen.live h1
  refine seqE (Z := fun H r => PI1 X.K X.mg pa Av W σ H Q r) r1 (fun _ _ _ _ h => h) id h1 fun e p2 w H2 e2 he r2 h2 => ?_
  have h2 := PI1.later e2 r2.pen.live h2
  cases d with
  | int m =>
    cases e with
    | int n =>
      cases hd; cases he
      obtain ⟨q, h2⟩ := D.ite_ok (Z := PI1 X.K X.mg pa Av W σ H2 Q) id h2
      exact ⟨m, n, rfl, ⟨q.1.1, q.1.2, q.2.1, q.2.2⟩, h2 _ H2 (Ext.refl _) (walk_rg m _) r2.pen⟩
    | _ => exact h2.elim
  | _ => exact h2.elim
end

/-! ### for -/
def forD (h : HG) (b : FS) : List D → FS
  | [], ρ, p => .ok (.nx, ρ) p
  | d :: ds, ρ, p => match h d ρ with
    | none => .stuck
    | some ρ1 => (b ρ1 p).bnd fun x p => match x with
      | (.nx, ρ) => forD h b ds ρ p
      | (.ct, ρ) => forD h b ds ρ p
      | (.bk, ρ) => .ok (.nx, ρ) p
      | (.rt d, ρ) => .ok (.rt d, ρ) p
def sFor (f : FL) (h : HG) (b : FS) : FS := fun ρ p => (f ρ p).bnd fun ds p => forD h b ds ρ p
def owners (ρ : List Sl) (σ : L2.St) : List Addr := (List.range ρ.length).filterMap fun (i : Nat) => match (ρ[i]? : Option Sl), (σ[i]? : Option (Option V)) with
  | some (Sl.own _), some (some (V.ref a)) => some a
  | _, _ => none
theorem mem_owners {ρ : List Sl} {σ : L2.St} {a : Addr} : a ∈ owners ρ σ ↔ Own ρ σ a := by
  unfold owners
  rw [List.mem_filterMap]
  constructor
  · rintro ⟨i, _, e⟩
    split at e
    · next ds b h1 h2 =>
      cases e
      exact ⟨i, ds, h1, h2⟩
    · cases e
  · rintro ⟨i, ds, h1, h2⟩
    refine ⟨i, List.mem_range.mpr (List.getElem?_eq_some_iff.mp h1).1, ?_⟩
    rw [h1, h2]
section
variable {K : PySem.W.Frag} {mg : Str → Option Value} {pa : Addr} {F : Fr} {Av Av' : List Addr} {σ σ' : L2.St} {ρ ρ' : List Sl} {H H' : Hp} {p p' : List D}
theorem SI.here (r : Rel K mg pa Av σ H ρ p) : SI pa ⟨H, Av, owners ρ σ⟩ Av σ ρ H :=
  ⟨fun _ _ _ _ h _ => h, fun a h => .inl (mem_owners.mpr h), fun a h => .inl h, fun a h => .inl h, fun a h => h, fun a h => r.base.liv a h⟩
theorem SI.comp (s : SI pa F Av σ ρ H) (t : SI pa ⟨H, Av, owners ρ σ⟩ Av' σ' ρ' H') : SI pa F Av' σ' ρ' H' := by
  have back : ∀ a, H a = none → F.H0 a = none := fun a h => by
    cases z : F.H0 a with
    | none => rfl
    | some o => exact absurd h (s.liv a (by rw [z]; simp))
  refine ⟨fun a o n z h ht => ?_, fun a h => ?_, fun a h => ?_, fun a h => ?_, fun a h => t.liv a (s.liv a h), s.av0⟩
  · refine t.ext a o n (fun q => ?_) (s.ext a o n z h ht) ht
    rcases s.own a (mem_owners.mp q) with q | q
    · exact z q
    · rw [q] at h; cases h
  · rcases t.own a h with q | q
    · exact s.own a (mem_owners.mp q)
    · exact .inr (back a q)
  · rcases t.av a h with q | q
    · exact s.av a q
    · exact .inr (back a q)
  · rcases s.keep a h with q | q
    · rcases t.keep a q with q' | q'
      · exact .inl q'
      · rcases s.own a (mem_owners.mp q') with z | z
        · exact .inr z
        · exact absurd z (s.av0 a h)
    · exact .inr q
theorem SI.mv (t : SI pa ⟨H, Av, owners ρ σ⟩ Av' σ' ρ' H') (r : Rel K mg pa Av σ H ρ p) : Mv Av Av' H H' := by
  refine ⟨fun a o n h ht => t.ext a o (fun z => n (z ▸ r.base.mem)) (fun z => ?_) h ht, t.av⟩
  obtain ⟨i, ds, h1, h2⟩ := mem_owners.mp z
  obtain ⟨b, vs, g1, g2, _⟩ := r.own i ds h1
  rw [h2] at g1
  cases g1
  exact n g2
end
section
variable {X : Cx} {W : WX} {pos : Pos}
theorem ds_for {tg iter : Expr} {body : List Stmt} {is : List Nat} {f : FL} {h : HG} {b : FS} (hp : PassesOwn (model X.prog X.w) X.A X.env X.xe) (hc : X.calm = true) (hi : DI X W tg iter f) (hg : DG X tg is h) (hb : DSs X W body b)
    (hs : ∀ x, foldedSetIterable iter X.env x = pure x := by intro _; rfl) : DS X W (.For tg iter body [] pos) (sFor f h b) := L2.PS.imp (ps_for hp hc hi hg hb hs) fun D σ H q => by
  obtain ⟨pa, Av, ρ, p, F, r, s, q⟩ := q
  refine ⟨pa, Av, ρ, p, r, ?_⟩
  unfold sFor at q
  cases e : f ρ p with
  | exc c ks ds p1 =>
    rw [e] at q
    exact px_of r s q
  | stuck =>
    rw [e] at q
    exact q.elim
  | ok ds p1 =>
    rw [e] at q
    intro J H1 e1 wk pk
    have r1 := r.step e1 pk
    have s1 := s.step e1 pk.live
    have q : PS1 X.K X.mg pa W F D (forD h b ds ρ p1) := q
    refine ⟨fun i m σ' H' => ∃ Av' ρ' p', Rel X.K X.mg pa Av' σ' H' ρ' p' ∧ SI pa ⟨H1, Av, owners ρ σ⟩ Av' σ' ρ' H' ∧ m + i = ds.length ∧ PS1 X.K X.mg pa W F D (forD h b (ds.drop i) ρ' p'),
      ⟨ds.length, Av, ρ, p1, r1, SI.here r1, by omega, q⟩, fun i m σ' H' hW => ?_⟩
    obtain ⟨Av', ρ', p', r', s', hm, q'⟩ := hW
    obtain ⟨wk1, wk2⟩ := wk H' Av' (s'.mv r1) r'.base
    cases m with
    | zero =>
      have hi : i = ds.length := by omega
      subst hi
      rw [List.drop_length] at q'
      exact .inl ⟨wk2, q' Av' σ' H' r' (s1.comp s')⟩
    | succ m =>
      have hlt : i < ds.length := by omega
      have hd : ds[i]? = some ds[i] := List.getElem?_eq_getElem hlt
      obtain ⟨go, yl⟩ := wk1 i _ hd
      rw [List.drop_eq_getElem_cons hlt] at q'
      unfold forD at q'
      split at q'
      · exact q'.elim
      · next ρ1 e1' =>
        refine .inr ⟨go, fun σ2 H2 => ∃ Av2 ρ2 p2, Rel X.K X.mg pa Av2 σ2 H2 ρ2 p2 ∧ SI pa ⟨H1, Av, owners ρ σ⟩ Av2 σ2 ρ2 H2 ∧ m + (i + 1) = ds.length ∧ PS1 X.K X.mg pa W F D (forD h b (ds.drop (i + 1)) ρ2 p2), fun σ2 H2 hN => ⟨m, by omega, hN⟩, fun x H2 hy => ?_⟩
        obtain ⟨ex, hx⟩ := yl x H2 hy
        have ex' : Ext pa H' H2 := .of fun a o _ z => ex a o z
        have pk2 : PenOk X.K X.mg pa Av' H2 p' := by
          obtain ⟨vs, g1, g2⟩ := r'.pen.at'
          exact ⟨⟨vs, ex _ _ g1, (r'.base.mv ex').drs g2⟩, r'.pen.tabs.ext ex⟩
        have r2 := r'.step ex' pk2
        have s2 := s'.step ex' pk2.live
        refine ⟨pa, Av', ρ', p', ds[i], ρ1, r2, hx, e1', fun σ3 P => ⟨pa, Av', ρ1, p', ⟨H1, Av, owners ρ σ⟩, P.rel, P.si _ s2, ?_⟩⟩
        cases eb : b ρ1 p' with
        | ok y p3 =>
          rw [eb] at q'
          obtain ⟨fl, ρ3⟩ := y
          cases fl with
          | nx => exact fun Av3 σ4 H4 r4 s4 => ⟨Av3, ρ3, p3, r4, s4, by omega, q'⟩
          | ct => exact fun Av3 σ4 H4 r4 s4 => ⟨Av3, ρ3, p3, r4, s4, by omega, q'⟩
          | bk => exact fun Av3 σ4 H4 r4 s4 => q' Av3 σ4 H4 r4 (s1.comp s4)
          | rt d => exact fun Av3 σ4 ρ4 v H4 r4 s4 hd4 => q' Av3 σ4 ρ4 v H4 r4 (s1.comp s4) hd4
        | exc c ks es p3 =>
          rw [eb] at q'
          intro Av3 σ4 ρ4 C x4 fs H4 r4 s4 g1 g2 g3 g4 g5
          refine q' Av3 σ4 ρ4 C x4 fs H4 r4 (s1.comp s4) g1 ?_ g3 g4 g5
          cases z : F.H0 x4 with
          | none => rfl
          | some o => exact absurd g2 (s1.liv x4 (by rw [z]; simp))
        | stuck =>
          rw [eb] at q'
          exact q'.elim
/-! ### while -/
def whileD (c : FT) (b : FS) : Nat → FS
  | 0, _, _ => .stuck
  | n + 1, ρ, p => (c ρ p).bnd fun t p => if t then (b ρ p).bnd fun x p => match x with
    | (.nx, ρ) => whileD c b n ρ p
    | (.ct, ρ) => whileD c b n ρ p
    | (.bk, ρ) => .ok (.nx, ρ) p
    | (.rt d, ρ) => .ok (.rt d, ρ) p
    else .ok (.nx, ρ) p
def sWhile (N : List Sl → Nat) (c : FT) (b : FS) : FS := fun ρ p => whileD c b (N ρ) ρ p
theorem ds_while (N : List Sl → Nat) {c : Expr} {body : List Stmt} {fc : FT} {b : FS} (hp : PassesOwn (model X.prog X.w) X.A X.env X.xe) (hc : DT X W c fc) (hb : DSs X W body b) : DS X W (.While c body [] pos) (sWhile N fc b) := L2.PS.imp (ps_while hp hc hb) fun D σ H q => by
  obtain ⟨pa, Av, ρ, p, F, r, s, q⟩ := q
  refine ⟨fun m σ' H' => ∃ Av' ρ' p', Rel X.K X.mg pa Av' σ' H' ρ' p' ∧ SI pa F Av' σ' ρ' H' ∧ PS1 X.K X.mg pa W F D (whileD fc b m ρ' p'), ⟨N ρ, Av, ρ, p, r, s, q⟩, fun m σ' H' hW => ?_⟩
  obtain ⟨Av', ρ', p', r', s', q'⟩ := hW
  cases m with
  | zero => exact q'.elim
  | succ m =>
    unfold whileD at q'
    refine seqST r' s' q' fun t p1 H1 e1 r1 s1 h1 => ?_
    cases t with
    | false => exact h1 Av' σ' H1 r1 s1
    | true =>
      rw [if_pos rfl] at h1 ⊢
      refine ⟨fun σ2 H2 => ∃ Av2 ρ2 p2, Rel X.K X.mg pa Av2 σ2 H2 ρ2 p2 ∧ SI pa F Av2 σ2 ρ2 H2 ∧ PS1 X.K X.mg pa W F D (whileD fc b m ρ2 p2), fun σ2 H2 hN => ⟨m, by omega, hN⟩, pa, Av', ρ', p1, F, r1, s1, ?_⟩
      cases eb : b ρ' p1 with
      | ok y p3 =>
        rw [eb] at h1
        obtain ⟨fl, ρ3⟩ := y
        cases fl with
        | nx => exact fun Av3 σ4 H4 r4 s4 => ⟨Av3, ρ3, p3, r4, s4, h1⟩
        | ct => exact fun Av3 σ4 H4 r4 s4 => ⟨Av3, ρ3, p3, r4, s4, h1⟩
        | bk => exact fun Av3 σ4 H4 r4 s4 => h1 Av3 σ4 H4 r4 s4
        | rt d => exact fun Av3 σ4 ρ4 v H4 r4 s4 hd4 => h1 Av3 σ4 ρ4 v H4 r4 s4 hd4
      | exc c ks es p3 =>
        rw [eb] at h1
        exact h1
      | stuck =>
        rw [eb] at h1
        exact h1.elim
end
end Dn
end

section
set_option Elab.async false
set_option linter.all false
set_option maxRecDepth 100000
set_option maxHeartbeats 4000000
namespace Dn
open PySem PySem.Spec PyProof.Rows L2
/-! ### comprehensions -/
abbrev W0 : WX := fun _ _ _ _ => False
def noX {α : Type} : R α → R α
  | .exc _ _ _ _ => .stuck
  | r => r
@[simp] theorem noX_ok {α : Type} (a : α) (p : List D) : noX (R.ok a p) = .ok a p := rfl
@[simp] theorem noX_exc {α : Type} (c : Str) (ks : List Str) (ds p : List D) : noX (R.exc c ks ds p : R α) = .stuck := rfl
@[simp] theorem noX_stuck {α : Type} : noX (R.stuck : R α) = .stuck := rfl
def wipeS (ρ : List Sl) : List Nat → List Sl
  | [] => ρ
  | v :: vs => (wipeS ρ vs).set v .none
def lcD (vs : List Nat) (h : HG) (t : FT) (e : FE) : List D → List Sl → List D → R (List D)
  | [], _, p => .ok [] p
  | d :: ds, ρ, p => match h d (wipeS ρ vs) with
    | none => .stuck
    | some ρ1 => (noX (t ρ1 p)).bnd fun b p => if b then (noX (e ρ1 p)).bnd fun y p => (lcD vs h t e ds ρ p).bnd fun ys p => .ok (y :: ys) p else lcD vs h t e ds ρ p
def chk (r : R (List D)) : R (List D) := r.bnd fun ys p => if ys.length ≤ 16777216 then .ok ys p else .stuck
def fLc (f : FL) (h : HG) (t : FT) (e : FE) (vs : List Nat) : FL := fun ρ p => (f ρ p).bnd fun ds p => chk (lcD vs h t e ds ρ p)
def fTrue : FT := fun _ p => .ok true p
section
variable {K : PySem.W.Frag} {mg : Str → Option Value} {pa : Addr} {Av : List Addr} {σ : L2.St} {ρ : List Sl} {H H1 : Hp} {p : List D} {W : WX}
theorem Rel.wipe1 (r : Rel K mg pa Av σ H ρ p) (i : Nat) : Rel K mg pa Av (σ.set i none) H (ρ.set i .none) p where
  val := fun j e hj => by
    rcases set_cases hj with ⟨_, e1, _⟩ | ⟨hn, hj⟩
    · cases e1
    · obtain ⟨w, h1, h2⟩ := r.val j e hj
      exact ⟨w, by rw [List.getElem?_set_ne (Ne.symm hn)]; exact h1, h2⟩
  own := fun j ds hj => by
    rcases set_cases hj with ⟨_, e1, _⟩ | ⟨hn, hj⟩
    · cases e1
    · obtain ⟨a, vs, h1, h2⟩ := r.own j ds hj
      exact ⟨a, vs, by rw [List.getElem?_set_ne (Ne.symm hn)]; exact h1, h2⟩
  sep := fun j k ds es hj hk e => by
    rcases set_cases hj with ⟨_, e1, _⟩ | ⟨hn, hj⟩
    · cases e1
    · rcases set_cases hk with ⟨_, e1, _⟩ | ⟨hm, hk⟩
      · cases e1
      · rw [List.getElem?_set_ne (Ne.symm hn), List.getElem?_set_ne (Ne.symm hm)] at e
        exact r.sep j k ds es hj hk e
  pen := r.pen
  base := r.base
  len := by rw [List.length_set, List.length_set]; exact r.len
theorem Rel.wipes (r : Rel K mg pa Av σ H ρ p) : ∀ vs : List Nat, Rel K mg pa Av (wipe σ vs) H (wipeS ρ vs) p
  | [] => r
  | v :: vs => (r.wipes vs).wipe1 v
/-- within a block: one more address is avoided, one more object may change -/
theorem Rel.up {a : Addr} {o : HO} (r : Rel K mg pa Av σ H ρ p) (h : H a = none) : Rel K mg pa (a :: Av) σ (upd H a o) ρ p := by
  have e : Ext pa H (upd H a o) := Ext.new h
  have mv : Mv Av (a :: Av) H (upd H a o) := ⟨fun a o n h t => (r.base.mv e).ext a o n h t, fun c hc => (List.mem_cons.mp hc).elim (fun z => .inr (z ▸ h)) .inl⟩
  refine ⟨fun j d hj => ?_, fun j ds hj => ?_, r.sep, pen_up r.base r.pen h, ⟨List.mem_cons_of_mem _ r.base.mem, fun c hc => ?_⟩, r.len⟩
  · obtain ⟨w, h1, h2⟩ := r.val j d hj
    exact ⟨w, h1, mv.dr h2⟩
  · obtain ⟨c, ws, h1, h2, h3, h4, h5⟩ := r.own j ds hj
    exact ⟨c, ws, h1, List.mem_cons_of_mem _ h2, h3, e _ _ h3 h4, mv.drs h5⟩
  · rcases List.mem_cons.mp hc with z | z
    · rw [z, upd_same]; simp
    · by_cases q : c = a
      · rw [q, upd_same]; simp
      · rw [upd_ne q]; exact r.base.liv c z
/-- the avoided one's object changes; it is no own list -/
theorem Rel.other {a : Addr} {vs ws : List V} (r : Rel K mg pa Av σ H ρ p) (ha : a ∈ Av) (npa : a ≠ pa) (no : ¬ Own ρ σ a) (hw : H a = some (.lst ws)) : Rel K mg pa Av σ (upd H a (.lst vs)) ρ p := by
  have mv : Mv Av Av H (upd H a (.lst vs)) := ⟨fun c o n h _ => by rw [upd_ne (fun z : c = a => n (z ▸ ha))]; exact h, fun c h => .inl h⟩
  refine ⟨fun j d hj => ?_, fun j ds hj => ?_, r.sep, ?_, ⟨r.base.mem, fun c hc => ?_⟩, r.len⟩
  · obtain ⟨w, h1, h2⟩ := r.val j d hj
    exact ⟨w, h1, mv.dr h2⟩
  · obtain ⟨c, ws, h1, h2, h3, h4, h5⟩ := r.own j ds hj
    exact ⟨c, ws, h1, h2, h3, by rw [upd_ne (fun z : c = a => no ⟨j, ds, hj, z ▸ h1⟩)]; exact h4, mv.drs h5⟩
  · obtain ⟨ws, h1, h2⟩ := r.pen.at'
    exact ⟨⟨_, by rw [upd_ne (Ne.symm npa)]; exact h1, mv.drs h2⟩, tabs_upd_lst r.pen.tabs hw⟩
  · by_cases z : c = a
    · rw [z, upd_same]; simp
    · rw [upd_ne z]; exact r.base.liv c hc
/-- the state within a comprehension: the new list at a holds acc -/
structure In (K : PySem.W.Frag) (mg : Str → Option Value) (pa : Addr) (Av : List Addr) (σ : L2.St) (H1 : Hp) (ρ : List Sl) (a : Addr) (acc : List D) (p : List D) (H : Hp) : Prop where
  rel : Rel K mg pa (a :: Av) σ H ρ p
  ext : Ext pa H1 H
  new : H1 a = none
  at' : ∃ vs, H a = some (.lst vs) ∧ DRs K mg pa (a :: Av) H vs acc
theorem In.start {a : Addr} (r : Rel K mg pa Av σ H1 ρ p) (h : H1 a = none) : In K mg pa Av σ H1 ρ a [] p (upd H1 a (.lst [])) :=
  ⟨r.up h, Ext.new h, h, [], upd_same, .nil⟩
theorem In.npa {a : Addr} {acc : List D} (r : Rel K mg pa Av σ H1 ρ p) (i : In K mg pa Av σ H1 ρ a acc p H) : a ≠ pa := fun z => r.pen.live (z ▸ i.new)
theorem In.step {a : Addr} {acc p1 p2 : List D} {H' : Hp} (r : Rel K mg pa Av σ H1 ρ p) (i : In K mg pa Av σ H1 ρ a acc p1 H) (e : Ext pa H H') (k : PenOk K mg pa (a :: Av) H' p2) : In K mg pa Av σ H1 ρ a acc p2 H' := by
  have npa : a ≠ pa := fun z => r.pen.live (z ▸ i.new)
  obtain ⟨vs, h1, h2⟩ := i.at'
  exact ⟨i.rel.step e k, i.ext.trans e, i.new, vs, e _ _ npa h1, (i.rel.base.mv e).drs h2⟩
theorem In.app {a : Addr} {acc p1 : List D} {v : V} {d : D} {vs : List V} (r : Rel K mg pa Av σ H1 ρ p) (i : In K mg pa Av σ H1 ρ a acc p1 H) (hv : H a = some (.lst vs)) (hvs : DRs K mg pa (a :: Av) H vs acc) (hd : DR K mg pa (a :: Av) H v d) :
    In K mg pa Av σ H1 ρ a (acc ++ [d]) p1 (upd H a (.lst (vs ++ [v]))) := by
  have npa : a ≠ pa := fun z => r.pen.live (z ▸ i.new)
  have no : ¬ Own ρ σ a := fun ⟨j, ds, h1, h2⟩ => by
    obtain ⟨b, ws, g1, _, _, g4, _⟩ := r.own j ds h1
    rw [h2] at g1
    cases g1
    rw [i.new] at g4
    cases g4
  have mv : Mv (a :: Av) (a :: Av) H (upd H a (.lst (vs ++ [v]))) := ⟨fun c o n h _ => by rw [upd_ne (fun z : c = a => n (z ▸ List.mem_cons_self))]; exact h, fun c h => .inl h⟩
  exact ⟨i.rel.other List.mem_cons_self npa no hv, i.ext.over i.new, i.new, _, upd_same, mv.drs (hvs.app (.cons hd .nil))⟩
/-- what a walk goes by -/
theorem In.mv {a : Addr} {acc p1 : List D} (r : Rel K mg pa Av σ H1 ρ p) (i : In K mg pa Av σ H1 ρ a acc p1 H) : Mv Av (a :: Av) H1 H :=
  ⟨fun b o n h ht => i.ext.keep b o (fun z => n (z ▸ r.base.mem)) h ht, fun c hc => (List.mem_cons.mp hc).elim (fun z => .inr (z ▸ i.new)) .inl⟩
end
theorem wipe_wipe (σ : L2.St) : ∀ vs : List Nat, wipe (wipe σ vs) vs = wipe σ vs
  | [] => rfl
  | v :: vs => by
    show (wipe ((wipe σ vs).set v none) vs).set v none = (wipe σ vs).set v none
    by_cases e : v ∈ vs
    · rw [wipe_set e, wipe_wipe σ vs]
    · have : ∀ (us : List Nat) (τ : L2.St), v ∉ us → wipe (τ.set v none) us = (wipe τ us).set v none := fun us τ => by
        induction us with
        | nil => exact fun _ => rfl
        | cons u us ih =>
          intro hn
          show (wipe (τ.set v none) us).set u none = ((wipe τ us).set u none).set v none
          rw [ih fun z => hn (List.mem_cons_of_mem _ z), List.set_comm]
          exact fun z => hn (by rw [z]; exact List.mem_cons_self)
      rw [this vs _ e, wipe_wipe σ vs, List.set_set]
theorem lcD_nox {vs : List Nat} {h : HG} {t : FT} {e : FE} {c : Str} {ks : List Str} {es q : List D} : ∀ {ds : List D} {ρ : List Sl} {p : List D}, lcD vs h t e ds ρ p ≠ .exc c ks es q
  | [], ρ, p => fun z => by cases z
  | d :: ds, ρ, p => fun z => by
    unfold lcD at z
    split at z
    · cases z
    · next ρ1 _ =>
      cases et : t ρ1 p with
      | exc => rw [et] at z; cases z
      | stuck => rw [et] at z; cases z
      | ok b p1 =>
        rw [et] at z
        cases b with
        | false => exact lcD_nox z
        | true =>
          simp only [noX_ok, bnd_ok, if_true] at z
          cases ee : e ρ1 p1 with
          | exc => rw [ee] at z; cases z
          | stuck => rw [ee] at z; cases z
          | ok y p2 =>
            rw [ee] at z
            simp only [noX_ok, bnd_ok] at z
            cases el : lcD vs h t e ds ρ p2 with
            | ok => rw [el] at z; cases z
            | stuck => rw [el] at z; cases z
            | exc => exact lcD_nox el
/-- a comprehension's reading -/
theorem rd_lc {K : PySem.W.Frag} {mg : Str → Option Value} {W : WX} {f : FL} {h : HG} {t : FT} {e : FE} {vs : List Nat} {is : List Nat} (hv : ∀ i ∈ is, i ∈ vs) (σ : L2.St) (H : Hp) (Q : VK) (q : TL K mg W (fLc f h t e vs) σ H Q) :
    tLc (TId K mg W f) (TGd K mg is h) (TB K mg W0 t) (TD K mg W0 e) vs σ H Q := by
  obtain ⟨pa, Av, ρ, p, r, q⟩ := q
  refine ⟨pa, Av, ρ, p, r, ?_⟩
  unfold fLc at q
  cases ef : f ρ p with
  | exc c ks ds p1 =>
    rw [ef] at q
    exact q
  | stuck =>
    rw [ef] at q
    exact q.elim
  | ok ds p1 =>
    rw [ef] at q
    intro J H1 e1 wk pk a ha
    have r1 := r.step e1 pk
    have q : PL1 K mg pa Av W σ H Q (chk (lcD vs h t e ds ρ p1)) := q
    have q := PL1.later e1 pk.live q
    refine ⟨fun i m H' => ∃ acc p', In K mg pa Av σ H1 ρ a acc p' H' ∧ m + i = ds.length ∧ PL1 K mg pa Av W σ H1 Q (chk ((lcD vs h t e (ds.drop i) ρ p').bnd fun ys p => .ok (acc ++ ys) p)),
      ⟨ds.length, [], p1, In.start r1 ha, by omega, ?_⟩, fun i m H' hW => ?_⟩
    · rw [List.drop_zero]
      have : (lcD vs h t e ds ρ p1).bnd (fun ys p => R.ok ([] ++ ys) p) = lcD vs h t e ds ρ p1 := by
        cases lcD vs h t e ds ρ p1 <;> rfl
      rw [this]
      exact q
    · obtain ⟨acc, p', I, hm, q'⟩ := hW
      obtain ⟨wk1, wk2⟩ := wk H' (a :: Av) (I.mv r1) I.rel.base
      cases m with
      | zero =>
        have hi : i = ds.length := by omega
        subst hi
        rw [List.drop_length] at q'
        refine .inl ⟨wk2, ?_⟩
        have q' : PL1 K mg pa Av W σ H1 Q (if (acc ++ []).length ≤ 16777216 then .ok (acc ++ []) p' else .stuck) := q'
        obtain ⟨hz, q'⟩ := D.ite_ok (Z := PL1 K mg pa Av W σ H1 Q) id q'
        rw [List.append_nil] at q'
        obtain ⟨ws, g1, g2⟩ := I.at'
        exact q' a ws H' I.ext I.new g1 g2 I.rel.pen
      | succ m =>
        have hlt : i < ds.length := by omega
        have hd : ds[i]? = some ds[i] := List.getElem?_eq_getElem hlt
        obtain ⟨go, yl⟩ := wk1 i _ hd
        rw [List.drop_eq_getElem_cons hlt] at q'
        unfold lcD at q'
        cases eh : h ds[i] (wipeS ρ vs) with
        | none =>
          rw [eh] at q'
          exact q'.elim
        | some ρ1 =>
          rw [eh] at q'
          dsimp only at q'
          refine .inr ⟨go, fun H2 => ∃ acc p2, In K mg pa Av σ H1 ρ a acc p2 H2 ∧ m + (i + 1) = ds.length ∧ PL1 K mg pa Av W σ H1 Q (chk ((lcD vs h t e (ds.drop (i + 1)) ρ p2).bnd fun ys p => .ok (acc ++ ys) p)), fun H2 hN => ⟨m, by omega, hN⟩, fun x H2 hy => ?_⟩
          obtain ⟨ex, hx⟩ := yl x H2 hy
          have ex' : Ext pa H' H2 := .of fun b o _ z => ex b o z
          have pk2 : PenOk K mg pa (a :: Av) H2 p' := by
            obtain ⟨ws, g1, g2⟩ := I.rel.pen.at'
            exact ⟨⟨ws, ex _ _ g1, (I.rel.base.mv ex').drs g2⟩, I.rel.pen.tabs.ext ex⟩
          have I2 := I.step r1 ex' pk2
          refine ⟨pa, a :: Av, wipeS ρ vs, p', ds[i], ρ1, I2.rel.wipes vs, hx, eh, fun σ3 P => ⟨?_, pa, a :: Av, ρ1, p', P.rel, ?_⟩⟩
          · rw [P.wip vs hv, wipe_wipe]
          · cases et : t ρ1 p' with
            | exc c ks es p3 =>
              rw [et] at q'
              exact q'.elim
            | stuck =>
              rw [et] at q'
              exact q'.elim
            | ok b p3 =>
              rw [et] at q'
              intro H3 e3 pk3
              have I3 := I2.step r1 e3 pk3
              cases b with
              | false => exact ⟨acc, p3, I3, by omega, q'⟩
              | true =>
                refine ⟨pa, a :: Av, ρ1, p3, P.rel.step e3 pk3, ?_⟩
                cases ee : e ρ1 p3 with
                | exc c ks es p4 =>
                  simp only [noX_ok, bnd_ok, if_true, ee, noX_exc, bnd_stuck] at q'
                  exact q'.elim
                | stuck =>
                  simp only [noX_ok, bnd_ok, if_true, ee, noX_stuck, bnd_stuck] at q'
                  exact q'.elim
                | ok y p4 =>
                  simp only [noX_ok, bnd_ok, if_true, ee] at q'
                  intro v H4 e4 hv4 pk4
                  have I4 := I3.step r1 e4 pk4
                  obtain ⟨ws, g1, g2⟩ := I4.at'
                  refine ⟨ws, g1, ?_, acc ++ [y], p4, I4.app r1 g1 g2 hv4, by omega, ?_⟩
                  · rw [g2.length]
                    cases el : lcD vs h t e (ds.drop (i + 1)) ρ p4 with
                    | ok ys p5 =>
                      rw [el] at q'
                      have q' : PL1 K mg pa Av W σ H1 Q (if (acc ++ y :: ys).length ≤ 16777216 then .ok (acc ++ y :: ys) p5 else .stuck) := q'
                      obtain ⟨hz, _⟩ := D.ite_ok (Z := PL1 K mg pa Av W σ H1 Q) id q'
                      rw [List.length_append, List.length_cons] at hz
                      rw [line24]
                      omega
                    | exc c ks es p5 => exact absurd el lcD_nox
                    | stuck =>
                      rw [el] at q'
                      exact q'.elim
                  · cases el : lcD vs h t e (ds.drop (i + 1)) ρ p4 with
                    | ok ys p5 =>
                      rw [el] at q'
                      have q' : PL1 K mg pa Av W σ H1 Q (chk (.ok (acc ++ y :: ys) p5)) := q'
                      show PL1 K mg pa Av W σ H1 Q (chk (.ok (acc ++ [y] ++ ys) p5))
                      rw [List.append_assoc]
                      exact q'
                    | exc c ks es p5 =>
                      rw [el] at q'
                      exact q'
                    | stuck =>
                      rw [el] at q'
                      exact q'.elim
end Dn
end

section
set_option Elab.async false
set_option linter.all false
set_option maxRecDepth 100000
set_option maxHeartbeats 4000000
namespace Dn
open PySem PySem.Spec PyProof.Rows L2
abbrev DTs (X : Cx) (W : WX) (es : List Expr) (f : FT) : Prop := PTs X es (TB X.K X.mg W f)
section
variable {X : Cx} {W : WX} {pos : Pos}
theorem dts_nil : DTs X W [] fTrue := L2.PTs.imp pts_nil fun σ H Q h => by
  obtain ⟨pa, Av, ρ, p, r, h⟩ := h
  exact h H (Ext.refl H) r.pen
theorem dts_one {c : Expr} {f : FT} (h : DT X W c f) : DTs X W [c] f := pts_one h
theorem dl_lc (own : List (Str × Nat)) {elt tg iter : Expr} {ifs : List Expr} {scope : Scope} {is : List Nat} {f : FL} {h : HG} {t : FT} {e : FE} (hc : X.calm = true) (hN : X.N.Nodup) (hi : DI X W tg iter f)
    (hg : ∀ (s : Shared) (H : Hp) (C : Addr) (cl : List (Str × Addr)) (fp : List Addr), DG (X.blk s H scope (compEnvC scope cl C X.env) fp) tg is h)
    (ht : ∀ (s : Shared) (H : Hp) (C : Addr) (cl : List (Str × Addr)) (fp : List Addr), DTs (X.blk s H scope (compEnvC scope cl C X.env) fp) W0 ifs t)
    (he : ∀ (s : Shared) (H : Hp) (C : Addr) (cl : List (Str × Addr)) (fp : List Addr), DE (X.blk s H scope (compEnvC scope cl C X.env) fp) W0 elt e)
    (ok : BlkOk X.N X.env.scope scope own := by exact blkOk_by (by rfl)) (hv : ∀ i ∈ is, i ∈ own.map (·.2) := by decide)
    (hs : ∀ x, foldedSetIterable iter X.env x = pure x := by intro _; rfl) : DL X W (.ListComp elt [⟨tg, iter, ifs, 0⟩] scope pos) (fLc f h t e (own.map (·.2))) :=
  L2.PE.imp (pe_lc hc hN hi ok hg ht he hs) (rd_lc hv)
theorem ds_setLc (own : List (Str × Nat)) {i : Nat} {y : Str} {py spos : Pos} {elt tg iter : Expr} {ifs : List Expr} {scope : Scope} {is : List Nat} {f : FL} {h : HG} {t : FT} {e : FE} (hc : X.calm = true) (hN : X.N.Nodup) (hi : DI X W tg iter f)
    (hg : ∀ (s : Shared) (H : Hp) (C : Addr) (cl : List (Str × Addr)) (fp : List Addr), DG (X.blk s H scope (compEnvC scope cl C X.env) fp) tg is h)
    (ht : ∀ (s : Shared) (H : Hp) (C : Addr) (cl : List (Str × Addr)) (fp : List Addr), DTs (X.blk s H scope (compEnvC scope cl C X.env) fp) W0 ifs t)
    (he : ∀ (s : Shared) (H : Hp) (C : Addr) (cl : List (Str × Addr)) (fp : List Addr), DE (X.blk s H scope (compEnvC scope cl C X.env) fp) W0 elt e)
    (ok : BlkOk X.N X.env.scope scope own := by exact blkOk_by (by rfl)) (hv : ∀ i ∈ is, i ∈ own.map (·.2) := by decide)
    (hy : X.N[i]? = some y := by rfl) (hyl : X.env.scope.names.lookup y = some .local := by rfl) (hsw : swapsWith (.ListComp elt [⟨tg, iter, ifs, 0⟩] scope pos) (some (.Name y py)) spos.line X.env = pure true := by exact sw_true rfl rfl rfl (by decide +kernel))
    (hs : ∀ x, foldedSetIterable iter X.env x = pure x := by intro _; rfl) : DS X W (.Assign [.Name y py] (.ListComp elt [⟨tg, iter, ifs, 0⟩] scope pos) spos) (sSet i (fL (fLc f h t e (own.map (·.2))))) :=
  L2.PS.imp (ps_setLc hc hN hy hyl hsw hi ok hg ht he hs) fun D σ H q => by
    obtain ⟨pa, Av, ρ, p, F, r, s, q⟩ := q
    refine rd_lc (h := h) (t := t) (e := e) hv σ H _ ?_
    have r0 := r
    refine ⟨pa, Av, ρ, p, r, ?_⟩
    have q : PS1 X.K X.mg pa W F D (((fLc f h t e (own.map (·.2)) ρ p).bnd fun ds p => R.ok (Dn.D.lst ds) p).bnd fun d p => .ok (.nx, ρ.set i (.val d)) p) := q
    cases e1 : fLc f h t e (own.map (·.2)) ρ p with
    | ok ds p1 =>
      rw [e1] at q
      intro a vs H1 e2 hn ha hd hk
      have r1 := r.step e2 (pen_less hk)
      exact q Av _ H1 (r1.setV (.lst ha (r.base.fresh hn) (drs_less hd))) (s.step e2 hk.live).setV
    | exc c ks ds p1 =>
      rw [e1] at q
      exact px_of r s q
    | stuck =>
      rw [e1] at q
      exact q.elim

/-! ### comprehensions of two clauses -/
def lc2D (vs : List Nat) (h : HG) (t : FT) (f1 : FL) (vs1 : List Nat) (h1 : HG) (t1 : FT) (e : FE) : List D → List Sl → List D → R (List D)
  | [], _, p => .ok [] p
  | d :: ds, ρ, p => match h d (wipeS ρ vs) with
    | none => .stuck
    | some ρ1 => (noX (t ρ1 p)).bnd fun b p => if b then (noX (f1 ρ1 p)).bnd fun es p => (lcD vs1 h1 t1 e es ρ1 p).bnd fun ys p => (lc2D vs h t f1 vs1 h1 t1 e ds ρ p).bnd fun zs p => .ok (ys ++ zs) p
      else lc2D vs h t f1 vs1 h1 t1 e ds ρ p
def fLc2 (f : FL) (h : HG) (t : FT) (f1 : FL) (h1 : HG) (t1 : FT) (e : FE) (vs vs1 : List Nat) : FL := fun ρ p => (f ρ p).bnd fun ds p => chk (lc2D vs h t f1 vs1 h1 t1 e ds ρ p)
theorem lc2D_nox {vs vs1 : List Nat} {h h1 : HG} {t t1 : FT} {f1 : FL} {e : FE} {c : Str} {ks : List Str} {es q : List D} : ∀ {ds : List D} {ρ : List Sl} {p : List D}, lc2D vs h t f1 vs1 h1 t1 e ds ρ p ≠ .exc c ks es q
  | [], ρ, p => fun z => by cases z
  | d :: ds, ρ, p => fun z => by
    unfold lc2D at z
    split at z
    · cases z
    · next ρ1 _ =>
      cases et : t ρ1 p with
      | exc => rw [et] at z; cases z
      | stuck => rw [et] at z; cases z
      | ok b p1 =>
        rw [et] at z
        cases b with
        | false => exact lc2D_nox z
        | true =>
          simp only [noX_ok, bnd_ok, if_true] at z
          cases ee : f1 ρ1 p1 with
          | exc => rw [ee] at z; cases z
          | stuck => rw [ee] at z; cases z
          | ok ys p2 =>
            rw [ee] at z
            simp only [noX_ok, bnd_ok] at z
            cases el : lcD vs1 h1 t1 e ys ρ1 p2 with
            | stuck => rw [el] at z; cases z
            | exc => exact lcD_nox el
            | ok zs p3 =>
              rw [el] at z
              simp only [bnd_ok] at z
              cases em : lc2D vs h t f1 vs1 h1 t1 e ds ρ p3 with
              | ok => rw [em] at z; cases z
              | stuck => rw [em] at z; cases z
              | exc => exact lc2D_nox em
end
theorem In.sub {K : PySem.W.Frag} {mg : Str → Option Value} {pa : Addr} {Av : List Addr} {σ σ' : L2.St} {ρ ρ' : List Sl} {H H1 : Hp} {p1 acc : List D} {a : Addr} (i : In K mg pa Av σ H1 ρ a acc p1 H) (r : Rel K mg pa (a :: Av) σ' H ρ' p1) :
    In K mg pa Av σ' H1 ρ' a acc p1 H := ⟨r, i.ext, i.new, i.at'⟩
/-- an address that is no own list -/
theorem In.noOwn {K : PySem.W.Frag} {mg : Str → Option Value} {pa : Addr} {Av : List Addr} {σ : L2.St} {ρ : List Sl} {H H1 : Hp} {p1 acc : List D} {a : Addr} (i : In K mg pa Av σ H1 ρ a acc p1 H) (no : ¬ Own ρ σ a) {v : V} {d : D} {vs : List V} (npa : a ≠ pa) (hv : H a = some (.lst vs)) (hvs : DRs K mg pa (a :: Av) H vs acc) (hd : DR K mg pa (a :: Av) H v d) :
    In K mg pa Av σ H1 ρ a (acc ++ [d]) p1 (upd H a (.lst (vs ++ [v]))) := by
  have mv : Mv (a :: Av) (a :: Av) H (upd H a (.lst (vs ++ [v]))) := ⟨fun c o n h _ => by rw [upd_ne (fun z : c = a => n (z ▸ List.mem_cons_self))]; exact h, fun c h => .inl h⟩
  exact ⟨i.rel.other List.mem_cons_self npa no hv, i.ext.over i.new, i.new, _, upd_same, mv.drs (hvs.app (.cons hd .nil))⟩
theorem own_wipe {ρ : List Sl} {σ : L2.St} {a : Addr} : ∀ {vs : List Nat}, Own (wipeS ρ vs) (wipe σ vs) a → Own ρ σ a
  | [], h => h
  | v :: vs, ⟨i, ds, h1, h2⟩ => by
    rcases set_cases (l := wipeS ρ vs) h1 with ⟨_, e, _⟩ | ⟨n, h1⟩
    · cases e
    · rcases set_cases (l := wipe σ vs) h2 with ⟨_, e, _⟩ | ⟨_, h2⟩
      · cases e
      · exact own_wipe ⟨i, ds, h1, h2⟩

theorem rd_lc2 {K : PySem.W.Frag} {mg : Str → Option Value} {W : WX} {f f1 : FL} {h h1 : HG} {t t1 : FT} {e : FE} {vs vs1 : List Nat} {is is1 : List Nat} (hv : ∀ i ∈ is, i ∈ vs) (hv1 : ∀ i ∈ is1, i ∈ vs1) (σ : L2.St) (H : Hp) (Q : VK) (q : TL K mg W (fLc2 f h t f1 h1 t1 e vs vs1) σ H Q) :
    tLc2 (TId K mg W f) (TGd K mg is h) (TB K mg W0 t) (TId K mg W0 f1) (TGd K mg is1 h1) (TB K mg W0 t1) (TD K mg W0 e) vs vs1 σ H Q := by
  obtain ⟨pa, Av, ρ, p, r, q⟩ := q
  refine ⟨pa, Av, ρ, p, r, ?_⟩
  unfold fLc2 at q
  cases ef : f ρ p with
  | exc c ks ds p1 =>
    rw [ef] at q
    exact q
  | stuck =>
    rw [ef] at q
    exact q.elim
  | ok ds p1 =>
    rw [ef] at q
    intro J H1 e1 wk pk a ha
    have r1 := r.step e1 pk
    have npa : a ≠ pa := fun z => r1.pen.live (z ▸ ha)
    have q : PL1 K mg pa Av W σ H Q (chk (lc2D vs h t f1 vs1 h1 t1 e ds ρ p1)) := q
    have q := PL1.later e1 pk.live q
    have noA : ¬ Own ρ σ a := fun ⟨j, ds, g1, g2⟩ => by
      obtain ⟨b, ws, k1, _, _, k4, _⟩ := r1.own j ds g1
      rw [g2] at k1
      cases k1
      rw [ha] at k4
      cases k4
    refine ⟨fun i m H' => ∃ acc p', In K mg pa Av σ H1 ρ a acc p' H' ∧ m + i = ds.length ∧ PL1 K mg pa Av W σ H1 Q (chk ((lc2D vs h t f1 vs1 h1 t1 e (ds.drop i) ρ p').bnd fun ys p => .ok (acc ++ ys) p)),
      ⟨ds.length, [], p1, In.start r1 ha, by omega, ?_⟩, fun i m H' hW => ?_⟩
    · rw [List.drop_zero]
      have : (lc2D vs h t f1 vs1 h1 t1 e ds ρ p1).bnd (fun ys p => R.ok ([] ++ ys) p) = lc2D vs h t f1 vs1 h1 t1 e ds ρ p1 := by
        cases lc2D vs h t f1 vs1 h1 t1 e ds ρ p1 <;> rfl
      rw [this]
      exact q
    · obtain ⟨acc, p', I, hm, q'⟩ := hW
      obtain ⟨wk1, wk2⟩ := wk H' (a :: Av) (I.mv r1) I.rel.base
      cases m with
      | zero =>
        have hi : i = ds.length := by omega
        subst hi
        rw [List.drop_length] at q'
        refine .inl ⟨wk2, ?_⟩
        have q' : PL1 K mg pa Av W σ H1 Q (if (acc ++ []).length ≤ 16777216 then .ok (acc ++ []) p' else .stuck) := q'
        obtain ⟨hz, q'⟩ := D.ite_ok (Z := PL1 K mg pa Av W σ H1 Q) id q'
        rw [List.append_nil] at q'
        obtain ⟨ws, g1, g2⟩ := I.at'
        exact q' a ws H' I.ext I.new g1 g2 I.rel.pen
      | succ m =>
        have hlt : i < ds.length := by omega
        have hd : ds[i]? = some ds[i] := List.getElem?_eq_getElem hlt
        obtain ⟨go, yl⟩ := wk1 i _ hd
        rw [List.drop_eq_getElem_cons hlt] at q'
        unfold lc2D at q'
        cases eh : h ds[i] (wipeS ρ vs) with
        | none =>
          rw [eh] at q'
          exact q'.elim
        | some ρ1 =>
          rw [eh] at q'
          dsimp only at q'
          refine .inr ⟨go, fun H2 => ∃ acc p2, In K mg pa Av σ H1 ρ a acc p2 H2 ∧ m + (i + 1) = ds.length ∧ PL1 K mg pa Av W σ H1 Q (chk ((lc2D vs h t f1 vs1 h1 t1 e (ds.drop (i + 1)) ρ p2).bnd fun ys p => .ok (acc ++ ys) p)), fun H2 hN => ⟨m, by omega, hN⟩, fun x H2 hy => ?_⟩
          obtain ⟨ex, hx⟩ := yl x H2 hy
          have ex' : Ext pa H' H2 := .of fun b o _ z => ex b o z
          have pk2 : PenOk K mg pa (a :: Av) H2 p' := by
            obtain ⟨ws, g1, g2⟩ := I.rel.pen.at'
            exact ⟨⟨ws, ex _ _ g1, (I.rel.base.mv ex').drs g2⟩, I.rel.pen.tabs.ext ex⟩
          have I2 := I.step r1 ex' pk2
          refine ⟨pa, a :: Av, wipeS ρ vs, p', ds[i], ρ1, I2.rel.wipes vs, hx, eh, fun σ3 P => ⟨by rw [P.wip vs hv, wipe_wipe], pa, a :: Av, ρ1, p', P.rel, ?_⟩⟩
          have noB : ¬ Own ρ1 σ3 a := fun z => by
            rcases (P.si _ (SI.here (I2.rel.wipes vs))).own a z with y | y
            · exact noA (own_wipe (mem_owners.mp y))
            · obtain ⟨ws, g1, _⟩ := I2.at'
              have y : H2 a = none := y
              rw [g1] at y
              cases y
          cases et : t ρ1 p' with
          | exc c ks es p3 =>
            rw [et] at q'
            exact q'.elim
          | stuck =>
            rw [et] at q'
            exact q'.elim
          | ok b p3 =>
            rw [et] at q'
            intro H3 e3 pk3
            have I3 := I2.step r1 e3 pk3
            have J3 : In K mg pa Av σ3 H1 ρ1 a acc p3 H3 := I3.sub (P.rel.step e3 pk3)
            cases b with
            | false => exact ⟨acc, p3, I3, by omega, q'⟩
            | true =>
              refine ⟨pa, a :: Av, ρ1, p3, J3.rel, ?_⟩
              cases ee : f1 ρ1 p3 with
              | exc c ks es p4 =>
                simp only [noX_ok, bnd_ok, if_true, ee, noX_exc, bnd_stuck] at q'
                exact q'.elim
              | stuck =>
                simp only [noX_ok, bnd_ok, if_true, ee, noX_stuck, bnd_stuck] at q'
                exact q'.elim
              | ok es p4 =>
                simp only [noX_ok, bnd_ok, if_true, ee] at q'
                intro J1 H4 e4 wk4 pk4
                have I4 := I3.step r1 e4 pk4
                have J4 : In K mg pa Av σ3 H1 ρ1 a acc p4 H4 := I4.sub (J3.rel.step e4 pk4)
                -- the inner walk
                refine ⟨fun j k H5 => ∃ acc p5, In K mg pa Av σ H1 ρ a acc p5 H5 ∧ In K mg pa Av σ3 H1 ρ1 a acc p5 H5 ∧ (∀ b o, b ∉ a :: Av → H4 b = some o → o.nt = true → H5 b = some o) ∧ k + j = es.length ∧
                    PL1 K mg pa Av W σ H1 Q (chk (((lcD vs1 h1 t1 e (es.drop j) ρ1 p5).bnd fun ys p => (lc2D vs h t f1 vs1 h1 t1 e (ds.drop (i + 1)) ρ p).bnd fun zs p => .ok (ys ++ zs) p).bnd fun ys p => .ok (acc ++ ys) p)),
                  ⟨es.length, acc, p4, I4, J4, fun _ _ _ z _ => z, by omega, q'⟩, fun j k H5 hW1 => ?_⟩
                obtain ⟨acc1, p5, I5, J5, x5, hk, q5⟩ := hW1
                have mv5 : Mv (a :: Av) (a :: Av) H4 H5 := ⟨x5, fun b z => .inl z⟩
                obtain ⟨wk5, wk6⟩ := wk4 H5 (a :: Av) mv5 I5.rel.base
                cases k with
                | zero =>
                  have hj : j = es.length := by omega
                  subst hj
                  rw [List.drop_length] at q5
                  refine .inl ⟨wk6, acc1, p5, I5, by omega, ?_⟩
                  have q5 : PL1 K mg pa Av W σ H1 Q (chk (((lc2D vs h t f1 vs1 h1 t1 e (ds.drop (i + 1)) ρ p5).bnd fun zs p => R.ok ([] ++ zs) p).bnd fun ys p => .ok (acc1 ++ ys) p)) := q5
                  cases el : lc2D vs h t f1 vs1 h1 t1 e (ds.drop (i + 1)) ρ p5 with
                  | ok zs p6 => rw [el] at q5; exact q5
                  | exc c ks es p6 => rw [el] at q5; exact q5
                  | stuck => rw [el] at q5; exact q5
                | succ k =>
                  have hlt5 : j < es.length := by omega
                  have hd5 : es[j]? = some es[j] := List.getElem?_eq_getElem hlt5
                  obtain ⟨go5, yl5⟩ := wk5 j _ hd5
                  rw [List.drop_eq_getElem_cons hlt5] at q5
                  unfold lcD at q5
                  cases eh5 : h1 es[j] (wipeS ρ1 vs1) with
                  | none =>
                    rw [eh5] at q5
                    exact q5.elim
                  | some ρ2 =>
                    rw [eh5] at q5
                    dsimp only at q5
                    refine .inr ⟨go5, fun H6 => ∃ acc p6, In K mg pa Av σ H1 ρ a acc p6 H6 ∧ In K mg pa Av σ3 H1 ρ1 a acc p6 H6 ∧ (∀ b o, b ∉ a :: Av → H4 b = some o → o.nt = true → H6 b = some o) ∧ k + (j + 1) = es.length ∧
                        PL1 K mg pa Av W σ H1 Q (chk (((lcD vs1 h1 t1 e (es.drop (j + 1)) ρ1 p6).bnd fun ys p => (lc2D vs h t f1 vs1 h1 t1 e (ds.drop (i + 1)) ρ p).bnd fun zs p => .ok (ys ++ zs) p).bnd fun ys p => .ok (acc ++ ys) p)),
                      fun H6 hN => ⟨k, by omega, hN⟩, fun y H6 hy5 => ?_⟩
                    obtain ⟨ex5, hx5⟩ := yl5 y H6 hy5
                    have ex5' : Ext pa H5 H6 := .of fun b o _ z => ex5 b o z
                    have pk6 : PenOk K mg pa (a :: Av) H6 p5 := by
                      obtain ⟨ws, g1, g2⟩ := I5.rel.pen.at'
                      exact ⟨⟨ws, ex5 _ _ g1, (I5.rel.base.mv ex5').drs g2⟩, I5.rel.pen.tabs.ext ex5⟩
                    have I6 := I5.step r1 ex5' pk6
                    have J6 : In K mg pa Av σ3 H1 ρ1 a acc1 p5 H6 := I6.sub (J5.rel.step ex5' pk6)
                    refine ⟨pa, a :: Av, wipeS ρ1 vs1, p5, es[j], ρ2, J6.rel.wipes vs1, hx5, eh5, fun σ5 P5 => ⟨by rw [P5.wip vs1 hv1, wipe_wipe], pa, a :: Av, ρ2, p5, P5.rel, ?_⟩⟩
                    cases et5 : t1 ρ2 p5 with
                    | exc c ks es p7 =>
                      rw [et5] at q5
                      exact q5.elim
                    | stuck =>
                      rw [et5] at q5
                      exact q5.elim
                    | ok b7 p7 =>
                      rw [et5] at q5
                      intro H7 e7 pk7
                      have I7 := I6.step r1 e7 pk7
                      have J7 : In K mg pa Av σ3 H1 ρ1 a acc1 p7 H7 := I7.sub (J6.rel.step e7 pk7)
                      have x7 : ∀ b o, b ∉ a :: Av → H4 b = some o → o.nt = true → H7 b = some o := fun b o n z zt => e7.keep b o (fun y => n (y ▸ List.mem_cons_of_mem _ r1.base.mem)) (ex5 b o (x5 b o n z zt)) zt
                      cases b7 with
                      | false => exact ⟨acc1, p7, I7, J7, x7, by omega, q5⟩
                      | true =>
                        refine ⟨pa, a :: Av, ρ2, p7, P5.rel.step e7 pk7, ?_⟩
                        cases ee7 : e ρ2 p7 with
                        | exc c ks es p8 =>
                          simp only [noX_ok, bnd_ok, if_true, ee7, noX_exc, bnd_stuck] at q5
                          exact q5.elim
                        | stuck =>
                          simp only [noX_ok, bnd_ok, if_true, ee7, noX_stuck, bnd_stuck] at q5
                          exact q5.elim
                        | ok d8 p8 =>
                          simp only [noX_ok, bnd_ok, if_true, ee7] at q5
                          intro v8 H8 e8 hv8 pk8
                          have I8 := I7.step r1 e8 pk8
                          have J8 : In K mg pa Av σ3 H1 ρ1 a acc1 p8 H8 := I8.sub (J7.rel.step e8 pk8)
                          obtain ⟨ws, g1, g2⟩ := I8.at'
                          have x8 : ∀ b o, b ∉ a :: Av → H4 b = some o → o.nt = true → upd H8 a (.lst (ws ++ [v8])) b = some o := fun b o n z zt => by
                            rw [upd_ne (fun y : b = a => n (y ▸ List.mem_cons_self))]
                            exact e8.keep b o (fun y => n (y ▸ List.mem_cons_of_mem _ r1.base.mem)) (x7 b o n z zt) zt
                          have done : PL1 K mg pa Av W σ H1 Q (chk (((lcD vs1 h1 t1 e (es.drop (j + 1)) ρ1 p8).bnd fun ys p => (lc2D vs h t f1 vs1 h1 t1 e (ds.drop (i + 1)) ρ p).bnd fun zs p => .ok (ys ++ zs) p).bnd fun ys p => .ok (acc1 ++ [d8] ++ ys) p)) ∧ acc1.length < 16777216 := by
                            cases el : lcD vs1 h1 t1 e (es.drop (j + 1)) ρ1 p8 with
                            | exc c ks es p9 => exact absurd el lcD_nox
                            | stuck =>
                              rw [el] at q5
                              exact q5.elim
                            | ok ys p9 =>
                              rw [el] at q5
                              simp only [bnd_ok] at q5 ⊢
                              cases em : lc2D vs h t f1 vs1 h1 t1 e (ds.drop (i + 1)) ρ p9 with
                              | exc c ks es p10 => exact absurd em lc2D_nox
                              | stuck =>
                                rw [em] at q5
                                exact q5.elim
                              | ok zs p10 =>
                                rw [em] at q5
                                simp only [bnd_ok] at q5 ⊢
                                have q5 : PL1 K mg pa Av W σ H1 Q (if (acc1 ++ (d8 :: ys ++ zs)).length ≤ 16777216 then .ok (acc1 ++ (d8 :: ys ++ zs)) p10 else .stuck) := q5
                                obtain ⟨hz, q6⟩ := D.ite_ok (Z := PL1 K mg pa Av W σ H1 Q) id q5
                                refine ⟨?_, ?_⟩
                                · have ea : acc1 ++ [d8] ++ (ys ++ zs) = acc1 ++ (d8 :: ys ++ zs) := by simp
                                  rw [ea]
                                  exact q5
                                · rw [List.length_append, List.cons_append, List.length_cons] at hz
                                  omega
                          refine ⟨ws, g1, by rw [g2.length, line24]; exact done.2, acc1 ++ [d8], p8, I8.app r1 g1 g2 hv8, J8.noOwn noB npa g1 g2 hv8, x8, by omega, done.1⟩
section
variable {X : Cx} {W : WX} {pos : Pos}
theorem dl_lc2 (own : List (Str × Nat)) (vs1 : List Nat) {elt tg iter tg1 iter1 : Expr} {ifs ifs1 : List Expr} {scope : Scope} {is is1 : List Nat} {f f1 : FL} {h h1 : HG} {t t1 : FT} {e : FE} (hc : X.calm = true) (hN : X.N.Nodup) (hi : DI X W tg iter f)
    (hg : ∀ (s : Shared) (H : Hp) (C : Addr) (cl : List (Str × Addr)) (fp : List Addr), DG (X.blk s H scope (compEnvC scope cl C X.env) fp) tg is h)
    (ht : ∀ (s : Shared) (H : Hp) (C : Addr) (cl : List (Str × Addr)) (fp : List Addr), DTs (X.blk s H scope (compEnvC scope cl C X.env) fp) W0 ifs t)
    (hi1 : ∀ (s : Shared) (H : Hp) (C : Addr) (cl : List (Str × Addr)) (fp : List Addr), DI (X.blk s H scope (compEnvC scope cl C X.env) fp) W0 tg1 iter1 f1)
    (hg1 : ∀ (s : Shared) (H : Hp) (C : Addr) (cl : List (Str × Addr)) (fp : List Addr), DG (X.blk s H scope (compEnvC scope cl C X.env) fp) tg1 is1 h1)
    (ht1 : ∀ (s : Shared) (H : Hp) (C : Addr) (cl : List (Str × Addr)) (fp : List Addr), DTs (X.blk s H scope (compEnvC scope cl C X.env) fp) W0 ifs1 t1)
    (he : ∀ (s : Shared) (H : Hp) (C : Addr) (cl : List (Str × Addr)) (fp : List Addr), DE (X.blk s H scope (compEnvC scope cl C X.env) fp) W0 elt e)
    (ok : BlkOk X.N X.env.scope scope own := by exact blkOk_by (by rfl)) (hv : ∀ i ∈ is, i ∈ own.map (·.2) := by decide) (hv1 : ∀ i ∈ is1, i ∈ vs1 := by decide) (hw : ∀ i ∈ vs1, i ∈ own.map (·.2) := by decide)
    (hs : ∀ x, foldedSetIterable iter X.env x = pure x := by intro _; rfl) (hs1 : ∀ env x, foldedSetIterable iter1 env x = pure x := by intro _ _; rfl) : DL X W (.ListComp elt [⟨tg, iter, ifs, 0⟩, ⟨tg1, iter1, ifs1, 0⟩] scope pos) (fLc2 f h t f1 h1 t1 e (own.map (·.2)) vs1) :=
  L2.PE.imp (pe_lc2 hc hN hi ok hw hg ht hi1 hg1 ht1 he hs hs1) (rd_lc2 hv hv1)
end

/-! ### defs -/
def startS (N : List Str) (ds : List D) : List Sl := ds.map Sl.val ++ List.replicate (N.length - ds.length) Sl.none
def runF (N : List Str) (f : FS) : List D → List D → R D := fun ds p => (f (startS N ds) p).bnd fun x p => match x with
  | (.rt d, _) => .ok d p
  | (.nx, _) => .ok .non p
  | _ => .stuck
def spF (K : PySem.W.Frag) (mg : Str → Option Value) (n : Nat) (F : List D → List D → R D) : Sp := fun vs H Q E => vs.length = n ∧ ∃ pa Av ds p, Base pa Av H ∧ PenOk K mg pa Av H p ∧ DRs K mg pa Av H vs ds ∧ PE1 K mg pa Av (fun cls d _ H' => E cls d H') [] H Q (F ds p)
theorem start_get {N : List Str} {ds : List D} {i : Nat} {d : D} (h : (startS N ds)[i]? = some (.val d)) : ds[i]? = some d := by
  unfold startS at h
  by_cases hi : i < ds.length
  · rw [List.getElem?_append_left (by rw [List.length_map]; exact hi), List.getElem?_map] at h
    cases q : ds[i]? with
    | none => rw [q] at h; cases h
    | some x => rw [q] at h; cases h; rfl
  · rw [List.getElem?_append_right (by rw [List.length_map]; omega), List.getElem?_replicate] at h
    split at h <;> cases h
theorem start_own {N : List Str} {ds : List D} {i : Nat} {es : List D} (h : (startS N ds)[i]? = some (.own es)) : False := by
  unfold startS at h
  by_cases hi : i < ds.length
  · rw [List.getElem?_append_left (by rw [List.length_map]; exact hi), List.getElem?_map] at h
    cases q : ds[i]? with
    | none => rw [q] at h; cases h
    | some x => rw [q] at h; cases h
  · rw [List.getElem?_append_right (by rw [List.length_map]; omega), List.getElem?_replicate] at h
    split at h <;> cases h
section
variable {K : PySem.W.Frag} {mg : Str → Option Value} {P : Program} {w : World} {base : Heap}
theorem rel_start {N : List Str} {pa : Addr} {Av : List Addr} {H : Hp} {vs : List V} {ds p : List D} (b : Base pa Av H) (k : PenOk K mg pa Av H p) (q : DRs K mg pa Av H vs ds) (hl : ds.length ≤ N.length) : Rel K mg pa Av (L2.start N vs) H (startS N ds) p where
  val := fun i d h => by
    have h := start_get h
    obtain ⟨v, h1, h2⟩ := q.get h
    refine ⟨v, ?_, h2⟩
    unfold L2.start
    have hi := (List.getElem?_eq_some_iff.mp h1).1
    rw [List.getElem?_append_left (by rw [List.length_map]; exact hi), List.getElem?_map, h1]
    rfl
  own := fun i es h => (start_own h).elim
  sep := fun i j es fs h => (start_own h).elim
  pen := k
  base := b
  len := by
    unfold L2.start startS
    rw [List.length_append, List.length_append, List.length_map, List.length_map, List.length_replicate, List.length_replicate, q.length]
/-! ### room and guards -/
structure RoomG (k : Nat) (A : Around) : Prop where
  r : Room k A
  g : A.guards = some []
theorem RoomG.mono {j k : Nat} {A : Around} (r : RoomG k A) (h : j ≤ k) : RoomG j A := ⟨r.r.mono h, r.g⟩
theorem RoomG.deeper {k : Nat} {A : Around} (r : RoomG (k + 1) A) (env : Env) : RoomG k (A.deeper env) := ⟨r.r.deeper env, r.g⟩
theorem RoomG.units {k : Nat} {A : Around} (r : RoomG k A) : A.units + 64 < cLine := r.r.units
/-- a def's promise, where no guard stands -/
structure FnG (P : Program) (w : World) (K : PySem.W.Frag) (mg : Str → Option Value) (base : Heap) (k : Nat) (f : Addr) (fd : FuncData) (ps : List Str) (sp : Sp) : Prop where
  len : ∀ vs H Q E, sp vs H Q E → vs.length = ps.length
  run : ∀ (A : Around) (outer : List Env) (s : Shared) (H : Hp) (args : Args) (us : List Value) (vs : List V) (Q : VK) (E : XK), RoomG k A → Env0 P w K mg base A outer s H → BindsTo s fd args (ps.zip us) → Vals vs us → sp vs H Q E →
    codeAny (model P w) A (.call (.ref f) args) (CR (L2.CX P w) outer P w H s Q E) s
/-- THE RULE for a def -/
theorem fnD {x qual : Str} {st : Stmt} {f : Addr} {fd : FuncData} {N ps : List Str} {k : Nat} {fs : FS} (F : Fun K x qual st f fd) (S : FnScope N ps (defScope st))
    (hbody : ∀ (cdv : Value) (A : Around) (outer : List Env) (s : Shared) (H : Hp) (E : XK), RoomG k (A.deeper (envOfC qual (defScope st) s.heap.objs.size f cdv)) → fd.code = cdv →
      Takes (cxOf (L2.CX P w) P w K mg base N qual (defScope st) f cdv A outer s H E) (fun cls d _ H' => E cls d H') →
      DSs (cxOf (L2.CX P w) P w K mg base N qual (defScope st) f cdv A outer s H E) (fun cls d _ H' => E cls d H') (defBody st) fs) : FnG P w K mg base (k + 1) f fd ps (spF K mg ps.length (runF N fs)) := by
  obtain ⟨oc, od, kV, doc, pm, an, cdv, ct, osl, rfl, lk, hcd⟩ := F.ex
  refine ⟨fun vs H Q E h => h.1, fun A outer s H args us vs Q E hr e0 hbd rv h => LamX.run_ofS (N := N) lk hcd S hr.r e0 hbd rv h.1 fun hr' => ?_⟩
  have hrG : RoomG k (A.deeper (envOfC qual (defScope st) s.heap.objs.size f cdv)) := ⟨hr', hr.g⟩
  obtain ⟨hl, pa, Av, ds, p, b, pk, q, h⟩ := h
  have hN : ps.length ≤ N.length := by
    have := congrArg List.length S.pre
    rw [List.length_take] at this
    omega
  have r := rel_start (N := N) b pk q (by rw [← q.length, hl]; exact hN)
  refine ⟨_, hbody cdv A outer s H E hrG rfl (takes_of rfl rfl rfl rfl), pa, Av, startS N ds, p, ⟨H, Av, []⟩, r,
    ⟨fun _ _ _ _ h _ => h, fun a ⟨i, es, h1, _⟩ => (start_own h1).elim, fun a h => .inl h, fun a h => .inl h, fun a h => h, b.liv⟩, ?_⟩
  unfold runF at h
  have fex : ∀ {Av' : List Addr} {σ' : L2.St} {ρ' : List Sl} {H' : Hp}, SI pa ⟨H, Av, []⟩ Av' σ' ρ' H' → Ext pa H H' := fun {Av' σ' ρ' H'} s' => ⟨fun a o n z t => s'.ext a o n (by simp) z t, fun a _ z => s'.liv a z⟩
  cases e : fs (startS N ds) p with
  | ok y p1 =>
    rw [e] at h
    obtain ⟨fl, ρ1⟩ := y
    have fin : ∀ {Av' : List Addr} {σ' : L2.St} {ρ' : List Sl} {v : V} {d : D} {H' : Hp}, PE1 K mg pa Av (fun cls d _ H' => E cls d H') [] H Q (.ok d p1) → Rel K mg pa Av' σ' H' ρ' p1 → SI pa ⟨H, Av, []⟩ Av' σ' ρ' H' → DR K mg pa Av' H' v d → Q v H' := fun {Av' σ' ρ' v d H'} h r' s' hd => by
      have mv : Mv Av' Av H' H' := ⟨fun _ _ _ z _ => z, fun a z => (s'.keep a z).elim .inl fun y => absurd y (by simp)⟩
      obtain ⟨ws, g1, g2⟩ := r'.pen.at'
      exact h v H' (fex s') (mv.dr hd) ⟨⟨ws, g1, mv.drs g2⟩, r'.pen.tabs⟩
    cases fl with
    | nx => exact fun Av' σ' H' r' s' => fin (d := .non) h r' s' .non
    | rt d => exact fun Av' σ' ρ' v H' r' s' hd => fin h r' s' hd
    | bk => exact h.elim
    | ct => exact h.elim
  | exc c ks es p1 =>
    rw [e] at h
    intro Av' σ' ρ' C x fs H' r' s' g1 g2 g3 g4 g5
    have mv : Mv Av' Av H' H' := ⟨fun _ _ _ z _ => z, fun a z => (s'.keep a z).elim .inl fun y => absurd y (by simp)⟩
    obtain ⟨ws, k1, k2⟩ := r'.pen.at'
    exact h C x fs H' g1 (fex s') g2 g3 g4 (mv.drs g5) ⟨⟨ws, k1, mv.drs k2⟩, r'.pen.tabs⟩
  | stuck =>
    rw [e] at h
    exact h.elim
end
section
variable {X : Cx} {W : WX} {pos : Pos} {k : Nat} {f : Addr} {fd : FuncData} {ps : List Str} {sp : Sp} {x : Str} {p : Pos}
theorem run_fnG {E : L2.St → XK} {pins : List (Addr × Obj)} {σ : L2.St} {H : Hp} {s : Shared} {Q : VK} {us : List Value} {vs : List V} (F : FnG X.prog X.w X.K X.mg X.base k f fd ps sp) (hr : RoomG k X.A) (hb : L2.Binds X.K fd ps []) (hx : PassesAt (L2.CX X.prog X.w) X σ (E σ))
    (I : Inv X pins σ H s) (r : Vals vs us) (h : sp vs H Q (E σ)) : wpAny (model X.prog X.w) X.A (call (.ref f) us) (EP X pins σ Q) X.xe s := by
  have hl : us.length = ps.length := by rw [← r.length]; exact F.len _ _ _ _ h
  have b := hb s us I.kIn (by rw [List.append_nil]; exact hl)
  rw [List.append_nil] at b
  refine wpAny_call (codeAny_mono (F.run X.A X.stack s H ⟨us, []⟩ us vs Q (E σ) hr I.env0 b r h) fun r s' hq => ?_)
  cases r with
  | error e => exact hx pins H s e s' I hq
  | ok fl =>
    cases fl with
    | ret u => exact I.after hq
    | next => exact False.elim hq
    | brk => exact False.elim hq
    | cont => exact False.elim hq
theorem pe_callG {E : L2.St → XK} {e : Expr} {es : List Expr} {t : TA} (F : FnG X.prog X.w X.K X.mg X.base k f fd ps sp) (hr : RoomG k X.A) (hg : Gl X x) (hm : X.mg x = some (.ref f)) (hk : PySem.W.keepIn X.K (.ref f) = true) (hb : L2.Binds X.K fd ps []) (hx : ∀ σ, PassesAt (L2.CX X.prog X.w) X σ (E σ))
    (ha : PA X (e :: es) t) (hdb : (x == ("__debug__" : Str)) = false := by decide) (he : starEach (e :: es) X.env = (false, eval e X.env) :: starEach es X.env := by rfl) (hpl : (backTo pos (starEach es X.env)).any (·.1) = false := by rfl) :
    PE X (.Call (.Name x p) (e :: es) [] pos) (tCallS sp E t) := by
  refine ⟨fun pins s σ H Q I h => ?_⟩
  refine wpAny_Call_Name_kw (ld_glob I hg hm ?_ hdb)
  refine PySem.W.callWith_K (h₀ := X.base) I.ok.mod.kin hk (thn (ha.run pos pins s σ H _ I h) fun us s1 ⟨vs, H1, I1, r, q⟩ => ⟨I1.kIn, ?_⟩) he hpl
  exact run_fnG F hr hb (hx σ) I1 r q
theorem pe_callG0 {E : L2.St → XK} (F : FnG X.prog X.w X.K X.mg X.base k f fd ps sp) (hr : RoomG k X.A) (hg : Gl X x) (hm : X.mg x = some (.ref f)) (hk : PySem.W.keepIn X.K (.ref f) = true) (hb : L2.Binds X.K fd ps []) (hx : ∀ σ, PassesAt (L2.CX X.prog X.w) X σ (E σ))
    (hdb : (x == ("__debug__" : Str)) = false := by decide) : PE X (.Call (.Name x p) [] [] pos) (tCallS sp E tNil) := by
  refine ⟨fun pins s σ H Q I h => ?_⟩
  refine wpAny_Call_Name_kw (ld_glob I hg hm ?_ hdb)
  exact PySem.W.callWith_K0 I.kIn hk (run_fnG (us := []) F hr hb (hx σ) I .nil h)
theorem pe1_w {K : PySem.W.Frag} {mg : Str → Option Value} {pa : Addr} {Av : List Addr} {W W' : WX} {σ σ' : L2.St} {H : Hp} {Q : VK} {r : R D} (hw : ∀ cls d H', W cls d σ H' → W' cls d σ' H') (h : PE1 K mg pa Av W σ H Q r) : PE1 K mg pa Av W' σ' H Q r := by
  cases r with
  | ok d p => exact h
  | exc c ks ds p => exact fun C x fs H' h1 h2 h3 h4 h5 h6 h7 => hw _ _ _ (h C x fs H' h1 h2 h3 h4 h5 h6 h7)
  | stuck => exact h
theorem rd_call {K : PySem.W.Frag} {mg : Str → Option Value} {n : Nat} {F : List D → List D → R D} {fa : FL} (hlen : ∀ ρ p ds p', fa ρ p = .ok ds p' → ds.length = n) (σ : L2.St) (H : Hp) (Q : VK) (h : TD K mg W (fCall F fa) σ H Q) : tCallS (spF K mg n F) (WE W) (TAr K mg W fa) σ H Q := by
  obtain ⟨pa, Av, ρ, p, r, h⟩ := h
  refine ⟨pa, Av, ρ, p, r, ?_⟩
  unfold fCall at h
  cases q : fa ρ p with
  | exc c ks ds p1 =>
    rw [q] at h
    exact h
  | stuck =>
    rw [q] at h
    exact h
  | ok ds p1 =>
    rw [q] at h
    intro vs H1 e1 hd hk1
    have r1 := r.step e1 hk1
    refine ⟨by rw [hd.length]; exact hlen _ _ _ _ q, pa, Av, ds, p1, r1.base, hk1, hd, ?_⟩
    exact pe1_w (σ := σ) (fun _ _ _ h => h) (PE1.later e1 hk1.live h)
/-- a call of a def -/
theorem de_call {e : Expr} {es : List Expr} {n : Nat} {F : List D → List D → R D} {fa : FL} (G : FnG X.prog X.w X.K X.mg X.base k f fd ps (spF X.K X.mg n F)) (hr : RoomG k X.A) (hm : X.mg x = some (.ref f)) (hk : PySem.W.keepIn X.K (.ref f) = true)
    (hb : L2.Binds X.K fd ps []) (tk : Takes X W) (ha : DA X W (e :: es) fa) (hn : (e :: es).length = n := by rfl) (hg : Gl X x := by rfl) (hdb : (x == ("__debug__" : Str)) = false := by decide)
    (he : starEach (e :: es) X.env = (false, eval e X.env) :: starEach es X.env := by rfl) (hpl : (backTo pos (starEach es X.env)).any (·.1) = false := by rfl) (hlen : ∀ ρ p ds p', fa ρ p = .ok ds p' → ds.length = n := by intro _ _ _ _ h; exact h) :
    DE X W (.Call (.Name x p) (e :: es) [] pos) (fCall F fa) := (pe_callG G hr hg hm hk hb (fun σ => passAt tk σ) ha hdb he hpl).imp (rd_call hlen)
/-- .. of no argument -/
def fCall0 (F : List D → List D → R D) : FE := fun _ p => F [] p
theorem de_call0 {F : List D → List D → R D} (G : FnG X.prog X.w X.K X.mg X.base k f fd [] (spF X.K X.mg 0 F)) (hr : RoomG k X.A) (hm : X.mg x = some (.ref f)) (hk : PySem.W.keepIn X.K (.ref f) = true)
    (hb : L2.Binds X.K fd [] []) (tk : Takes X W) (hg : Gl X x := by rfl) (hdb : (x == ("__debug__" : Str)) = false := by decide) : DE X W (.Call (.Name x p) [] [] pos) (fCall0 F) := (pe_callG0 G hr hg hm hk hb (fun σ => passAt tk σ) hdb).imp fun σ H Q h => by
  obtain ⟨pa, Av, ρ, p, r, h⟩ := h
  exact ⟨rfl, pa, Av, [], p, r.base, r.pen, .nil, pe1_w (σ := σ) (fun _ _ _ h => h) h⟩
end
end Dn
end

section
set_option Elab.async false
set_option linter.all false
set_option maxRecDepth 100000
set_option maxHeartbeats 4000000
namespace Dn
open PySem PySem.Spec PyProof.Rows L2
def LenOf (f : FL) (n : Nat) : Prop := ∀ ρ p ds p', f ρ p = .ok ds p' → ds.length = n
theorem ln_nil : LenOf fNil 0 := fun ρ p ds p' h => by cases h; rfl
theorem ln_cons {f : FE} {g : FL} {n : Nat} (h : LenOf g n) : LenOf (fCons f g) (n + 1) := fun ρ p ds p' e => by
  unfold fCons at e
  cases q : f ρ p with
  | ok d p1 =>
    rw [q] at e
    cases q2 : g ρ p1 with
    | ok es p2 =>
      simp only [bnd_ok, q2] at e
      cases e
      rw [List.length_cons, h _ _ _ _ q2]
    | exc => simp only [bnd_ok, q2, bnd_exc] at e; cases e
    | stuck => simp only [bnd_ok, q2, bnd_stuck] at e; cases e
  | exc => rw [q] at e; cases e
  | stuck => rw [q] at e; cases e
theorem hu64 {k : Nat} {A : Around} (h : RoomG k A) : A.units + 64 < cLine := h.units
theorem hu65 {k : Nat} {A : Around} (h : RoomG k A) : A.units + 65 < cLine := by have := h.r.un; omega
section
variable {X : Cx} {W : WX} {pos : Pos}
/-- a chain of two comparisons, as a value and as a test -/
def fChain (g g' : D → D → List D → R D) (fa fb fc : FE) : FE := fun ρ p => (fa ρ p).bnd fun x p => (fb ρ p).bnd fun y p => (g x y p).bnd fun z p => match z with
  | .bl true => (fc ρ p).bnd fun w p => g' y w p
  | .bl false => .ok (.bl false) p
  | _ => .stuck
/-- the answers of such an operator: a truth, the heap as it was -/
def PureB (K : PySem.W.Frag) (mg : Str → Option Value) (r : R2) (g : D → D → List D → R D) : Prop :=
  ∀ pa Av H p v w d e, Base pa Av H → PenOk K mg pa Av H p → DR K mg pa Av H v d → DR K mg pa Av H w e → (∃ b, g d e p = .ok (.bl b) p ∧ ∀ Q : VK, Q (.bl b) H → r v w H Q) ∨ g d e p = .stuck
theorem le_p {K : PySem.W.Frag} {mg : Str → Option Value} : PureB K mg (fun x y H Q => rI0 (fun i j => .bl (decide (i ≤ j))) x y H Q ∨ ∃ i j, x = .str i ∧ y = .str j ∧ Q (.bl (!decide (j.cps.toList < i.cps.toList))) H) gLe := by
  intro pa Av H p v w d e b k hd he
  unfold gLe
  split
  · cases hd; cases he
    exact .inl ⟨_, rfl, fun Q q => .inl ⟨_, _, rfl, rfl, q⟩⟩
  · cases hd; cases he
    exact .inl ⟨_, rfl, fun Q q => .inr ⟨_, _, rfl, rfl, q⟩⟩
  · exact .inr rfl
theorem lt_p {K : PySem.W.Frag} {mg : Str → Option Value} : PureB K mg (fun x y H Q => rI0 (fun i j => .bl (decide (i < j))) x y H Q ∨ ∃ i j, x = .str i ∧ y = .str j ∧ Q (.bl (decide (i.cps.toList < j.cps.toList))) H) gLt := by
  intro pa Av H p v w d e b k hd he
  unfold gLt
  split
  · cases hd; cases he
    exact .inl ⟨_, rfl, fun Q q => .inl ⟨_, _, rfl, rfl, q⟩⟩
  · cases hd; cases he
    exact .inl ⟨_, rfl, fun Q q => .inr ⟨_, _, rfl, rfl, q⟩⟩
  · exact .inr rfl
theorem de_chain {op op' : CmpOp} {r r' : R2} {g g' : D → D → List D → R D} {a b c : Expr} {fa fb fc : FE} (ho : OpR X (compareOp op) r) (ho' : OpR X (compareOp op') r') (hp : PureB X.K X.mg r g) (hr' : OpD X.K X.mg r' g') (ha : DE X W a fa) (hb : DE X W b fb) (hc : DE X W c fc)
    (hm : lastMarks [op, op'] [b, c] = false := by with_unfolding_all rfl) : DE X W (.Compare a [op, op'] [b, c] pos) (fChain g g' fa fb fc) := (pe_chain ho ho' ha hb hc hm).imp fun σ H Q h => by
  obtain ⟨pa, Av, ρ, p, rl, h⟩ := h
  refine seqE (Z := fun H r => PE1 X.K X.mg pa Av W σ H Q r) rl (fun _ _ _ _ h => h) id h fun d p1 v H1 e1 hd r1 h1 => ?_
  have h1 := PE1.later e1 r1.pen.live h1
  refine seqE (Z := fun H r => PE1 X.K X.mg pa Av W σ H Q r) r1 (fun _ _ _ _ h => h) id h1 fun e p2 w H2 e2 he r2 h2 => ?_
  have h2 := PE1.later e2 r2.pen.live h2
  have hd2 := (r1.base.mv e2).dr hd
  rcases hp pa Av H2 p2 v w d e r2.base r2.pen hd2 he with ⟨k, ek, hk⟩ | ek
  · rw [ek] at h2
    refine hk _ ⟨k, rfl, ?_⟩
    cases k with
    | true =>
      rw [if_pos rfl]
      refine seqE (Z := fun H r => PE1 X.K X.mg pa Av W σ H Q r) r2 (fun _ _ _ _ h => h) id h2 fun z p3 u H3 e3 hz r3 h3 => ?_
      exact hr' pa Av W σ H3 p3 Q w u e z r3.base r3.pen ((r2.base.mv e3).dr he) hz (PE1.later e3 r3.pen.live h3)
    | false =>
      rw [if_neg Bool.false_ne_true]
      exact h2 _ H2 (Ext.refl _) (.bl _) r2.pen
  · rw [ek] at h2
    exact h2.elim
theorem dt_chain {op op' : CmpOp} {r r' : R2} {g g' : D → D → List D → R D} {a b c : Expr} {fa fb fc : FE} (ho : OpR X (compareOp op) r) (ho' : OpR X (compareOp op') r') (hp : PureB X.K X.mg r g) (hp' : PureB X.K X.mg r' g') (ha : DE X W a fa) (hb : DE X W b fb) (hc : DE X W c fc)
    (hm : lastMarks [op, op'] [b, c] = false := by with_unfolding_all rfl) : DT X W (.Compare a [op, op'] [b, c] pos) (fTst (fChain g g' fa fb fc)) := (pt_chain ho ho' ha hb hc hm).imp fun σ H Q h => by
  obtain ⟨pa, Av, ρ, p, rl, h⟩ := h
  unfold fTst fChain at h
  cases qa : fa ρ p with
  | exc => rw [qa] at h; exact ⟨pa, Av, ρ, p, rl, by rw [qa]; exact h⟩
  | stuck => rw [qa] at h; exact h.elim
  | ok d p1 =>
    rw [qa] at h
    refine ⟨pa, Av, ρ, p, rl, ?_⟩
    rw [qa]
    intro v H1 e1 hd k1
    have r1 := rl.step e1 k1
    have h := PT1.later e1 k1.live h
    simp only [bnd_ok] at h
    refine ⟨pa, Av, ρ, p1, r1, ?_⟩
    cases qb : fb ρ p1 with
    | exc => rw [qb] at h; exact h
    | stuck => rw [qb] at h; exact h.elim
    | ok e p2 =>
      rw [qb] at h
      intro w H2 e2 he k2
      have r2 := r1.step e2 k2
      have h := PT1.later e2 k2.live h
      simp only [bnd_ok] at h
      have hd2 := (r1.base.mv e2).dr hd
      rcases hp pa Av H2 p2 v w d e r2.base r2.pen hd2 he with ⟨k, ek, hk⟩ | ek
      · rw [ek] at h
        refine hk _ ⟨k, rfl, ?_⟩
        cases k with
        | true =>
          rw [if_pos rfl]
          refine ⟨pa, Av, ρ, p2, r2, ?_⟩
          simp only [bnd_ok] at h
          cases qc : fc ρ p2 with
          | exc => rw [qc] at h; exact h
          | stuck => rw [qc] at h; exact h.elim
          | ok z p3 =>
            rw [qc] at h
            intro u H3 e3 hz k3
            have r3 := r2.step e3 k3
            have h := PT1.later e3 k3.live h
            simp only [bnd_ok] at h
            rcases hp' pa Av H3 p3 w u e z r3.base r3.pen ((r2.base.mv e3).dr he) hz with ⟨k', ek', hk'⟩ | ek'
            · rw [ek'] at h
              exact hk' _ ⟨k', rfl, h H3 (Ext.refl _) r3.pen⟩
            · rw [ek'] at h
              exact h.elim
        | false =>
          rw [if_neg Bool.false_ne_true]
          exact ⟨false, rfl, h H2 (Ext.refl _) r2.pen⟩
      · rw [ek] at h
        exact h.elim
/-- an expression's truth -/
def D.tru : D → Option Bool
  | .non => some false
  | .bl b => some b
  | .int i => some (i != 0)
  | .lst ds => some (!ds.isEmpty)
  | .tup ds => some (!ds.isEmpty)
  | .dk ks _ => some (!ks.isEmpty)
  | _ => none
def fTru (f : FE) : FT := fun ρ p => (f ρ p).bnd fun d p => match d.tru with
  | some b => .ok b p
  | none => .stuck
theorem dt_tru {e : Expr} {f : FE} (he : DE X W e f) (hs : ∀ whole, isTrue e X.env whole = (do let v ← whole; standAt e.pos; holding [v] (truthy v)) := by intro _; rfl) : DT X W e (fTru f) := (pt_truth he hs).imp fun σ H Q h => by
  obtain ⟨pa, Av, ρ, p, r, h⟩ := h
  refine seqE (Z := fun H r => PT1 X.K X.mg pa Av W σ H Q r) r (fun _ _ _ _ h => h) id h fun d p1 v H1 e1 hd r1 h1 => ?_
  have h1 := PT1.later e1 r1.pen.live h1
  cases hd with
  | non => exact ⟨false, rfl, h1 H1 (Ext.refl _) r1.pen⟩
  | bl b => exact ⟨b, rfl, h1 H1 (Ext.refl _) r1.pen⟩
  | int i => exact ⟨_, rfl, h1 H1 (Ext.refl _) r1.pen⟩
  | str x => exact h1.elim
  | pen => exact h1.elim
  | lst g n q =>
    refine ⟨_, .inl ⟨_, .of g, rfl⟩, ?_⟩
    cases q with
    | nil => exact h1 H1 (Ext.refl _) r1.pen
    | cons _ _ => exact h1 H1 (Ext.refl _) r1.pen
  | tup g q =>
    refine ⟨_, .inr (.inl ⟨_, g.sq, rfl⟩), ?_⟩
    cases q with
    | nil => exact h1 H1 (Ext.refl _) r1.pen
    | cons _ _ => exact h1 H1 (Ext.refl _) r1.pen
  | @dk a kvs ks vs ds g n e1 e2 q =>
    refine ⟨!kvs.isEmpty, .inr (.inr ⟨_, g, rfl⟩), ?_⟩
    have : (!kvs.isEmpty) = !ks.isEmpty := by rw [← e1]; cases kvs <;> rfl
    rw [this]
    exact h1 H1 (Ext.refl _) r1.pen
  | dt g n e1 e2 q => exact h1.elim
  | ins g1 g2 g3 n1 n2 e1 e2 q => exact h1.elim
  | ex g1 g2 g3 n1 n2 e1 e2 q => exact h1.elim
/-! ### enumerate, zip of lists -/
def enumD : Nat → List D → List D
  | _, [] => []
  | i, d :: ds => .tup [.int (i : Nat), d] :: enumD (i + 1) ds
theorem enumD_get : ∀ (k : Nat) (ds : List D) (i : Nat), (enumD k ds)[i]? = (ds[i]?).map fun d => .tup [.int ((k + i : Nat)), d]
  | _, [], i => by simp [enumD]
  | k, d :: ds, 0 => by simp [enumD]
  | k, d :: ds, i + 1 => by
    have := enumD_get (k + 1) ds i
    simp only [enumD, List.getElem?_cons_succ, this]
    congr 2
    funext d
    have : k + 1 + i = k + (i + 1) := by omega
    rw [this]
theorem enumD_len : ∀ (k : Nat) (ds : List D), (enumD k ds).length = ds.length
  | _, [] => rfl
  | k, d :: ds => congrArg (· + 1) (enumD_len (k + 1) ds)
def fEnum (f : FE) : FL := fun ρ p => (f ρ p).bnd fun d p => match d with
  | .lst ds => .ok (enumD 0 ds) p
  | _ => .stuck
theorem walk_enum {K : PySem.W.Frag} {mg : Str → Option Value} {pa : Addr} {Av : List Addr} {H : Hp} {a : Addr} {vs : List V} {ds : List D} (h : H a = some (.lst vs)) (n : a ∉ Av) (q : DRs K mg pa Av H vs ds) : WalkD K mg pa Av (Ite K a) H (enumD 0 ds) := fun H' Av' m b => by
  have h' := m.ext _ _ n h
  refine ⟨fun i d e => ?_, ⟨vs, .of h', by rw [enumD_len, q.length]; exact Nat.le_refl _⟩⟩
  rw [enumD_get, Nat.zero_add] at e
  cases e0 : ds[i]? with
  | none => rw [e0] at e; cases e
  | some d0 =>
    rw [e0] at e
    cases e
    obtain ⟨v, hv, hr⟩ := q.get e0
    refine ⟨⟨vs, v, .of h', hv⟩, fun x H'' y => ?_⟩
    obtain ⟨T, z, rfl, hT, rfl, hz⟩ := y
    have := (hz vs (.of h')).symm.trans hv
    cases this
    refine ⟨fun c o g => by rw [upd_ne (ne_of_none g hT)]; exact g, ?_⟩
    exact .tup (.of upd_same (b.fresh hT)) (drs_new hT (.cons (.int _) (.cons (m.dr hr) .nil)))
theorem di_enum {e : Expr} {p1 tpos : Pos} {elts : List Expr} {kk : Nat} {f : FE} (hm : X.mg "enumerate" = none) (he : DE X W e f) (hg : Gl X "enumerate" := by rfl) (hs : starEach [e] X.env = [(false, eval e X.env)] := by rfl) :
    DI X W (.Tuple elts kk tpos) (.Call (.Name "enumerate" p1) [e] [] pos) (fEnum f) := (pi_enum hg hm (pa_cons he pa_nil hs) hs).imp fun σ H Q h => by
  obtain ⟨pa, Av, ρ, p, r, h⟩ := h
  refine seqE (Z := fun H r => PI1 X.K X.mg pa Av W σ H Q r) r (fun _ _ _ _ h => h) id h fun d p1 v H1 e1 hd r1 h1 => ?_
  have h1 := PI1.later e1 r1.pen.live h1
  cases d with
  | lst ds =>
    cases hd with
    | lst g1 n1 q1 => exact ⟨_, _, rfl, .of g1, h1 _ H1 (Ext.refl _) (walk_enum g1 n1 q1) r1.pen⟩
  | _ => exact h1.elim
def zipD : List D → List D → List D
  | d :: ds, e :: es => .tup [d, e] :: zipD ds es
  | _, _ => []
theorem zipD_get : ∀ (ds es : List D) (i : Nat), (zipD ds es)[i]? = (match ds[i]?, es[i]? with | some d, some e => some (D.tup [d, e]) | _, _ => none)
  | [], es, i => by simp [zipD]
  | d :: ds, [], i => by
    simp only [zipD, List.getElem?_nil]
    split <;> rename_i h1 h2 <;> first | rfl | (cases h2)
  | d :: ds, e :: es, 0 => by simp [zipD]
  | d :: ds, e :: es, i + 1 => by
    have := zipD_get ds es i
    simp only [zipD, List.getElem?_cons_succ, this]
theorem zipD_len : ∀ (ds es : List D), (zipD ds es).length = min ds.length es.length
  | [], es => by simp [zipD]
  | d :: ds, [] => by simp [zipD]
  | d :: ds, e :: es => by
    simp only [zipD, List.length_cons, zipD_len ds es]
    omega
def fZip (f g : FE) : FL := fun ρ p => (f ρ p).bnd fun d p => (g ρ p).bnd fun e p => match d, e with
  | .lst ds, .lst es => .ok (zipD ds es) p
  | .tup ds, .tup es => .ok (zipD ds es) p
  | _, _ => .stuck
section
variable {K : PySem.W.Frag} {mg : Str → Option Value} {pa : Addr} {Av : List Addr} {H : Hp} {a b : Addr} {vs ws : List V} {ds es : List D}
theorem walk_zip (h : H a = some (.lst vs)) (n : a ∉ Av) (q : DRs K mg pa Av H vs ds) (h2 : H b = some (.lst ws)) (n2 : b ∉ Av) (q2 : DRs K mg pa Av H ws es) : WalkD K mg pa Av (Itz K a b) H (zipD ds es) := fun H' Av' m bs => by
  have h' := m.ext _ _ n h
  have h2' := m.ext _ _ n2 h2
  have l1 := q.length
  have l2 := q2.length
  refine ⟨fun i d e => ?_, ⟨vs, ws, .of h', .of h2', by rw [zipD_len]; omega⟩⟩
  rw [zipD_get] at e
  split at e
  · next d0 e0 g1 g2 =>
    cases e
    obtain ⟨v, hv, hr⟩ := q.get g1
    obtain ⟨w, hw, hs⟩ := q2.get g2
    refine ⟨⟨vs, ws, v, w, .of h', .of h2', hv, hw⟩, fun x H'' y => ?_⟩
    obtain ⟨T, z, u, rfl, hT, rfl, hz, hu⟩ := y
    have e1 := (hz vs (.of h')).symm.trans hv
    have e2 := (hu ws (.of h2')).symm.trans hw
    cases e1
    cases e2
    refine ⟨fun c o g => by rw [upd_ne (ne_of_none g hT)]; exact g, ?_⟩
    exact .tup (.of upd_same (bs.fresh hT)) (drs_new hT (.cons (m.dr hr) (.cons (m.dr hs) .nil)))
  · cases e
theorem walk_zipT (h : SqTa K Av H a vs) (q : DRs K mg pa Av H vs ds) (h2 : SqTa K Av H b ws) (q2 : DRs K mg pa Av H ws es) : WalkD K mg pa Av (RZ.ItzT K a b) H (zipD ds es) := fun H' Av' m bs => by
  have h' := (m.sqt h).sq
  have h2' := (m.sqt h2).sq
  have l1 := q.length
  have l2 := q2.length
  refine ⟨fun i d e => ?_, ⟨vs, ws, h', h2', by rw [zipD_len]; omega⟩⟩
  rw [zipD_get] at e
  split at e
  · next d0 e0 g1 g2 =>
    cases e
    obtain ⟨v, hv, hr⟩ := q.get g1
    obtain ⟨w, hw, hs⟩ := q2.get g2
    refine ⟨⟨vs, ws, v, w, h', h2', hv, hw⟩, fun x H'' y => ?_⟩
    obtain ⟨T, z, u, rfl, hT, rfl, hz, hu⟩ := y
    have e1 := (hz vs h').symm.trans hv
    have e2 := (hu ws h2').symm.trans hw
    cases e1
    cases e2
    refine ⟨fun c o g => by rw [upd_ne (ne_of_none g hT)]; exact g, ?_⟩
    exact .tup (.of upd_same (bs.fresh hT)) (drs_new hT (.cons (m.dr hr) (.cons (m.dr hs) .nil)))
  · cases e
end
theorem di_zip {e e2 : Expr} {p1 tpos : Pos} {elts : List Expr} {kk : Nat} {f g : FE} (hm : X.mg "zip" = none) (he : DE X W e f) (he2 : DE X W e2 g) (hg : Gl X "zip" := by rfl) (hs : starEach [e, e2] X.env = (false, eval e X.env) :: starEach [e2] X.env := by rfl) (hs2 : starEach [e2] X.env = (false, eval e2 X.env) :: starEach [] X.env := by rfl)
    (hpl : (backTo pos (starEach [e2] X.env)).any (·.1) = false := by rfl) : DI X W (.Tuple elts kk tpos) (.Call (.Name "zip" p1) [e, e2] [] pos) (fZip f g) := (RZ.pi_zipA hg hm (pa_cons he (pa_cons he2 pa_nil hs2) hs) hs hpl).imp fun σ H Q h => by
  obtain ⟨pa, Av, ρ, p, r, h⟩ := h
  refine seqE (Z := fun H r => PI1 X.K X.mg pa Av W σ H Q r) r (fun _ _ _ _ h => h) id h fun d p1 v H1 e1 hd r1 h1 => ?_
  have h1 := PI1.later e1 r1.pen.live h1
  refine seqE (Z := fun H r => PI1 X.K X.mg pa Av W σ H Q r) r1 (fun _ _ _ _ h => h) id h1 fun e p2 w H2 e2 he r2 h2 => ?_
  have h2 := PI1.later e2 r2.pen.live h2
  have hd2 := (r1.base.mv e2).dr hd
  cases d with
  | lst ds =>
    cases e with
    | lst es =>
      cases hd2 with
      | lst g1 n1 q1 =>
        cases he with
        | lst g2 n2 q2 => exact ⟨_, _, _, _, rfl, .inl ⟨.of g1, .of g2, h2 _ H2 (Ext.refl _) (walk_zip g1 n1 q1 g2 n2 q2) r2.pen⟩⟩
    | _ => exact h2.elim
  | tup ds =>
    cases e with
    | tup es =>
      cases hd2 with
      | tup g1 q1 =>
        cases he with
        | tup g2 q2 => exact ⟨_, _, _, _, rfl, .inr ⟨g1.sq, g2.sq, h2 _ H2 (Ext.refl _) (walk_zipT g1 q1 g2 q2) r2.pen⟩⟩
    | _ => exact h2.elim
  | _ => exact h2.elim
end
end Dn
end

section
set_option Elab.async false
set_option linter.all false
set_option maxRecDepth 100000
set_option maxHeartbeats 4000000
namespace Dn
open PySem PySem.Spec PyProof.Rows L2
section
variable {X : Cx} {W : WX} {pos : Pos}
/-! ### what is never reached -/
def fStuck : FE := fun _ _ => .stuck
def sStuck : FS := fun _ _ => .stuck
theorem de_stuck {e : Expr} : DE X W e fStuck := ⟨fun pins s σ H Q I h => by
  obtain ⟨pa, Av, ρ, p, r, h⟩ := h
  exact h.elim⟩
theorem ds_stuck {e : Stmt} : DS X W e sStuck := ⟨fun pins s σ H Q I h => by
  obtain ⟨pa, Av, ρ, p, F, r, s, h⟩ := h
  exact h.elim⟩
end
/-! ### parallel assignment -/
section
variable {K : PySem.W.Frag} {mg : Str → Option Value} {pa : Addr} {F : Fr} {Av Av' : List Addr} {σ σ' : L2.St} {ρ ρ' : List Sl} {H H' : Hp} {p p' : List D} {W : WX}
/-- more is avoided: new addresses -/
theorem Rel.wide (r : Rel K mg pa Av σ H ρ p) (e : Ext pa H H') (sub : ∀ a ∈ Av, a ∈ Av') (new : ∀ a ∈ Av', a ∈ Av ∨ (H a = none ∧ H' a ≠ none)) (k : PenOk K mg pa Av' H' p') : Rel K mg pa Av' σ H' ρ p' := by
  have mv : Mv Av Av' H H' := ⟨fun a o n h t => (r.base.mv e).ext a o n h t, fun a h => (new a h).imp id And.left⟩
  refine ⟨fun i d h => ?_, fun i ds h => ?_, r.sep, k, ⟨sub _ r.base.mem, fun a h => ?_⟩, r.len⟩
  · obtain ⟨v, h1, h2⟩ := r.val i d h
    exact ⟨v, h1, mv.dr h2⟩
  · obtain ⟨a, vs, h1, h2, h3, h4, h5⟩ := r.own i ds h
    exact ⟨a, vs, h1, sub _ h2, h3, e _ _ h3 h4, mv.drs h5⟩
  · rcases new a h with z | z
    · exact e.live k.live (r.base.liv a z)
    · exact z.2
theorem SI.wide (s : SI pa F Av σ ρ H) (e : Ext pa H H') (hp : H' pa ≠ none) (sub : ∀ a ∈ Av, a ∈ Av') (new : ∀ a ∈ Av', a ∈ Av ∨ (H a = none ∧ H' a ≠ none)) : SI pa F Av' σ ρ H' := by
  have s' := s.step e hp
  refine ⟨s'.ext, s'.own, fun a h => ?_, fun a h => (s'.keep a h).imp (sub a) id, s'.liv, s'.av0⟩
  rcases new a h with z | z
  · exact s.av a z
  · refine .inr ?_
    cases q : F.H0 a with
    | none => rfl
    | some o => exact absurd z.1 (s.liv a (by rw [q]; simp))
/-- a slot gets a list that nobody owns yet -/
theorem Rel.give {i : Nat} {a : Addr} {vs : List V} {ds : List D} (r : Rel K mg pa Av σ H ρ p) (hA : a ∈ Av) (npa : a ≠ pa) (ha : H a = some (.lst vs)) (hd : DRs K mg pa Av H vs ds) (no : ¬ Own ρ σ a) :
    Rel K mg pa Av (σ.set i (some (.ref a))) H (ρ.set i (.own ds)) p := by
  have apart : ∀ (m : Nat) (gs : List D), ρ[m]? = some (Sl.own gs) → σ[m]? ≠ some (some (V.ref a)) := fun m gs hm z => no ⟨m, gs, hm, z⟩
  have at_i : ∀ m : Nat, m = i → i < ρ.length → (σ.set i (some (V.ref a)))[m]? = some (some (V.ref a)) := fun m z hl => by
    subst z
    exact List.getElem?_set_self (by rw [← r.len]; exact hl)
  refine ⟨fun j d hj => ?_, fun j es hj => ?_, fun j k es fs hj hk q => ?_, r.pen, r.base, by rw [List.length_set, List.length_set]; exact r.len⟩
  · rcases set_cases hj with ⟨_, e1, _⟩ | ⟨hne, hj⟩
    · cases e1
    · obtain ⟨w, h1, h2⟩ := r.val j d hj
      exact ⟨w, by rw [List.getElem?_set_ne (Ne.symm hne)]; exact h1, h2⟩
  · rcases set_cases hj with ⟨rfl, e1, hl⟩ | ⟨hne, hj⟩
    · cases e1
      exact ⟨a, vs, List.getElem?_set_self (by rw [← r.len]; exact hl), hA, npa, ha, hd⟩
    · obtain ⟨c, ws, h1, h2⟩ := r.own j es hj
      exact ⟨c, ws, by rw [List.getElem?_set_ne (Ne.symm hne)]; exact h1, h2⟩
  · rcases set_cases hj with ⟨z1, e1, hl⟩ | ⟨hne, hj⟩
    · rcases set_cases hk with ⟨z2, e2, hl2⟩ | ⟨hne2, hk2⟩
      · rw [z1, z2]
      · rw [at_i j z1 hl, List.getElem?_set_ne (Ne.symm hne2)] at q
        exact absurd q.symm (apart k fs hk2)
    · rcases set_cases hk with ⟨z2, e2, hl2⟩ | ⟨hne2, hk2⟩
      · rw [at_i k z2 hl2, List.getElem?_set_ne (Ne.symm hne)] at q
        exact absurd q (apart j es hj)
      · rw [List.getElem?_set_ne (Ne.symm hne), List.getElem?_set_ne (Ne.symm hne2)] at q
        exact r.sep j k es fs hj hk2 q
theorem SI.give {i : Nat} {a : Addr} {ds : List D} (s : SI pa F Av σ ρ H) (h0 : F.H0 a = none) : SI pa F Av (σ.set i (some (.ref a))) (ρ.set i (.own ds)) H := by
  refine ⟨s.ext, fun c ⟨j, es, h1, h2⟩ => ?_, s.av, s.keep, s.liv, s.av0⟩
  rcases set_cases h1 with ⟨rfl, e1, hl⟩ | ⟨hne, h1⟩
  · have : (σ.set j (some (V.ref a)))[j]? = some (some (.ref a)) := by
      by_cases hs : j < σ.length
      · exact List.getElem?_set_self hs
      · rw [List.getElem?_eq_none (by rw [List.length_set]; omega)] at h2
        cases h2
    rw [this] at h2
    cases h2
    exact .inr h0
  · rw [List.getElem?_set_ne (Ne.symm hne)] at h2
    exact s.own c ⟨j, es, h1, h2⟩
/-- values and new lists of one's own -/
inductive SlR (K : PySem.W.Frag) (mg : Str → Option Value) (pa : Addr) (Av : List Addr) (H0 H : Hp) : V → Sl → Prop
  | val {v : V} {d : D} : DR K mg pa Av H v d → SlR K mg pa Av H0 H v (.val d)
  | own {a : Addr} {vs : List V} {ds : List D} : H0 a = none → a ∈ Av → H a = some (.lst vs) → DRs K mg pa Av H vs ds → SlR K mg pa Av H0 H (.ref a) (.own ds)
inductive SlRs (K : PySem.W.Frag) (mg : Str → Option Value) (pa : Addr) (Av : List Addr) (H0 H : Hp) : List V → List Sl → Prop
  | nil : SlRs K mg pa Av H0 H [] []
  | cons {v : V} {vs : List V} {d : Sl} {ds : List Sl} : SlR K mg pa Av H0 H v d → SlRs K mg pa Av H0 H vs ds → (∀ es, d = .own es → ∀ (j : Nat) fs, ds[j]? = some (Sl.own fs) → vs[j]? ≠ some v) → SlRs K mg pa Av H0 H (v :: vs) (d :: ds)
abbrev FP := List Sl → List D → R (List Sl)
def PP1 (K : PySem.W.Frag) (mg : Str → Option Value) (pa : Addr) (Av : List Addr) (W : WX) (σ : L2.St) (H : Hp) (Q : List V → Hp → Prop) : R (List Sl) → Prop
  | .ok ss p' => ∀ vs H' Av', Ext pa H H' → (∀ a ∈ Av, a ∈ Av') → (∀ a ∈ Av', a ∈ Av ∨ (H a = none ∧ H' a ≠ none)) → SlRs K mg pa Av' H H' vs ss → PenOk K mg pa Av' H' p' → Q vs H'
  | .exc c ks ds p' => PX K mg pa Av W σ H c ks ds p'
  | .stuck => False
def TPr (K : PySem.W.Frag) (mg : Str → Option Value) (W : WX) (f : FP) : TA := fun σ H Q => ∃ pa Av ρ p, Rel K mg pa Av σ H ρ p ∧ PP1 K mg pa Av W σ H Q (f ρ p)
end
abbrev DP (X : Cx) (W : WX) (es : List Expr) (f : FP) : Prop := PA X es (TPr X.K X.mg W f)
def pNil : FP := fun _ p => .ok [] p
def pVal (f : FE) (g : FP) : FP := fun ρ p => (f ρ p).bnd fun d p => (g ρ p).bnd fun ds p => .ok (.val d :: ds) p
def pOwn (f : FL) (g : FP) : FP := fun ρ p => (f ρ p).bnd fun d p => (g ρ p).bnd fun ds p => .ok (.own d :: ds) p
section
variable {K : PySem.W.Frag} {mg : Str → Option Value} {pa : Addr} {Av Av' : List Addr} {H0 H0' H H' : Hp} {W : WX} {σ : L2.St} {Q : List V → Hp → Prop}
theorem PX.wide {c : Str} {ks : List Str} {ds p : List D} (e : Ext pa H H') (hp : H' pa ≠ none) (sub : ∀ a ∈ Av, a ∈ Av') (h : PX K mg pa Av W σ H c ks ds p) : PX K mg pa Av' W σ H' c ks ds p := fun C x fs H2 h1 h2 h3 h4 h5 h6 h7 => by
  have mv : Mv Av' Av H2 H2 := ⟨fun _ _ _ z _ => z, fun a z => .inl (sub a z)⟩
  obtain ⟨vs, k1, k2⟩ := h7.at'
  exact h C x fs H2 h1 (e.trans h2) (fresh_back e hp h3) h4 h5 (mv.drs h6) ⟨⟨vs, k1, mv.drs k2⟩, h7.tabs⟩
/-- .. later -/
theorem PP1.go {k : List Sl → List Sl} {ρ : List Sl} {r : R (List Sl)} (e : Ext pa H H') (hp : H' pa ≠ none) (sub : ∀ a ∈ Av, a ∈ Av') (new : ∀ a ∈ Av', a ∈ Av ∨ (H a = none ∧ H' a ≠ none)) (h : PP1 K mg pa Av W σ H Q (r.bnd fun ds p => .ok (k ds) p))
    {v : V} (hk : ∀ vs H2 Av2 ds p', Ext pa H' H2 → (∀ a ∈ Av', a ∈ Av2) → (∀ a ∈ Av2, a ∈ Av' ∨ (H' a = none ∧ H2 a ≠ none)) → SlRs K mg pa Av2 H' H2 vs ds → PenOk K mg pa Av2 H2 p' → SlRs K mg pa Av2 H H2 (v :: vs) (k ds)) :
    PP1 K mg pa Av' W σ H' (fun vs H2 => Q (v :: vs) H2) r := by
  cases r with
  | ok ds p' =>
    intro vs H2 Av2 e2 s2 n2 q2 k2
    refine h (v :: vs) H2 Av2 (e.trans e2) (fun a z => s2 a (sub a z)) (fun a z => ?_) (hk vs H2 Av2 ds p' e2 s2 n2 q2 k2) k2
    rcases n2 a z with y | y
    · rcases new a y with u | u
      · exact .inl u
      · exact .inr ⟨u.1, e2.live k2.live u.2⟩
    · exact .inr ⟨fresh_back e hp y.1, y.2⟩
  | exc c ks ds p' => exact PX.wide e hp sub h
  | stuck => exact h.elim
theorem SlRs.back {vs : List V} {ss : List Sl} (e : ∀ a, H0 a = none → H0' a = none) (h : SlRs K mg pa Av H0 H vs ss) : SlRs K mg pa Av H0' H vs ss := by
  induction h with
  | nil => exact .nil
  | cons a b c ih =>
    refine .cons ?_ ih c
    cases a with
    | val h => exact .val h
    | own h1 h2 h3 h4 => exact .own (e _ h1) h2 h3 h4
theorem SlRs.own {vs : List V} {ss : List Sl} (h : SlRs K mg pa Av H0 H vs ss) : ∀ {j : Nat} {fs : List D}, ss[j]? = some (.own fs) → ∃ a, vs[j]? = some (.ref a) ∧ H0 a = none := by
  induction h with
  | nil => intro j fs e; simp at e
  | cons a b c ih =>
    intro j fs e
    cases j with
    | zero =>
      simp at e
      subst e
      cases a with
      | own h1 h2 h3 h4 => exact ⟨_, by simp, h1⟩
    | succ j => exact ih (by simpa using e)
end
section
variable {X : Cx} {W : WX} {pos : Pos}
theorem dp_nil : DP X W [] pNil := L2.PA.imp pa_nil fun σ H Q h => by
  obtain ⟨pa, Av, ρ, p, r, h⟩ := h
  exact h [] H Av (Ext.refl H) (fun _ z => z) (fun _ z => .inl z) .nil r.pen
theorem dp_val {e : Expr} {es : List Expr} {f : FE} {g : FP} (ha : DE X W e f) (hr : DP X W es g) (hs : starEach (e :: es) X.env = (false, eval e X.env) :: starEach es X.env := by rfl) : DP X W (e :: es) (pVal f g) := (pa_cons ha hr hs).imp fun σ H Q h => by
  obtain ⟨pa, Av, ρ, p, rl, h⟩ := h
  refine seqE (Z := fun H r => PP1 X.K X.mg pa Av W σ H Q r) rl (fun _ _ _ _ h => h) id h fun d p1 v H1 e1 hd r1 h1 => ⟨pa, Av, ρ, p1, r1, ?_⟩
  refine PP1.go (ρ := ρ) e1 r1.pen.live (fun _ z => z) (fun _ z => .inl z) h1 fun vs H2 Av2 ds p' e2 s2 n2 q2 k2 => ?_
  have mv : Mv Av Av2 H1 H2 := ⟨fun a o n h t => (r1.base.mv e2).ext a o n h t, fun a z => (n2 a z).imp id And.left⟩
  exact .cons (.val (mv.dr hd)) (q2.back fun a z => fresh_back e1 r1.pen.live z) (fun es z => by cases z)
theorem dp_own {e : Expr} {es : List Expr} {f : FL} {g : FP} (ha : DL X W e f) (hr : DP X W es g) (hs : starEach (e :: es) X.env = (false, eval e X.env) :: starEach es X.env := by rfl) : DP X W (e :: es) (pOwn f g) := (pa_cons ha hr hs).imp fun σ H Q h => by
  obtain ⟨pa, Av, ρ, p, rl, h⟩ := h
  refine ⟨pa, Av, ρ, p, rl, ?_⟩
  unfold pOwn at h
  cases ef : f ρ p with
  | exc c ks ds p1 =>
    rw [ef] at h
    exact h
  | stuck =>
    rw [ef] at h
    exact h.elim
  | ok d p1 =>
    rw [ef] at h
    intro a vs1 H1 e1 hn ha1 hd hk
    have sub : ∀ b ∈ Av, b ∈ a :: Av := fun b z => List.mem_cons_of_mem _ z
    have new : ∀ b ∈ a :: Av, b ∈ Av ∨ (H b = none ∧ H1 b ≠ none) := fun b z => by
      rcases List.mem_cons.mp z with y | y
      · subst y
        exact .inr ⟨hn, by rw [ha1]; simp⟩
      · exact .inl y
    have r1 := rl.wide e1 sub new hk
    have npa : a ≠ pa := fun z => rl.pen.live (z ▸ hn)
    refine ⟨pa, a :: Av, ρ, p1, r1, PP1.go (ρ := ρ) e1 hk.live sub new h fun vs H2 Av2 ds p' e2 s2 n2 q2 k2 => ?_⟩
    have mv : Mv (a :: Av) Av2 H1 H2 := ⟨fun a o n h t => (r1.base.mv e2).ext a o n h t, fun a z => (n2 a z).imp id And.left⟩
    refine .cons (.own hn (s2 _ List.mem_cons_self) (e2 _ _ npa ha1) (mv.drs hd)) (q2.back fun a z => fresh_back e1 hk.live z) (fun es z j fs hj q => ?_)
    obtain ⟨b, g1, g2⟩ := q2.own hj
    rw [q] at g1
    cases g1
    rw [ha1] at g2
    cases g2
/-- the slots are filled -/
def setAll : List Nat → List Sl → List Sl → List Sl
  | i :: is, s :: ss, ρ => setAll is ss (ρ.set i s)
  | _, _, ρ => ρ
def setAllV : List Nat → List V → L2.St → L2.St
  | i :: is, v :: vs, σ => setAllV is vs (σ.set i (some v))
  | _, _, σ => σ
theorem rel_all {K : PySem.W.Frag} {mg : Str → Option Value} {pa : Addr} {F : Fr} {Av : List Addr} {H0 H : Hp} {p : List D} (back : ∀ a, H0 a = none → F.H0 a = none) : ∀ {vs : List V} {ss : List Sl} {is : List Nat} {σ : L2.St} {ρ : List Sl},
    SlRs K mg pa Av H0 H vs ss → is.Nodup → Rel K mg pa Av σ H ρ p → SI pa F Av σ ρ H → (∀ a, Own ρ σ a → ∀ j : Nat, ∀ fs, ss[j]? = some (.own fs) → vs[j]? ≠ some (.ref a)) → (∀ a, H0 a = none → a ≠ pa) →
    Rel K mg pa Av (setAllV is vs σ) H (setAll is ss ρ) p ∧ SI pa F Av (setAllV is vs σ) (setAll is ss ρ) H
  | _, _, is, σ, ρ, .nil, _, r, s, _, _ => by
    cases is <;> exact ⟨r, s⟩
  | v :: vs, d :: ds, [], σ, ρ, .cons _ _ _, _, r, s, _, _ => ⟨r, s⟩
  | v :: vs, d :: ds, i :: is, σ, ρ, .cons h q ne, nd, r, s, no, npa => by
    have nd' := List.nodup_cons.mp nd
    cases h with
    | @val _ d h =>
      refine rel_all back (vs := vs) (ss := ds) (is := is) q nd'.2 (r.setV h) s.setV (fun a ha j fs hj => ?_) npa
      obtain ⟨k, gs, h1, h2⟩ := ha
      rcases set_cases h1 with ⟨_, e, _⟩ | ⟨n, h1⟩
      · cases e
      · rw [List.getElem?_set_ne (Ne.symm n)] at h2
        have := no a ⟨k, gs, h1, h2⟩ (j + 1) fs (by simpa using hj)
        simpa using this
    | @own a ws es h1 h2 h3 h4 =>
      refine rel_all back (vs := vs) (ss := ds) (is := is) q nd'.2 (r.give h2 (npa a h1) h3 h4 fun z => no a z 0 es (by simp) (by simp)) (s.give (back a h1)) (fun b hb j fs hj => ?_) npa
      obtain ⟨k, gs, g1, g2⟩ := hb
      rcases set_cases g1 with ⟨z, e, hl⟩ | ⟨n, g1⟩
      · have : (σ.set i (some (V.ref a)))[k]? = some (some (.ref a)) := by
          rw [z]
          exact List.getElem?_set_self (by rw [← r.len]; exact hl)
        rw [this] at g2
        cases g2
        exact ne _ rfl j fs hj
      · rw [List.getElem?_set_ne (Ne.symm n)] at g2
        have := no b ⟨k, gs, g1, g2⟩ (j + 1) fs (by simpa using hj)
        simpa using this
def sPar (is : List Nat) (f : FP) : FS := fun ρ p => (f ρ p).bnd fun ss p => if ss.length = is.length then .ok (.nx, setAll is ss ρ) p else .stuck
theorem SlRs.length {K : PySem.W.Frag} {mg : Str → Option Value} {pa : Addr} {Av : List Addr} {H0 H : Hp} : ∀ {vs : List V} {ss : List Sl}, SlRs K mg pa Av H0 H vs ss → vs.length = ss.length
  | _, _, .nil => rfl
  | _, _, .cons _ q _ => congrArg (· + 1) q.length
theorem rd_par {K : PySem.W.Frag} {mg : Str → Option Value} {is : List Nat} {f : FP} (nd : is.Nodup) (D : Ends) (σ : L2.St) (H : Hp) (h : TSd K mg W (sPar is f) D σ H) : TPr K mg W f σ H fun vs H1 => vs.length = is.length ∧ D.nx (setAllV is vs σ) H1 := by
  obtain ⟨pa, Av, ρ, p, F, r, s, h⟩ := h
  refine ⟨pa, Av, ρ, p, r, ?_⟩
  unfold sPar at h
  cases e : f ρ p with
  | exc c ks ds p1 =>
    rw [e] at h
    exact px_of r s h
  | stuck =>
    rw [e] at h
    exact h.elim
  | ok ss p1 =>
    rw [e] at h
    have h : PS1 K mg pa W F D (if ss.length = is.length then R.ok (Fl.nx, setAll is ss ρ) p1 else R.stuck) := h
    obtain ⟨hl, h⟩ := Dn.D.ite_ok (Z := PS1 K mg pa W F D) id h
    intro vs H1 Av' e1 sub new q k
    refine ⟨q.length.trans hl, ?_⟩
    have r1 := r.wide e1 sub new k
    have s1 := s.wide e1 k.live sub new
    have back : ∀ a, H a = none → F.H0 a = none := fun a z => by
      cases y : F.H0 a with
      | none => rfl
      | some o => exact absurd z (s.liv a (by rw [y]; simp))
    obtain ⟨r2, s2⟩ := rel_all (is := is) back q nd r1 s1 (fun a ha j fs hj z => by
      obtain ⟨b, g1, g2⟩ := q.own hj
      rw [z] at g1
      cases g1
      obtain ⟨k, gs, k1, k2⟩ := ha
      obtain ⟨c, ws, l1, _, _, l4, _⟩ := r.own k gs k1
      rw [k2] at l1
      cases l1
      rw [g2] at l4
      cases l4) (fun a z y => r.pen.live (y ▸ z))
    exact h Av' _ H1 r2 s2
theorem ds_par {i j : Nat} {x y : Str} {a b : Expr} {f : FP} {px py pt : Pos} {kt k2 pt2} (hc : X.calm = true) (hN : X.N.Nodup) (ha : DP X W [a, b] f) (hi : X.N[i]? = some x := by rfl) (hj : X.N[j]? = some y := by rfl) (hij : [i, j].Nodup := by decide)
    (hx : X.env.scope.names.lookup x = some .local := by rfl) (hy : X.env.scope.names.lookup y = some .local := by rfl)
    (hw : swappedStores [.Tuple [.Name x px, .Name y py] kt pt] (.Tuple [a, b] k2 pt2) X.env = pure (some [x, y]) := by rfl)
    (hs : swapsWithSole [.Tuple [.Name x px, .Name y py] kt pt] (.Tuple [a, b] k2 pt2) pos.line X.env = pure false := by rfl) :
    DS X W (.Assign [.Tuple [.Name x px, .Name y py] kt pt] (.Tuple [a, b] k2 pt2) pos) (sPar [i, j] f) :=
  L2.PS.imp (ps_par hc hN hi hj (by simpa using hij) hx hy ha hw hs) fun D σ H h => by
    obtain ⟨pa, Av, ρ, p, r, h⟩ := rd_par hij D σ H h
    refine ⟨pa, Av, ρ, p, r, ?_⟩
    cases e : f ρ p with
    | exc c ks ds p1 => rw [e] at h; exact h
    | stuck => rw [e] at h; exact h
    | ok ss p1 =>
      rw [e] at h
      intro vs H1 Av' g1 g2 g3 g4 g5
      obtain ⟨hl, q⟩ := h vs H1 Av' g1 g2 g3 g4 g5
      match vs, hl with
      | [v, w], _ => exact ⟨v, w, rfl, q⟩
theorem ds_par3 {i j l : Nat} {x y z : Str} {a b c : Expr} {f : FP} {px py pz pt : Pos} {kt k2 pt2} (hc : X.calm = true) (hN : X.N.Nodup) (ha : DP X W [a, b, c] f) (hi : X.N[i]? = some x := by rfl) (hj : X.N[j]? = some y := by rfl) (hl : X.N[l]? = some z := by rfl) (hij : [i, j, l].Nodup := by decide)
    (hx : X.env.scope.names.lookup x = some .local := by rfl) (hy : X.env.scope.names.lookup y = some .local := by rfl) (hz : X.env.scope.names.lookup z = some .local := by rfl)
    (hw : swappedStores [.Tuple [.Name x px, .Name y py, .Name z pz] kt pt] (.Tuple [a, b, c] k2 pt2) X.env = pure (some [x, y, z]) := by rfl)
    (hs : swapsWithSole [.Tuple [.Name x px, .Name y py, .Name z pz] kt pt] (.Tuple [a, b, c] k2 pt2) pos.line X.env = pure false := by rfl) :
    DS X W (.Assign [.Tuple [.Name x px, .Name y py, .Name z pz] kt pt] (.Tuple [a, b, c] k2 pt2) pos) (sPar [i, j, l] f) := by
  have n := hij
  simp only [List.nodup_cons, List.mem_cons, List.not_mem_nil, or_false, not_or] at n
  refine L2.PS.imp (L2.ps_par3 hc hN hi hj hl n.1.1 n.1.2 n.2.1 hx hy hz ha hw hs) fun D σ H h => ?_
  obtain ⟨pa, Av, ρ, p, r, h⟩ := rd_par hij D σ H h
  refine ⟨pa, Av, ρ, p, r, ?_⟩
  cases e : f ρ p with
  | exc c ks ds p1 => rw [e] at h; exact h
  | stuck => rw [e] at h; exact h
  | ok ss p1 =>
    rw [e] at h
    intro vs H1 Av' g1 g2 g3 g4 g5
    obtain ⟨hl, q⟩ := h vs H1 Av' g1 g2 g3 g4 g5
    match vs, hl with
    | [u, v, w], _ => exact ⟨u, v, w, rfl, q⟩
end
end Dn
end

section
set_option Elab.async false
set_option linter.all false
set_option maxRecDepth 100000
set_option maxHeartbeats 4000000
namespace Dn
open PySem PySem.Spec PyProof.Rows L2
/-! ### a list or a tuple, by a truth -/
def SqX (t : Bool) (K : PySem.W.Frag) (H : Hp) (a : Addr) (xs : List V) : Prop := match t with
  | true => SqT K H a xs
  | false => SqL K H a xs
def ItX (t : Bool) (h : Heap) (i a : Addr) (k : Nat) : Prop := match t with
  | true => h.IsTupleIter i a k
  | false => h.IsListIter i a k
def CtX (t : Bool) (h : Heap) (a : Addr) (its : Array Value) : Prop := match t with
  | true => h.IsTuple a its
  | false => h.IsList a its
def itO (t : Bool) (a : Addr) : Obj := match t with
  | true => { cls := .type "tuple_iterator", data := .fields #[.ref a, .int 0 0] }
  | false => { cls := .type "list_iterator", data := .fields #[.ref a, .int 0 0] }
theorem drawsX {prog : Program} {w : World} {A : Around} (t : Bool) (hh : A.handled = none) (it l : Addr) (hne : l ≠ it) (items : Array Value) :
    Draws prog w A it [it, l] items.size (fun i v => items[i]? = some v) (fun i h => ItX t h it l i ∧ CtX t h l items) := by
  cases t
  · exact Draws.list hh it l hne items
  · exact Draws.tuple hh it l hne items
theorem beginsX (t : Bool) (l : Addr) (items : Array Value) : Begins (.ref l) (itO t l) fun h => CtX t h l items := by
  cases t
  · exact begins_list l items
  · exact begins_tuple l items
theorem ctX_of {X : Cx} {pins : List (Addr × Obj)} {σ : L2.St} {H : Hp} {s : Shared} {t : Bool} {a : Addr} {xs : List V} (I : Inv X pins σ H s) (h : SqX t X.K H a xs) : ∃ its : List Value, Vals xs its ∧ CtX t s.heap a its.toArray ∧ a < s.heap.objs.size := by
  cases t
  · obtain ⟨its, r, p, _⟩ := I.list h
    exact ⟨its, r, p.isList, p.lt⟩
  · obtain ⟨its, r, p, _⟩ := I.tuple h
    obtain ⟨o, ho, _⟩ := id p
    exact ⟨its, r, (show s.heap.IsTuple a its.toArray from p), Heap.lt_size ho⟩
theorem sqX_inj {X : Cx} {pins : List (Addr × Obj)} {σ : L2.St} {H : Hp} {s : Shared} {t : Bool} {a : Addr} {xs ys : List V} (I : Inv X pins σ H s) (h : SqX t X.K H a xs) (g : SqX t X.K H a ys) : xs = ys := by
  cases t
  · exact I.list_inj h g
  · exact I.tuple_inj h g
theorem itX_at {t : Bool} {h h' : Heap} {i a : Addr} {k : Nat} (x : ItX t h i a k) (e : ∀ o, h.get? i = some o → h'.get? i = some o) : ItX t h' i a k := by
  cases t
  · exact Heap.IsListIter.at x e
  · exact Heap.IsTupleIter.at x e
theorem itX_obj {t : Bool} {h : Heap} {i a : Addr} {k : Nat} (x : ItX t h i a k) : ∃ o, h.get? i = some o ∧ ∀ v, o.data ≠ .cell v := by
  cases t
  · obtain ⟨o, e, _, d⟩ := x
    exact ⟨o, e, fun v q => by rw [d] at q; cases q⟩
  · obtain ⟨o, e, _, d⟩ := x
    exact ⟨o, e, fun v q => by rw [d] at q; cases q⟩
theorem itX_new {t : Bool} {h : Heap} {i a : Addr} (x : h.get? i = some (itO t a)) : ItX t h i a 0 := by
  cases t
  · exact ⟨_, x, rfl, rfl⟩
  · exact ⟨_, x, rfl, rfl⟩
/-! ### zip of two of any kind -/
def ItM (t1 t2 : Bool) (K : PySem.W.Frag) (a b : Addr) : It :=
  ⟨fun i H => ∃ (xs ys : List V) (x y : V), SqX t1 K H a xs ∧ SqX t2 K H b ys ∧ xs[i]? = some x ∧ ys[i]? = some y,
    fun i H v H' => ∃ T x y, v = .ref T ∧ H T = none ∧ H' = upd H T (.tup [x, y]) ∧ (∀ xs, SqX t1 K H a xs → xs[i]? = some x) ∧ ∀ ys, SqX t2 K H b ys → ys[i]? = some y,
    fun i H => ∃ xs ys : List V, SqX t1 K H a xs ∧ SqX t2 K H b ys ∧ i ≤ xs.length ∧ i ≤ ys.length ∧ (xs.length = i ∨ ys.length = i)⟩
theorem turn_zipM {P : Program} {w : World} {K : PySem.W.Frag} {elts : List Expr} {kk : Nat} {tpos : Pos} {t1 t2 : Bool} {a b z TI TO i1 i2 : Addr} (S : ZipSep2 z TI TO i1 i2 [i1, a] [i2, b]) (h12 : i1 ≠ i2) (ha1 : a ≠ i1) (hb2 : b ≠ i2) :
    Turn P w K (.Tuple elts kk tpos) (ItM t1 t2 K a b) [z, TI, TO, i1, i2] z (fun i h => IsZip h z TI TO .none ∧ IsTupOf2 h TI (.ref i1) (.ref i2) ∧ (∃ x y, IsTupOf2 h TO x y) ∧ ItX t1 h i1 a i ∧ ItX t2 h i2 b i) where
  mem := by simp
  obj := fun i h st c hc => by
    obtain ⟨hz, hTI, ⟨x, y, hTO⟩, e1, e2⟩ := st
    have e' : c = z ∨ c = TI ∨ c = TO ∨ c = i1 ∨ c = i2 := by simpa using hc
    rcases e' with q | q | q | q | q
    · rw [q]; exact ⟨_, hz, fun v q => nomatch q⟩
    · rw [q]; exact ⟨_, hTI, fun v q => nomatch q⟩
    · rw [q]; exact ⟨_, hTO, fun v q => nomatch q⟩
    · rw [q]; exact itX_obj e1
    · rw [q]; exact itX_obj e2
  keep := fun i h h' st k => by
    obtain ⟨hz, hTI, ⟨x, y, hTO⟩, h1, h2⟩ := st
    exact ⟨k z (by simp) _ hz, k TI (by simp) _ hTI, ⟨x, y, k TO (by simp) _ hTO⟩, itX_at h1 fun o q => k i1 (by simp) o q, itX_at h2 fun o q => k i2 (by simp) o q⟩
  item := by
    intro X hP hw hK hc i pins s σ H E I hf st hg
    subst hP hw hK
    obtain ⟨hz, hTI, ⟨x0, y0, hTO⟩, h1, h2⟩ := st
    obtain ⟨xs, ys, x, y, hqx, hqy, hx, hy⟩ := hg
    obtain ⟨its, rv, p, _⟩ := ctX_of I hqx
    obtain ⟨its2, rv2, p2, _⟩ := ctX_of I hqy
    obtain ⟨u, hu, ru⟩ := rv.get hx
    obtain ⟨u2, hu2, ru2⟩ := rv2.get hy
    have hzl : z < s.heap.objs.size := Heap.lt_size hz
    have lt1 : i < its.toArray.size := by have := (List.getElem?_eq_some_iff.mp hu).1; simpa using this
    have lt2 : i < its2.toArray.size := by have := (List.getElem?_eq_some_iff.mp hu2).1; simpa using this
    refine wpAny_pyNext_zipD2_item S (drawsX t1 (show X.A.in1.handled = none from I.ok.hd hc) i1 a ha1 its.toArray) (drawsX t2 (show X.A.in1.handled = none from I.ok.hd hc) i2 b hb2 its2.toArray) hz hTI hTO ⟨h1, p⟩ ⟨h2, p2⟩ lt1 lt2 fun x1 x2 h' tk g1 g2 z' TO' st1 st2 hT hsz hk => ?_
    have e1 : x1 = u := by
      have : its.toArray[i]? = some x1 := g1
      rw [show its.toArray[i]? = some u by simpa using hu] at this
      exact (Option.some.inj this).symm
    have e2 : x2 = u2 := by
      have : its2.toArray[i]? = some x2 := g2
      rw [show its2.toArray[i]? = some u2 by simpa using hu2] at this
      exact (Option.some.inj this).symm
    subst e1 e2
    refine ⟨_, rfl, wpAny_letOwnedTupleGo_zip (s := { s with heap := h', toks := tk }) z' fun h'' z'' sb => ?_⟩
    have hT2 : h''.get? s.heap.objs.size = some { cls := .type "tuple", data := .seq #[x1, x2] } := (sb.2 _ (Nat.ne_of_gt hzl)).trans hT
    have new : ObjOk X.prog X.w (upd H s.heap.objs.size (.tup [x, y])) h'' s.heap.objs.size (.tup [x, y]) :=
      ⟨by show 2 ≤ sizeLine; decide, [x1, x2], .cons ru (.cons ru2 .nil), ⟨_, hT2, rfl, _, rfl⟩⟩
    have I1 : Inv X pins σ (upd H s.heap.objs.size (.tup [x, y])) { s with heap := h'', toks := tk } :=
      I.turnedNew (t' := tk) (ch := [z, TI, TO, i1, i2]) (fun c o hb q => (sb.2 c (fun q' => hb (by simp [q']))).trans (hk c o (fun q' => hb (by simp [q'])) (fun q' => hb (by simp [q'])) (fun q' => hb (by simp [q'])) (fun q' => hb (by simp [q'])) q)) hf (Nat.le_refl _) new
    refine ⟨.ref s.heap.objs.size, _, I1, rfl, ⟨_, x, y, rfl, I.hok.fresh (Nat.le_refl _), rfl, fun l hl => by rw [sqX_inj I hl hqx]; exact hx, fun l hl => by rw [sqX_inj I hl hqy]; exact hy⟩, ⟨z'', ?_, ⟨x1, x2, ?_⟩, ?_, ?_⟩, fun c hcm => ?_⟩
    · exact (sb.2 _ S.TIz).trans (hk _ _ S.TIz S.TITO S.TIi1 S.TIi2 hTI)
    · exact (sb.2 _ S.TOz).trans TO'
    · exact itX_at st1.1 fun o q => (sb.2 _ (Ne.symm S.zi1)).trans q
    · exact itX_at st2.1 fun o q => (sb.2 _ (Ne.symm S.zi2)).trans q
    · have hlt : c < s.heap.objs.size := by
        have e' : c = z ∨ c = TI ∨ c = TO ∨ c = i1 ∨ c = i2 := by simpa using hcm
        rcases e' with q | q | q | q | q
        · rw [q]; exact hzl
        · rw [q]; exact Heap.lt_size hTI
        · rw [q]; exact Heap.lt_size hTO
        · rw [q]; obtain ⟨_, e1, _⟩ := itX_obj h1; exact Heap.lt_size e1
        · rw [q]; obtain ⟨_, e2, _⟩ := itX_obj h2; exact Heap.lt_size e2
      rw [upd_ne (Nat.ne_of_lt hlt)]
      exact (hf c hcm).1
  done := by
    intro X hP hw hK hc i pins s σ H E I hf st hg
    subst hP hw hK
    obtain ⟨hz, hTI, ⟨x0, y0, hTO⟩, h1, h2⟩ := st
    obtain ⟨xs, ys, hqx, hqy, l1, l2, hend⟩ := hg
    obtain ⟨its, rv, p, _⟩ := ctX_of I hqx
    obtain ⟨its2, rv2, p2, _⟩ := ctX_of I hqy
    have k1 := rv.length
    have k2 := rv2.length
    refine wpAny_pyNext_zipD2_end S (drawsX t1 (show X.A.in1.handled = none from I.ok.hd hc) i1 a ha1 its.toArray) (drawsX t2 (show X.A.in1.handled = none from I.ok.hd hc) i2 b hb2 its2.toArray) hz hTI hTO ⟨h1, p⟩ ⟨h2, p2⟩ (by simp; omega) (by simp; omega) (by simp; omega) fun h' tk hk => ⟨rfl, I.turnedL (t' := tk) (ch := [z, TI, TO, i1, i2]) (fun c o hb q =>
      hk c o (fun q' => hb (by simp [q'])) (fun q' => hb (by simp [q'])) (fun q' => hb (by simp [q'])) (fun q' => hb (by simp [q'])) q) hf⟩
  self := fun A i s Q E st h => wpAny_pyIter_zip st.1 h
def iZipM (K : PySem.W.Frag) (ta : TA) : TI := fun σ H R => ta σ H fun vs H1 => ∃ t1 t2 a b xs ys, vs = [.ref a, .ref b] ∧ SqX t1 K H1 a xs ∧ SqX t2 K H1 b ys ∧ R (ItM t1 t2 K a b) H1
theorem pi_zipM {X : Cx} {e e2 : Expr} {ta : TA} {p pos tpos : Pos} {elts : List Expr} {kk : Nat} (hg : Gl X "zip") (hm : X.mg "zip" = none) (ha : PA X [e, e2] ta)
    (hs : starEach [e, e2] X.env = (false, eval e X.env) :: starEach [e2] X.env := by rfl) (hpl : (backTo pos (starEach [e2] X.env)).any (·.1) = false := by rfl) :
    PI X (.Tuple elts kk tpos) (.Call (.Name "zip" p) [e, e2] [] pos) (iZipM X.K ta) := by
  refine ⟨fun pins s σ H R I h => ?_⟩
  refine Call_ (ld_blt I hg hm PyProof.Rows.boot_zip (PyProof.Rows.callWith_type1 (thn (ha.run pos pins s σ H _ I h) fun us s1 ⟨vs, H1, I1, r1, q1⟩ => ?_) hs hpl))
  obtain ⟨t1, t2, a, b, xs, ys, ex, hqx, hqy, q⟩ := q1
  subst ex
  cases r1 with
  | cons r rr =>
    cases rr with
    | cons r' rr =>
      cases rr
      cases r
      cases r'
      obtain ⟨its, rv, p1, lt1⟩ := ctX_of I1 hqx
      obtain ⟨its2, rv2, p2, lt2⟩ := ctX_of I1 hqy
      refine zip_begins2 (beginsX t1 a its.toArray) (beginsX t2 b its2.toArray) p1 p2 fun h' hz hTI hTO h1 h2 hsz hk => wpAny_pyIter_zip hz ?_
      have I2 : Inv X pins σ H1 { s1 with heap := h' } := I1.kept (t' := s1.toks) hk
      have fresh5 : ∀ c, c ∈ [s1.heap.objs.size + 4, s1.heap.objs.size + 2, s1.heap.objs.size + 3, s1.heap.objs.size, s1.heap.objs.size + 1] → FpOk X pins H1 c := fun c hcm => by
        have e' : c = s1.heap.objs.size + 4 ∨ c = s1.heap.objs.size + 2 ∨ c = s1.heap.objs.size + 3 ∨ c = s1.heap.objs.size ∨ c = s1.heap.objs.size + 1 := by simpa using hcm
        have hle : s1.heap.objs.size ≤ c := by
          rcases e' with z | z | z | z | z
          · rw [z]; exact Nat.le_add_right _ _
          · rw [z]; exact Nat.le_add_right _ _
          · rw [z]; exact Nat.le_add_right _ _
          · rw [z]; exact Nat.le_refl _
          · rw [z]; exact Nat.le_add_right _ _
        exact I1.fpOk hle (I1.hok.fresh hle)
      have S := zip_sep2 (N := s1.heap.objs.size) (fp1 := [a]) (fp2 := [b]) (fun c hc => by rw [List.mem_singleton.mp hc]; exact lt1) (fun c hc => by rw [List.mem_singleton.mp hc]; exact lt2)
      exact ⟨s1.heap.objs.size + 4, [s1.heap.objs.size + 4, s1.heap.objs.size + 2, s1.heap.objs.size + 3, s1.heap.objs.size, s1.heap.objs.size + 1], _, _, H1, rfl, I2,
        turn_zipM (t1 := t1) (t2 := t2) S (Nat.ne_of_lt (Nat.lt_succ_self _)) (Nat.ne_of_lt lt1) (Nat.ne_of_lt (Nat.lt_succ_of_lt lt2)), ⟨hz, hTI, ⟨_, _, hTO⟩, itX_new h1, itX_new h2⟩, fresh5, q⟩
end Dn
end

section
set_option Elab.async false
set_option linter.all false
set_option maxRecDepth 100000
set_option maxHeartbeats 4000000
namespace Dn
open PySem PySem.Spec PyProof.Rows L2
section
variable {K : PySem.W.Frag} {mg : Str → Option Value} {pa : Addr} {Av : List Addr} {H : Hp}
/-! ### zip of any two -/
theorem DR.sqx {v : V} {d : D} {ds : List D} (h : DR K mg pa Av H v d) (e : items d = some ds) : ∃ t a xs, v = .ref a ∧ DRs K mg pa Av H xs ds ∧ ∀ H' Av', Mv Av Av' H H' → SqX t K H' a xs ∧ DRs K mg pa Av' H' xs ds := by
  cases h with
  | lst s n q => cases e; exact ⟨false, _, _, rfl, q, fun H' Av' m => ⟨.of (m.ext _ _ n s), m.drs q⟩⟩
  | tup s q => cases e; exact ⟨true, _, _, rfl, q, fun H' Av' m => ⟨(m.sqt s).sq, m.drs q⟩⟩
  | _ => cases e
theorem walk_zipM {t1 t2 : Bool} {a b : Addr} {vs ws : List V} {ds es : List D} (q : DRs K mg pa Av H vs ds) (q2 : DRs K mg pa Av H ws es) (h1 : ∀ H' Av', Mv Av Av' H H' → SqX t1 K H' a vs ∧ DRs K mg pa Av' H' vs ds) (h2 : ∀ H' Av', Mv Av Av' H H' → SqX t2 K H' b ws ∧ DRs K mg pa Av' H' ws es) :
    WalkD K mg pa Av (ItM t1 t2 K a b) H (zipD ds es) := fun H' Av' m bs => by
  obtain ⟨s1, q1'⟩ := h1 H' Av' m
  obtain ⟨s2, q2'⟩ := h2 H' Av' m
  have l1 := q.length
  have l2 := q2.length
  refine ⟨fun i d e => ?_, ⟨vs, ws, s1, s2, by rw [zipD_len]; omega, by rw [zipD_len]; omega, by rw [zipD_len]; omega⟩⟩
  rw [zipD_get] at e
  split at e
  · next d0 e0 g1 g2 =>
    cases e
    obtain ⟨v, hv, hr⟩ := q1'.get g1
    obtain ⟨w, hw, hs⟩ := q2'.get g2
    refine ⟨⟨vs, ws, v, w, s1, s2, hv, hw⟩, fun x H'' y => ?_⟩
    obtain ⟨T, z, u, rfl, hT, rfl, hz, hu⟩ := y
    have e1 := (hz vs s1).symm.trans hv
    have e2 := (hu ws s2).symm.trans hw
    cases e1
    cases e2
    refine ⟨fun c o g => by rw [upd_ne (ne_of_none g hT)]; exact g, ?_⟩
    exact .tup (.of upd_same (bs.fresh hT)) (drs_new hT (.cons hr (.cons hs .nil)))
  · cases e
end
def fZipM (f g : FE) : FL := fun ρ p => (f ρ p).bnd fun d p => (g ρ p).bnd fun e p => match items d, items e with
  | some ds, some es => .ok (zipD ds es) p
  | _, _ => .stuck
section
variable {X : Cx} {W : WX} {pos : Pos}
theorem di_zipM {e e2 : Expr} {p1 tpos : Pos} {elts : List Expr} {kk : Nat} {f g : FE} (hm : X.mg "zip" = none) (he : DE X W e f) (he2 : DE X W e2 g) (hg : Gl X "zip" := by rfl) (hs : starEach [e, e2] X.env = (false, eval e X.env) :: starEach [e2] X.env := by rfl) (hs2 : starEach [e2] X.env = (false, eval e2 X.env) :: starEach [] X.env := by rfl)
    (hpl : (backTo pos (starEach [e2] X.env)).any (·.1) = false := by rfl) : DI X W (.Tuple elts kk tpos) (.Call (.Name "zip" p1) [e, e2] [] pos) (fZipM f g) := (pi_zipM hg hm (pa_cons he (pa_cons he2 pa_nil hs2) hs) hs hpl).imp fun σ H Q h => by
  obtain ⟨pa, Av, ρ, p, r, h⟩ := h
  refine seqE (Z := fun H r => PI1 X.K X.mg pa Av W σ H Q r) r (fun _ _ _ _ h => h) id h fun d p1 v H1 e1 hd r1 h1 => ?_
  have h1 := PI1.later e1 r1.pen.live h1
  refine seqE (Z := fun H r => PI1 X.K X.mg pa Av W σ H Q r) r1 (fun _ _ _ _ h => h) id h1 fun e p2 w H2 e2 he r2 h2 => ?_
  have h2 := PI1.later e2 r2.pen.live h2
  have hd2 := (r1.base.mv e2).dr hd
  split at h2
  · next ds es i1 i2 =>
    obtain ⟨t1, a, xs, rfl, q1, k1⟩ := hd2.sqx i1
    obtain ⟨t2, b, ys, rfl, q2, k2⟩ := he.sqx i2
    have mv : Mv Av Av H2 H2 := ⟨fun _ _ _ z _ => z, fun _ z => .inl z⟩
    exact ⟨t1, t2, a, b, xs, ys, rfl, (k1 H2 Av mv).1, (k2 H2 Av mv).1, h2 _ H2 (Ext.refl _) (walk_zipM q1 q2 k1 k2) r2.pen⟩
  · exact h2.elim
end
/-! ### sorted -/
def insI (x : Int) : List Int → List Int
  | [] => [x]
  | y :: ys => if x ≤ y then x :: y :: ys else y :: insI x ys
def isortI : List Int → List Int
  | [] => []
  | x :: xs => insI x (isortI xs)
theorem insI_perm (x : Int) : ∀ ys, (insI x ys).Perm (x :: ys)
  | [] => .refl _
  | y :: ys => by
    unfold insI
    split
    · exact .refl _
    · exact ((insI_perm x ys).cons y).trans (.swap x y ys)
theorem isortI_perm : ∀ xs, (isortI xs).Perm xs
  | [] => .refl _
  | x :: xs => (insI_perm x _).trans ((isortI_perm xs).cons x)
theorem insI_sorted (x : Int) : ∀ {ys : List Int}, ys.Pairwise (· ≤ ·) → (insI x ys).Pairwise (· ≤ ·)
  | [], _ => List.pairwise_singleton _ _
  | y :: ys, h => by
    have h' := List.pairwise_cons.mp h
    unfold insI
    split
    · next q => exact List.pairwise_cons.mpr ⟨fun z hz => by
        rcases List.mem_cons.mp hz with e | e
        · rw [e]; exact q
        · exact Int.le_trans q (h'.1 z e), h⟩
    · next q => exact List.pairwise_cons.mpr ⟨fun z hz => by
        rcases List.mem_cons.mp ((insI_perm x ys).mem_iff.mp hz) with e | e
        · rw [e]; omega
        · exact h'.1 z e, insI_sorted x h'.2⟩
theorem isortI_sorted : ∀ xs : List Int, (isortI xs).Pairwise (· ≤ ·)
  | [] => .nil
  | x :: xs => insI_sorted x (isortI_sorted xs)
theorem isortI_uniq {xs ys : List Int} (p : ys.Perm xs) (s : ys.Pairwise (· ≤ ·)) : ys = isortI xs :=
  List.Perm.eq_of_pairwise (fun a b _ _ h g => Int.le_antisymm h g) s (isortI_sorted xs) (p.trans (isortI_perm xs).symm)
def ltL : List Nat → List Nat → Bool
  | _, [] => false
  | [], _ :: _ => true
  | a :: as, b :: bs => decide (a < b) || (a == b && ltL as bs)
def gSorted : List D → List D → R (List D)
  | [.lst ds], p => match allOf D.int? ds with
    | some ns => .ok ((isortI ns).map .int) p
    | none => .stuck
  | _, _ => .stuck
theorem sorted_d {K : PySem.W.Frag} {mg : Str → Option Value} : CallDL K mg (rSortedI K) gSorted := by
  intro pa Av W σ H p Q vs ds b k hd h
  unfold gSorted at h
  split at h
  · split at h
    · next ns e =>
      obtain ⟨v, rfl, hv⟩ := drs1 hd
      cases hv with
      | lst h1 n1 q1 =>
        rw [allInt e] at q1
        refine ⟨_, ns, rfl, .of (by rw [← q1.ints]; exact h1), fun ns' a hp hs ha => ?_⟩
        rw [isortI_uniq hp hs]
        exact ans_lst b k (DRs.ofInts _) h a ha
    · exact h.elim
  · exact h.elim
/-! ### texts -/
def gJoin (a : Str) : D → List D → R D
  | .lst ds, p => match allOf D.str? ds with
    | some ys => if (ys.map (·.length)).sum + ys.length * a.length ≤ 16777216 then .ok (.str (Txt.join a ys)) p else .stuck
    | none => .stuck
  | .tup ds, p => match allOf D.str? ds with
    | some ys => if (ys.map (·.length)).sum + ys.length * a.length ≤ 16777216 then .ok (.str (Txt.join a ys)) p else .stuck
    | none => .stuck
  | _, _ => .stuck
def gCount (a : Str) : D → List D → R D
  | .str b, p => .ok (.int (Txt.count a b)) p
  | _, _ => .stuck
def MethD (K : PySem.W.Frag) (mg : Str → Option Value) (rm : V → List V → Hp → VK → Prop) (g : Str → D → List D → R D) : Prop :=
  ∀ pa Av W σ H p Q s w e, Base pa Av H → PenOk K mg pa Av H p → DR K mg pa Av H w e → PE1 K mg pa Av W σ H Q (g s e p) → rm (.str s) [w] H Q
def fMeth (g : Str → D → List D → R D) (fo fa : FE) : FE := fun ρ p => (fo ρ p).bnd fun d p => match d with
  | .str s => (fa ρ p).bnd fun e p => g s e p
  | _ => .stuck
section
variable {K : PySem.W.Frag} {mg : Str → Option Value}
def rJoin (K : PySem.W.Frag) : V → List V → Hp → VK → Prop := fun x xs H Q => ∃ a p, ∃ ys : List Str, x = .str a ∧ xs = [.ref p] ∧ (SqL K H p (ys.map V.str) ∨ SqT K H p (ys.map V.str)) ∧
    (ys.map (·.length)).sum + ys.length * a.length ≤ 16777216 ∧ Q (.str (Txt.join a ys)) H
theorem join_d : MethD K mg (rJoin K) gJoin := by
  intro pa Av W σ H p Q s w e b k he h
  unfold gJoin at h
  split at h
  · split at h
    · next ys e1 =>
      obtain ⟨hz, h⟩ := Dn.D.ite_ok (Z := PE1 K mg pa Av W σ H Q) id h
      cases he with
      | lst h1 n1 q1 =>
        rw [allStr e1] at q1
        exact ⟨s, _, ys, rfl, rfl, .inl (.of (by rw [← q1.strs]; exact h1)), hz, h _ H (Ext.refl _) (.str _) k⟩
    · exact h.elim
  · split at h
    · next ys e1 =>
      obtain ⟨hz, h⟩ := Dn.D.ite_ok (Z := PE1 K mg pa Av W σ H Q) id h
      cases he with
      | tup h1 q1 =>
        rw [allStr e1] at q1
        exact ⟨s, _, ys, rfl, rfl, .inr (by rw [← q1.strs]; exact h1.sq), hz, h _ H (Ext.refl _) (.str _) k⟩
    · exact h.elim
  · exact h.elim
theorem count_d : MethD K mg (fun x xs H Q => ∃ a b, x = .str a ∧ xs = [.str b] ∧ Q (.int (Txt.count a b)) H) gCount := by
  intro pa Av W σ H p Q s w e b k he h
  unfold gCount at h
  split at h
  · cases he
    exact ⟨s, _, rfl, rfl, h _ H (Ext.refl _) (.int _) k⟩
  · exact h.elim
theorem rd_meth {W : WX} {g : Str → D → List D → R D} {fo fa : FE} {rm : V → List V → Hp → VK → Prop} (hr : MethD K mg rm g) (σ : L2.St) (H : Hp) (Q : VK) (h : TD K mg W (fMeth g fo fa) σ H Q) : tBM K "str" rm (TD K mg W fo) (tCons (TD K mg W fa) tNil) σ H Q := by
  obtain ⟨pa, Av, ρ, p, rl, h⟩ := h
  refine seqE (Z := fun H r => PE1 K mg pa Av W σ H Q r) rl (fun _ _ _ _ h => h) id h fun d p1 v H1 e1 hd r1 h1 => ?_
  have h1 := PE1.later e1 r1.pen.live h1
  cases d with
  | str s =>
    cases hd
    refine ⟨rfl, ?_⟩
    refine seqE (Z := fun H r => PE1 K mg pa Av W σ H Q r) r1 (fun _ _ _ _ h => h) id h1 fun e p2 w H2 e2 he r2 h2 => ?_
    exact hr pa Av W σ H2 p2 Q s w e r2.base r2.pen he (PE1.later e2 r2.pen.live h2)
  | _ => exact h1.elim
end
section
variable {X : Cx} {W : WX} {pos apos : Pos}
theorem de_join {o e : Expr} {fo fa : FE} (ho : DE X W o fo) (ha : DE X W e fa) (hbase : attributeBase o "join" X.env (eval o X.env) = eval o X.env := by rfl)
    (hfew : ((backTo pos (starEach (e :: []) X.env)).all (fun x => !x.1) && (backToKw pos (keywordEach [] X.env)).all (fun x => x.1.isSome) && decide ((e :: ([] : List Expr)).length + ([] : List Keyword).length + (if ([] : List Keyword).isEmpty then 0 else 1) < 30)) = true := by rfl)
    (hline : (apos.endLine == pos.line) = true := by rfl) (hs : starEach [e] X.env = (false, eval e X.env) :: starEach [] X.env := by rfl) (hplain : (backTo pos (starEach [] X.env)).any (·.1) = false := by rfl) : DE X W (.Call (.Attribute o "join" apos) [e] [] pos) (fMeth gJoin fo fa) :=
  (pe_bm PySem.F.plainAttrs_str PySem.F.slot_str_join PySem.F.type_str_join mt_join ho (pa_cons ha pa_nil hs) hbase hfew hline hs hplain).imp (rd_meth join_d)
theorem de_count {o e : Expr} {fo fa : FE} (ho : DE X W o fo) (ha : DE X W e fa) (hbase : attributeBase o "count" X.env (eval o X.env) = eval o X.env := by rfl)
    (hfew : ((backTo pos (starEach (e :: []) X.env)).all (fun x => !x.1) && (backToKw pos (keywordEach [] X.env)).all (fun x => x.1.isSome) && decide ((e :: ([] : List Expr)).length + ([] : List Keyword).length + (if ([] : List Keyword).isEmpty then 0 else 1) < 30)) = true := by rfl)
    (hline : (apos.endLine == pos.line) = true := by rfl) (hs : starEach [e] X.env = (false, eval e X.env) :: starEach [] X.env := by rfl) (hplain : (backTo pos (starEach [] X.env)).any (·.1) = false := by rfl) : DE X W (.Call (.Attribute o "count" apos) [e] [] pos) (fMeth gCount fo fa) :=
  (pe_bm PySem.F.plainAttrs_str PySem.F.slot_str_count PySem.F.type_str_count mt_count ho (pa_cons ha pa_nil hs) hbase hfew hline hs hplain).imp (rd_meth count_d)
end
/-! ### repr -/
def D.sh (d : D) : Bool := PyData.layable0 d.toP && d.toP.showable && d.toP.intsShort 13 && d.fine
def gRepr : List D → List D → R D
  | [d], p => if d.sh then .ok (.str d.toP.shown) p else .stuck
  | _, _ => .stuck
def rRepr (K : PySem.W.Frag) : List V → Hp → VK → Prop := fun xs H Q => ∃ x d, xs = [x] ∧ Dp K H x d ∧ PyData.layable0 d = true ∧ d.showable = true ∧ d.intsShort 13 = true ∧ Q (.str d.shown) H
theorem call_reprD {X : Cx} (hg : X.A.guards = some []) (hu : X.A.units + 65 < cLine) : CallR X (.builtin "repr") (rRepr X.K) := by
  intro pins s σ H xs us Q I rx h
  obtain ⟨x, d, rfl, hd, hl, hs, hi, q⟩ := h
  obtain ⟨u, rfl, ru⟩ := vals1 rx
  have hz : d.shown.length ≤ sizeLine := Nat.le_trans (PyProof.Rows.shown_le13 hl hi) (by rw [line24]; decide)
  cases d with
  | none =>
    cases hd
    obtain rfl : u = Value.none := ru
    exact PySem.P.repr_of_none ⟨.str _, H, I.tok _, ⟨_, rfl⟩, q⟩
  | bool b =>
    cases hd
    obtain rfl : u = Value.bool b := ru
    exact PySem.P.repr_of_bool ⟨.str _, H, I.tok _, ⟨_, rfl⟩, q⟩
  | int i =>
    cases hd
    obtain ⟨t, rfl⟩ := ru
    exact PySem.P.repr_of_int (of_decide_eq_true hs) ⟨.str _, H, I.tok _, ⟨_, rfl⟩, q⟩
  | str y =>
    cases hd
    obtain ⟨t, rfl⟩ := ru
    exact PySem.P.repr_of_str ⟨.str _, H, I.tok _, ⟨_, rfl⟩, q⟩ hz
  | dict kvs => cases hd
  | list ds =>
    obtain ⟨as, r⟩ := Dp.reads I _ x u hd ru
    have hsm := PyData.noDict_hsm (as := as) (PyData.hasDict_of_layable hl)
    have hdp := PyData.depth_le_of_layable hl
    cases hd
    obtain rfl : u = Value.ref _ := ru
    exact PySem.repr_of_reads' r hs hsm hg (by omega) (fun _ _ e => e) (fun h' v tk hk => ⟨.str _, H, I.kept (t' := tk) hk, ⟨_, rfl⟩, q⟩) hz
  | tuple ds =>
    obtain ⟨as, r⟩ := Dp.reads I _ x u hd ru
    have hsm := PyData.noDict_hsm (as := as) (PyData.hasDict_of_layable hl)
    have hdp := PyData.depth_le_of_layable hl
    cases hd
    obtain rfl : u = Value.ref _ := ru
    exact PySem.repr_of_reads' r hs hsm hg (by omega) (fun _ _ e => e) (fun h' v tk hk => ⟨.str _, H, I.kept (t' := tk) hk, ⟨_, rfl⟩, q⟩) hz
theorem repr_d {K : PySem.W.Frag} {mg : Str → Option Value} : CallD K mg (rRepr K) gRepr := by
  intro pa Av W σ H p Q vs ds b k hd h
  unfold gRepr at h
  split at h
  · obtain ⟨v, rfl, hv⟩ := drs1 hd
    obtain ⟨hz, h⟩ := Dn.D.ite_ok (Z := PE1 K mg pa Av W σ H Q) id h
    unfold D.sh at hz
    simp only [Bool.and_eq_true] at hz
    exact ⟨v, _, rfl, hv.dp hz.2, hz.1.1.1, hz.1.1.2, hz.1.2, h _ H (Ext.refl _) (.str _) k⟩
  · exact h.elim
/-! ### f(k = e, ..) -/
section
variable {X : Cx} {W : WX} {pos : Pos} {k : Nat} {f : Addr} {fd : FuncData} {ps : List Str} {sp : Sp} {x : Str} {p : Pos}
/-- the values in the parameters' order: is says which keyword's value is each -/
def permL {α : Type} (is : List Nat) (l : List α) : List α := is.filterMap (l[·]?)
theorem Fun.kb {K : PySem.W.Frag} {x qual : Str} {st : Stmt} {f : Addr} {fd : FuncData} {ps ks : List Str} {is : List Nat} (F : L2.Fun K x qual st f fd)
    (h : ∀ (kV doc pm : Value) (an : Option Addr) (cdv ct : Value) (ws : List Value), ws.length = ks.length → bindArgs (PySem.W.fnOf x qual (defArgs st) (defBody st) (defScope st) .none kV doc pm an cdv ct) ⟨[], ks.zip ws⟩ = pure (ps.zip (permL is ws))) :
    ∀ (s : Shared) (ws : List Value), ws.length = ks.length → BindsTo s fd ⟨[], ks.zip ws⟩ (ps.zip (permL is ws)) := by
  obtain ⟨oc, od, kV, doc, pm, an, cdv, ct, osl, rfl, lk, hcd⟩ := F.ex
  exact fun s ws hl => .of_eq (h kV doc pm an cdv ct ws hl)
theorem vals_get {vs : List V} {us : List Value} (r : Vals vs us) : ∀ {i : Nat} {u : Value}, us[i]? = some u → ∃ v, vs[i]? = some v ∧ RelV v u := by
  induction r with
  | nil => intro i u e; simp at e
  | cons h t ih =>
    intro i u e
    cases i with
    | zero => simp at e; subst e; exact ⟨_, rfl, h⟩
    | succ i => exact ih (by simpa using e)
theorem vals_perm {vs : List V} {us : List Value} (r : Vals vs us) : ∀ is : List Nat, Vals (permL is vs) (permL is us)
  | [] => .nil
  | i :: is => by
    have ih := vals_perm r is
    have l := r.length
    cases e : us[i]? with
    | none =>
      have e2 : vs[i]? = none := by
        rw [List.getElem?_eq_none_iff] at e ⊢
        omega
      simp only [permL, List.filterMap_cons, e, e2]
      exact ih
    | some u =>
      obtain ⟨v, h1, h2⟩ := vals_get r e
      simp only [permL, List.filterMap_cons, e, h1]
      exact .cons h2 ih
theorem drs_perm {K : PySem.W.Frag} {mg : Str → Option Value} {pa : Addr} {Av : List Addr} {H : Hp} {vs : List V} {ds : List D} (q : DRs K mg pa Av H vs ds) : ∀ is : List Nat, DRs K mg pa Av H (permL is vs) (permL is ds)
  | [] => .nil
  | i :: is => by
    have ih := drs_perm q is
    have l := q.length
    cases e : ds[i]? with
    | none =>
      have e2 : vs[i]? = none := by
        rw [List.getElem?_eq_none_iff] at e ⊢
        omega
      simp only [permL, List.filterMap_cons, e, e2]
      exact ih
    | some u =>
      obtain ⟨v, h1, h2⟩ := q.get e
      simp only [permL, List.filterMap_cons, e, h1]
      exact .cons h2 ih
def tKw (is : List Nat) (sp : Sp) (E : L2.St → XK) (tk : TA) : TE := fun σ H Q => tk σ H fun zs H2 => sp (permL is zs) H2 Q (E σ)
theorem pe_kwG {E : L2.St → XK} {kws : List Keyword} {ks : List Str} {is : List Nat} {t : TA} (F : FnG X.prog X.w X.K X.mg X.base k f fd ps sp) (hr : RoomG k X.A) (hg : Gl X x) (hm : X.mg x = some (.ref f)) (hk : PySem.W.keepIn X.K (.ref f) = true)
    (hb : ∀ (s : Shared) (ws : List Value), ws.length = ks.length → BindsTo s fd ⟨[], ks.zip ws⟩ (ps.zip (permL is ws))) (hx : ∀ σ, PassesAt (L2.CX X.prog X.w) X σ (E σ)) (hkw : PK X kws t) (hn : ∀ σ H Q, t σ H Q → t σ H fun zs H2 => zs.length = ks.length ∧ Q zs H2)
    (hks : (backToKw pos (keywordEach kws X.env)).filterMap (·.1) = ks := by rfl) (hall : (backToKw pos (keywordEach kws X.env)).all (·.1.isSome) = true := by rfl) (hdb : (x == ("__debug__" : Str)) = false := by decide)
    (hpl : ((backTo pos (starEach [] X.env)).any (·.1) || (backToKw pos (keywordEach kws X.env)).any (·.1.isNone)) = false := by rfl) : PE X (.Call (.Name x p) [] kws pos) (tKw is sp E t) := by
  refine ⟨fun pins s σ H Q I h => ?_⟩
  refine wpAny_Call_Name_kw (ld_glob I hg hm ?_ hdb)
  refine PySem.W.callWith_KW0 (h₀ := X.base) I.ok.mod.kin hk hall (thn (hkw.run pos pins s σ H _ I (hn _ _ _ h)) fun ws s2 ⟨zs, H2, I2, rz, hl, q2⟩ => ⟨I2.kIn, ?_⟩) hpl
  rw [hks]
  have b := hb s2 ws (by rw [← rz.length]; exact hl)
  refine wpAny_call (codeAny_mono (F.run X.A X.stack s2 H2 ⟨[], ks.zip ws⟩ (permL is ws) (permL is zs) Q (E σ) hr I2.env0 b (vals_perm rz is) q2) fun r s' hq => ?_)
  cases r with
  | error e => exact hx σ pins H2 s2 e s' I2 hq
  | ok fl =>
    cases fl with
    | ret u => exact I2.after hq
    | next => exact False.elim hq
    | brk => exact False.elim hq
    | cont => exact False.elim hq
abbrev DK (X : Cx) (W : WX) (es : List Keyword) (f : FL) : Prop := PK X es (TAr X.K X.mg W f)
theorem _root_.L2.PK.imp {X : Cx} {e : List Keyword} {t t' : TA} (h : PK X e t) (i : ∀ σ H Q, t' σ H Q → t σ H Q) : PK X e t' := ⟨fun pos pins s σ H Q I q => h.run pos pins s σ H Q I (i σ H Q q)⟩
theorem dk_nil : DK X W [] fNil := L2.PK.imp pk_nil fun σ H Q h => by
  obtain ⟨pa, Av, ρ, p, rl, h⟩ := h
  exact h [] H (Ext.refl H) .nil rl.pen
theorem dk_cons {nm : Option Str} {e : Expr} {kpos : Pos} {es : List Keyword} {f : FE} {g : FL} (ha : DE X W e f) (hr : DK X W es g) : DK X W (⟨nm, e, kpos⟩ :: es) (fCons f g) := (pk_cons ha hr).imp fun σ H Q h => by
  obtain ⟨pa, Av, ρ, p, rl, h⟩ := h
  refine seqE (Z := fun H r => PA1 X.K X.mg pa Av W σ H Q r) rl (fun _ _ _ _ h => h) id h fun d p1 v H1 e1 hd r1 h1 => ?_
  have h1' := PA1.later e1 r1.pen.live h1
  refine seqA (Z := fun H r => PA1 X.K X.mg pa Av W σ H Q r) r1 (fun _ _ _ _ h => h) id h1' fun ds p2 vs H2 e2 hds r2 h2 => ?_
  exact h2 _ H2 e2 (.cons ((r1.base.mv e2).dr hd) hds) r2.pen
def fKw (F : List D → List D → R D) (is : List Nat) (f : FL) : FE := fun ρ p => (f ρ p).bnd fun ds p => F (permL is ds) p
theorem tar_len {K : PySem.W.Frag} {mg : Str → Option Value} {f : FL} {n : Nat} (hlen : LenOf f n) (σ : L2.St) (H : Hp) (Q : List V → Hp → Prop) (h : TAr K mg W f σ H Q) : TAr K mg W f σ H fun zs H2 => zs.length = n ∧ Q zs H2 := by
  obtain ⟨pa, Av, ρ, p, r, h⟩ := h
  refine ⟨pa, Av, ρ, p, r, ?_⟩
  cases q : f ρ p with
  | exc c ks ds p1 => rw [q] at h; exact h
  | stuck => rw [q] at h; exact h
  | ok ds p1 =>
    rw [q] at h
    exact fun vs H1 e1 hd hk1 => ⟨by rw [hd.length]; exact hlen _ _ _ _ q, h vs H1 e1 hd hk1⟩
theorem de_kw {kws : List Keyword} {ks : List Str} {is : List Nat} {n : Nat} {F : List D → List D → R D} {fa : FL} (G : FnG X.prog X.w X.K X.mg X.base k f fd ps (spF X.K X.mg n F)) (hr : RoomG k X.A) (hm : X.mg x = some (.ref f)) (hk : PySem.W.keepIn X.K (.ref f) = true)
    (hb : ∀ (s : Shared) (ws : List Value), ws.length = ks.length → BindsTo s fd ⟨[], ks.zip ws⟩ (ps.zip (permL is ws))) (tk : Takes X W) (ha : DK X W kws fa) (hlen : LenOf fa ks.length) (hpn : ∀ l : List D, l.length = ks.length → (permL is l).length = n) (hg : Gl X x := by rfl)
    (hks : (backToKw pos (keywordEach kws X.env)).filterMap (·.1) = ks := by rfl) (hall : (backToKw pos (keywordEach kws X.env)).all (·.1.isSome) = true := by rfl) (hdb : (x == ("__debug__" : Str)) = false := by decide)
    (hpl : ((backTo pos (starEach [] X.env)).any (·.1) || (backToKw pos (keywordEach kws X.env)).any (·.1.isNone)) = false := by rfl) : DE X W (.Call (.Name x p) [] kws pos) (fKw F is fa) :=
  (pe_kwG G hr hg hm hk hb (fun σ => passAt tk σ) ha (tar_len hlen) hks hall hdb hpl).imp fun σ H Q h => by
    obtain ⟨pa, Av, ρ, p, r, h⟩ := h
    refine ⟨pa, Av, ρ, p, r, ?_⟩
    unfold fKw at h
    cases q : fa ρ p with
    | exc c ks ds p1 => rw [q] at h; exact h
    | stuck => rw [q] at h; exact h
    | ok ds p1 =>
      rw [q] at h
      intro vs H1 e1 hd hk1
      have r1 := r.step e1 hk1
      have hp := drs_perm hd is
      refine ⟨by rw [hp.length]; exact hpn ds (hlen _ _ _ _ q), pa, Av, permL is ds, p1, r1.base, hk1, hp, ?_⟩
      exact pe1_w (σ := σ) (fun _ _ _ h => h) (PE1.later e1 hk1.live h)
end
end Dn
end

section
set_option Elab.async false
set_option linter.all false
set_option maxRecDepth 100000
set_option maxHeartbeats 4000000
namespace Dn
open PySem PySem.Spec PyProof.Rows L2
/-! ### {k: v for ..} -/
abbrev KD := List (Key × D)
def putD (kvs : KD) (k : Key) (v : D) : KD := if (kvs.any fun kv => decide (kv.1 = k)) = true then kvs.map (fun kv => if kv.1 = k then (kv.1, v) else kv) else kvs ++ [(k, v)]
def D.key? : D → Option Key
  | .int i => some (.inl i)
  | .str x => some (.inr x)
  | _ => none
inductive KvR (K : PySem.W.Frag) (mg : Str → Option Value) (pa : Addr) (Av : List Addr) (H : Hp) : List (Key × V) → KD → Prop
  | nil : KvR K mg pa Av H [] []
  | cons {k : Key} {v : V} {d : D} {vs : List (Key × V)} {ds : KD} : DR K mg pa Av H v d → KvR K mg pa Av H vs ds → KvR K mg pa Av H ((k, v) :: vs) ((k, d) :: ds)
section
variable {K : PySem.W.Frag} {mg : Str → Option Value} {pa : Addr} {Av Av' : List Addr} {H H' : Hp}
theorem KvR.mv (m : Mv Av Av' H H') {vs : List (Key × V)} {ds : KD} (h : KvR K mg pa Av H vs ds) : KvR K mg pa Av' H' vs ds := by
  induction h with
  | nil => exact .nil
  | cons a _ ih => exact .cons (m.dr a) ih
theorem KvR.any {vs : List (Key × V)} {ds : KD} (h : KvR K mg pa Av H vs ds) (k : Key) : (vs.any fun kv => decide (kv.1 = k)) = ds.any fun kv => decide (kv.1 = k) := by
  induction h with
  | nil => rfl
  | cons _ _ ih => simp only [List.any_cons, ih]
theorem KvR.app {vs : List (Key × V)} {ds : KD} (h : KvR K mg pa Av H vs ds) {k : Key} {v : V} {d : D} (q : DR K mg pa Av H v d) : KvR K mg pa Av H (vs ++ [(k, v)]) (ds ++ [(k, d)]) := by
  induction h with
  | nil => exact .cons q .nil
  | cons a _ ih => exact .cons a ih
theorem KvR.map {vs : List (Key × V)} {ds : KD} (h : KvR K mg pa Av H vs ds) {k : Key} {v : V} {d : D} (q : DR K mg pa Av H v d) : KvR K mg pa Av H (vs.map fun kv => if kv.1 = k then (kv.1, v) else kv) (ds.map fun kv => if kv.1 = k then (kv.1, d) else kv) := by
  induction h with
  | nil => exact .nil
  | @cons k' _ _ _ _ a _ ih =>
    rw [List.map_cons, List.map_cons]
    by_cases e : k' = k
    · simp only [e, if_true]
      exact .cons q ih
    · simp only [e, if_false]
      exact .cons a ih
theorem KvR.put {vs : List (Key × V)} {ds : KD} (h : KvR K mg pa Av H vs ds) {k : Key} {v : V} {d : D} (q : DR K mg pa Av H v d) : KvR K mg pa Av H (putK vs k v) (putD ds k d) := by
  unfold putK putD
  rw [h.any k]
  split
  · exact h.map q
  · exact h.app q
theorem KvR.length {vs : List (Key × V)} {ds : KD} (h : KvR K mg pa Av H vs ds) : vs.length = ds.length := by
  induction h with
  | nil => rfl
  | cons _ _ ih => exact congrArg (· + 1) ih
theorem KvR.parts {vs : List (Key × V)} {ds : KD} (h : KvR K mg pa Av H vs ds) : vs.map (·.1) = ds.map (·.1) ∧ DRs K mg pa Av H (vs.map (·.2)) (ds.map (·.2)) := by
  induction h with
  | nil => exact ⟨rfl, .nil⟩
  | cons a _ ih => exact ⟨by rw [List.map_cons, List.map_cons, ih.1], .cons a ih.2⟩
end
def dcD (vs : List Nat) (h : HG) (t : FT) (fk fv : FE) : List D → List Sl → List D → KD → R KD
  | [], _, p, acc => .ok acc p
  | d :: ds, ρ, p, acc => match h d (wipeS ρ vs) with
    | none => .stuck
    | some ρ1 => (noX (t ρ1 p)).bnd fun b p => if b then (noX (fk ρ1 p)).bnd fun k p => (noX (fv ρ1 p)).bnd fun v p => match k.key? with
        | some k => if acc.length < 16777216 then dcD vs h t fk fv ds ρ p (putD acc k v) else .stuck
        | none => .stuck
      else dcD vs h t fk fv ds ρ p acc
def fDc (f : FL) (h : HG) (t : FT) (fk fv : FE) (vs : List Nat) : FE := fun ρ p => (f ρ p).bnd fun ds p => (dcD vs h t fk fv ds ρ p []).bnd fun acc p => .ok (.dk (acc.map (·.1)) (acc.map (·.2))) p
theorem dcD_nox {vs : List Nat} {h : HG} {t : FT} {fk fv : FE} {c : Str} {ks : List Str} {es q : List D} : ∀ {ds : List D} {ρ : List Sl} {p : List D} {acc : KD}, dcD vs h t fk fv ds ρ p acc ≠ .exc c ks es q
  | [], ρ, p, acc => fun z => by cases z
  | d :: ds, ρ, p, acc => fun z => by
    unfold dcD at z
    split at z
    · cases z
    · next ρ1 _ =>
      cases et : t ρ1 p with
      | exc => rw [et] at z; cases z
      | stuck => rw [et] at z; cases z
      | ok b p1 =>
        rw [et] at z
        cases b with
        | false => exact dcD_nox z
        | true =>
          simp only [noX_ok, bnd_ok, if_true] at z
          cases ee : fk ρ1 p1 with
          | exc => rw [ee] at z; cases z
          | stuck => rw [ee] at z; cases z
          | ok y p2 =>
            rw [ee] at z
            simp only [noX_ok, bnd_ok] at z
            cases el : fv ρ1 p2 with
            | exc => rw [el] at z; cases z
            | stuck => rw [el] at z; cases z
            | ok u p3 =>
              rw [el] at z
              simp only [noX_ok, bnd_ok] at z
              split at z
              · split at z
                · exact dcD_nox z
                · cases z
              · cases z
/-- the state within a dict comprehension -/
structure InD (K : PySem.W.Frag) (mg : Str → Option Value) (pa : Addr) (Av : List Addr) (σ : L2.St) (H1 : Hp) (ρ : List Sl) (a : Addr) (acc : KD) (p : List D) (H : Hp) : Prop where
  rel : Rel K mg pa (a :: Av) σ H ρ p
  ext : Ext pa H1 H
  new : H1 a = none
  at' : ∃ vs, H a = some (.dK vs) ∧ KvR K mg pa (a :: Av) H vs acc
section
variable {K : PySem.W.Frag} {mg : Str → Option Value} {pa : Addr} {Av : List Addr} {σ : L2.St} {ρ : List Sl} {H H1 : Hp} {p : List D} {W : WX}
theorem InD.step {a : Addr} {acc : KD} {p1 p2 : List D} {H' : Hp} (r : Rel K mg pa Av σ H1 ρ p) (i : InD K mg pa Av σ H1 ρ a acc p1 H) (e : Ext pa H H') (k : PenOk K mg pa (a :: Av) H' p2) : InD K mg pa Av σ H1 ρ a acc p2 H' := by
  have npa : a ≠ pa := fun z => r.pen.live (z ▸ i.new)
  obtain ⟨vs, h1, h2⟩ := i.at'
  exact ⟨i.rel.step e k, i.ext.trans e, i.new, vs, e _ _ npa h1, h2.mv (i.rel.base.mv e)⟩
theorem InD.put {a : Addr} {acc : KD} {p1 : List D} {v : V} {d : D} {k : Key} {vs : List (Key × V)} (r : Rel K mg pa Av σ H1 ρ p) (i : InD K mg pa Av σ H1 ρ a acc p1 H) (hv : H a = some (.dK vs)) (hvs : KvR K mg pa (a :: Av) H vs acc) (hd : DR K mg pa (a :: Av) H v d) :
    InD K mg pa Av σ H1 ρ a (putD acc k d) p1 (upd H a (.dK (putK vs k v))) := by
  have npa : a ≠ pa := fun z => r.pen.live (z ▸ i.new)
  have no : ¬ Own ρ σ a := fun ⟨j, ds, h1, h2⟩ => by
    obtain ⟨b, ws, g1, _, _, g4, _⟩ := r.own j ds h1
    rw [h2] at g1
    cases g1
    rw [i.new] at g4
    cases g4
  have mv : Mv (a :: Av) (a :: Av) H (upd H a (.dK (putK vs k v))) := ⟨fun c o n h _ => by rw [upd_ne (fun z : c = a => n (z ▸ List.mem_cons_self))]; exact h, fun c h => .inl h⟩
  refine ⟨⟨fun j d hj => ?_, fun j ds hj => ?_, i.rel.sep, ?_, ⟨i.rel.base.mem, fun c hc => ?_⟩, i.rel.len⟩, i.ext.over i.new, i.new, _, upd_same, (hvs.put hd).mv mv⟩
  · obtain ⟨w, h1, h2⟩ := i.rel.val j d hj
    exact ⟨w, h1, mv.dr h2⟩
  · obtain ⟨c, ws, h1, h2, h3, h4, h5⟩ := i.rel.own j ds hj
    exact ⟨c, ws, h1, h2, h3, by rw [upd_ne (fun z : c = a => no ⟨j, ds, hj, z ▸ h1⟩)]; exact h4, mv.drs h5⟩
  · obtain ⟨ws, h1, h2⟩ := i.rel.pen.at'
    exact ⟨⟨_, by rw [upd_ne (Ne.symm npa)]; exact h1, mv.drs h2⟩, tabs_upd i.rel.pen.tabs hv (fun _ z => by cases z) (fun _ _ z => by unfold LamX.CodeO at z; cases z)⟩
  · by_cases z : c = a
    · rw [z, upd_same]; simp
    · rw [upd_ne z]; exact i.rel.base.liv c hc
theorem InD.mv {a : Addr} {acc : KD} {p1 : List D} (r : Rel K mg pa Av σ H1 ρ p) (i : InD K mg pa Av σ H1 ρ a acc p1 H) : Mv Av (a :: Av) H1 H :=
  ⟨fun b o n h ht => i.ext.keep b o (fun z => n (z ▸ r.base.mem)) h ht, fun c hc => (List.mem_cons.mp hc).elim (fun z => .inr (z ▸ i.new)) .inl⟩
theorem key_of {v : V} {d : D} {k : Key} (h : DR K mg pa Av H v d) (e : d.key? = some k) : v = kV k := by
  cases h <;> first
    | (cases e; done)
    | (injection e with e; subst e; rfl)
theorem rd_dc {f : FL} {h : HG} {t : FT} {fk fv : FE} {vs : List Nat} {is : List Nat} (hv : ∀ i ∈ is, i ∈ vs) (σ : L2.St) (H : Hp) (Q : VK) (q : TD K mg W (fDc f h t fk fv vs) σ H Q) :
    tDc (TId K mg W f) (TGd K mg is h) (TB K mg W0 t) (TD K mg W0 fk) (TD K mg W0 fv) vs σ H Q := by
  obtain ⟨pa, Av, ρ, p, r, q⟩ := q
  refine ⟨pa, Av, ρ, p, r, ?_⟩
  unfold fDc at q
  cases ef : f ρ p with
  | exc c ks ds p1 =>
    rw [ef] at q
    exact q
  | stuck =>
    rw [ef] at q
    exact q.elim
  | ok ds p1 =>
    rw [ef] at q
    intro J H1 e1 wk pk a ha
    have r1 := r.step e1 pk
    have q := PE1.later e1 pk.live q
    have q : PE1 K mg pa Av W σ H1 Q ((dcD vs h t fk fv ds ρ p1 []).bnd fun acc p => .ok (.dk (acc.map (·.1)) (acc.map (·.2))) p) := q
    refine ⟨fun i m H' => ∃ acc p', InD K mg pa Av σ H1 ρ a acc p' H' ∧ m + i = ds.length ∧ PE1 K mg pa Av W σ H1 Q ((dcD vs h t fk fv (ds.drop i) ρ p' acc).bnd fun acc p => .ok (.dk (acc.map (·.1)) (acc.map (·.2))) p),
      ⟨ds.length, [], p1, ⟨r1.up ha, Ext.new ha, ha, [], upd_same, .nil⟩, by omega, by rw [List.drop_zero]; exact q⟩, fun i m H' hW => ?_⟩
    obtain ⟨acc, p', I, hm, q'⟩ := hW
    obtain ⟨wk1, wk2⟩ := wk H' (a :: Av) (I.mv r1) I.rel.base
    cases m with
    | zero =>
      have hi : i = ds.length := by omega
      subst hi
      rw [List.drop_length] at q'
      refine .inl ⟨wk2, ?_⟩
      obtain ⟨ws, g1, g2⟩ := I.at'
      obtain ⟨k1, k2⟩ := g2.parts
      exact q' (.ref a) H' I.ext (.dk g1 (r1.base.fresh I.new) k1 rfl (drs_less k2)) (pen_less I.rel.pen)
    | succ m =>
      have hlt : i < ds.length := by omega
      have hd : ds[i]? = some ds[i] := List.getElem?_eq_getElem hlt
      obtain ⟨go, yl⟩ := wk1 i _ hd
      rw [List.drop_eq_getElem_cons hlt] at q'
      unfold dcD at q'
      cases eh : h ds[i] (wipeS ρ vs) with
      | none =>
        rw [eh] at q'
        exact q'.elim
      | some ρ1 =>
        rw [eh] at q'
        dsimp only at q'
        refine .inr ⟨go, fun H2 => ∃ acc p2, InD K mg pa Av σ H1 ρ a acc p2 H2 ∧ m + (i + 1) = ds.length ∧ PE1 K mg pa Av W σ H1 Q ((dcD vs h t fk fv (ds.drop (i + 1)) ρ p2 acc).bnd fun acc p => .ok (.dk (acc.map (·.1)) (acc.map (·.2))) p), fun H2 hN => ⟨m, by omega, hN⟩, fun x H2 hy => ?_⟩
        obtain ⟨ex, hx⟩ := yl x H2 hy
        have ex' : Ext pa H' H2 := .of fun b o _ z => ex b o z
        have pk2 : PenOk K mg pa (a :: Av) H2 p' := by
          obtain ⟨ws, g1, g2⟩ := I.rel.pen.at'
          exact ⟨⟨ws, ex _ _ g1, (I.rel.base.mv ex').drs g2⟩, I.rel.pen.tabs.ext ex⟩
        have I2 := I.step r1 ex' pk2
        refine ⟨pa, a :: Av, wipeS ρ vs, p', ds[i], ρ1, I2.rel.wipes vs, hx, eh, fun σ3 P => ⟨?_, pa, a :: Av, ρ1, p', P.rel, ?_⟩⟩
        · rw [P.wip vs hv, wipe_wipe]
        · cases et : t ρ1 p' with
          | exc c ks es p3 =>
            rw [et] at q'
            exact q'.elim
          | stuck =>
            rw [et] at q'
            exact q'.elim
          | ok b p3 =>
            rw [et] at q'
            intro H3 e3 pk3
            have I3 := I2.step r1 e3 pk3
            cases b with
            | false => exact ⟨acc, p3, I3, by omega, q'⟩
            | true =>
              rw [if_pos rfl]
              refine ⟨pa, a :: Av, ρ1, p3, P.rel.step e3 pk3, ?_⟩
              simp only [noX_ok, bnd_ok, if_true] at q'
              cases ek : fk ρ1 p3 with
              | exc c ks es p4 =>
                rw [ek] at q'
                exact q'.elim
              | stuck =>
                rw [ek] at q'
                exact q'.elim
              | ok y p4 =>
                rw [ek] at q'
                simp only [noX_ok, bnd_ok] at q'
                intro v4 H4 e4 hv4 pk4
                have I4 := I3.step r1 e4 pk4
                refine ⟨pa, a :: Av, ρ1, p4, (P.rel.step e3 pk3).step e4 pk4, ?_⟩
                cases ev : fv ρ1 p4 with
                | exc c ks es p5 =>
                  rw [ev] at q'
                  exact q'.elim
                | stuck =>
                  rw [ev] at q'
                  exact q'.elim
                | ok z p5 =>
                  rw [ev] at q'
                  simp only [noX_ok, bnd_ok] at q'
                  intro v5 H5 e5 hv5 pk5
                  have I5 := I4.step r1 e5 pk5
                  cases hk : y.key? with
                  | none =>
                    rw [hk] at q'
                    exact q'.elim
                  | some k =>
                    rw [hk] at q'
                    dsimp only at q'
                    split at q'
                    · next hz =>
                      obtain ⟨ws, g1, g2⟩ := I5.at'
                      exact ⟨ws, k, key_of hv4 hk, g1, by rw [g2.length, line24]; exact hz, _, p5, I5.put r1 g1 g2 hv5, by omega, q'⟩
                    · exact q'.elim
end
section
variable {X : Cx} {W : WX} {pos : Pos}
theorem de_dc (own : List (Str × Nat)) {kx vx tg iter : Expr} {ifs : List Expr} {scope : Scope} {is : List Nat} {f : FL} {h : HG} {t : FT} {fk fv : FE} (hc : X.calm = true) (hN : X.N.Nodup) (hi : DI X W tg iter f)
    (hg : ∀ (s : Shared) (H : Hp) (C : Addr) (cl : List (Str × Addr)) (fp : List Addr), DG (X.blk s H scope (compEnvC scope cl C X.env) fp) tg is h)
    (ht : ∀ (s : Shared) (H : Hp) (C : Addr) (cl : List (Str × Addr)) (fp : List Addr), DTs (X.blk s H scope (compEnvC scope cl C X.env) fp) W0 ifs t)
    (hk : ∀ (s : Shared) (H : Hp) (C : Addr) (cl : List (Str × Addr)) (fp : List Addr), DE (X.blk s H scope (compEnvC scope cl C X.env) fp) W0 kx fk)
    (he : ∀ (s : Shared) (H : Hp) (C : Addr) (cl : List (Str × Addr)) (fp : List Addr), DE (X.blk s H scope (compEnvC scope cl C X.env) fp) W0 vx fv)
    (ok : BlkOk X.N X.env.scope scope own := by exact blkOk_by (by rfl)) (hv : ∀ i ∈ is, i ∈ own.map (·.2) := by decide)
    (hs : ∀ x, foldedSetIterable iter X.env x = pure x := by intro _; rfl) : DE X W (.DictComp kx vx [⟨tg, iter, ifs, 0⟩] scope pos) (fDc f h t fk fv (own.map (·.2))) :=
  L2.PE.imp (pe_dc hc hN hi ok hg ht hk he hs) (rd_dc hv)
end
end Dn
end

section
set_option Elab.async false
set_option linter.all false
set_option maxRecDepth 100000
set_option maxHeartbeats 4000000
namespace Dn
open PySem PySem.Spec PyProof.Rows L2
/-! ### a walk over a list or a tuple -/
def ItA (t : Bool) (K : PySem.W.Frag) (a : Addr) : It := match t with
  | true => Itt K a
  | false => Itl K a
section
variable {X : Cx} {W : WX} {pos : Pos} {tg : Expr}
theorem pi_any {l : Expr} {tl : TE} (hl : PE X l tl) : PI X tg l (fun σ H R => tl σ H fun x H1 => ∃ t a xs, x = .ref a ∧ SqX t X.K H1 a xs ∧ R (ItA t X.K a) H1) := by
  refine ⟨fun pins s σ H R I h => ?_⟩
  refine thn (hl.run pins s σ H _ I h) fun v s1 ⟨x, H1, I1, r1, q1⟩ => ?_
  obtain ⟨t, a, xs, e, hq, q⟩ := q1
  subst e
  cases r1
  have fp : ∀ b ∈ [s1.heap.objs.size], FpOk X pins H1 b := fun b hb => by
    have e : b = s1.heap.objs.size := by simpa using hb
    subst e
    exact I1.fpOk (Nat.le_refl _) (I1.hok.fresh (Nat.le_refl _))
  cases t with
  | false =>
    obtain ⟨its, rv, p, hz⟩ := I1.list hq
    exact wpAny_pyIter_list p.isList ⟨s1.heap.objs.size, [s1.heap.objs.size], _, _, H1, rfl, I1.kept (t' := s1.toks) fun b o e => Heap.get?_push_of_some _ e, turn_list a _, ⟨_, Heap.get?_push_size _ rfl, rfl, rfl⟩, fp, q⟩
  | true =>
    obtain ⟨its, rv, p, hz⟩ := I1.tuple hq
    exact wpAny_pyIter_tuple (show s1.heap.IsTuple a its.toArray from p) ⟨s1.heap.objs.size, [s1.heap.objs.size], _, _, H1, rfl, I1.kept (t' := s1.toks) fun b o e => Heap.get?_push_of_some _ e, turn_tuple a _, ⟨_, Heap.get?_push_size _ rfl, rfl, rfl⟩, fp, q⟩
theorem walk_any {K : PySem.W.Frag} {mg : Str → Option Value} {pa : Addr} {Av : List Addr} {H : Hp} {v : V} {d : D} {ds : List D} (h : DR K mg pa Av H v d) (e : items d = some ds) : ∃ t a xs, v = .ref a ∧ SqX t K H a xs ∧ WalkD K mg pa Av (ItA t K a) H ds := by
  cases h with
  | lst s n q => cases e; exact ⟨false, _, _, rfl, .of s, walk_lst s n q⟩
  | tup s q => cases e; exact ⟨true, _, _, rfl, s.sq, sqt_inj_walk s q⟩
  | _ => cases e
theorem di_any {e : Expr} {f : FE} (he : DE X W e f) : DI X W tg e (fIt f) := (pi_any he).imp fun σ H Q h => by
  obtain ⟨pa, Av, ρ, p, r, h⟩ := h
  refine seqE (Z := fun H r => PI1 X.K X.mg pa Av W σ H Q r) r (fun _ _ _ _ h => h) id h fun d p1 v H1 e1 hd r1 h1 => ?_
  have h1 := PI1.later e1 r1.pen.live h1
  split at h1
  · next ds ei =>
    obtain ⟨t, a, xs, g1, g2, g3⟩ := walk_any hd ei
    exact ⟨t, a, xs, g1, g2, h1 _ H1 (Ext.refl _) g3 r1.pen⟩
  · exact h1.elim
end
/-! ### enumerate of a list or a tuple -/
set_option maxHeartbeats 1000000 in
theorem meets_enum0 {v : Value} {o : Obj} {H : Heap → Prop} (B : Begins v o H) :
    Meets (Builtin.«enumerate.__new__» ⟨[.type "enumerate", v], []⟩) (fun _ R s => H s.heap ∧
      R (.ok (.ret (.ref (s.heap.push o).objs.size))) { s with heap := (s.heap.push o).push { cls := .type "enumerate", data := .fields #[.none, .bool false, .ref s.heap.objs.size, rawInt 0, .none, .none] } }) :=
  .of_wp fun prog w A R s h => by
    obtain ⟨hp, g, d, tk, os⟩ := s; obtain ⟨h1, h⟩ := h
    have hsub := sub_enumerate
    have q1 : ∀ {A' : Around} {E : Value → Shared → Prop} {Q : Value → Shared → Prop}, Q (.ref hp.objs.size) ⟨hp.push o, g, d, tk, os⟩ → wpAny (model prog w) A' (pyIter v) Q E ⟨hp, g, d, tk, os⟩ :=
      fun q => B.iter prog w _ _ ⟨hp, g, d, tk, os⟩ _ h1 q
    wp_walk using q1
    refine wpAny_stack_any fun st => wpAny_pure ?_
    split
    · rename_i c _ _ _ _ _
      cases (c == Value.type "enumerate")
      · wp_walk using q1
        exact ⟨_, rfl, h⟩
      · wp_walk using q1
        exact ⟨_, rfl, h⟩
    · wp_walk using q1
      exact ⟨_, rfl, h⟩
theorem call_enum0 {prog : Program} {w : World} {A : Around} {E : Value → Shared → Prop} {s : Shared} {v : Value} {o : Obj} {H : Heap → Prop} {Q : Value → Shared → Prop} (B : Begins v o H) (h1 : H s.heap)
    (h : ∀ h', IsEnum h' (s.heap.objs.size + 1) s.heap.objs.size 0 .none → h'.get? s.heap.objs.size = some o → h'.objs.size = s.heap.objs.size + 2 →
      (∀ b o, s.heap.get? b = some o → h'.get? b = some o) → Q (.ref (s.heap.objs.size + 1)) { s with heap := h' }) :
    wpAny (model prog w) A (call (.type "enumerate") [v]) Q E s := by
  refine callType_new F.called_enumerate (by decide) (F.typeCall_enumerate_1 _) (F.newCall_enumerate_1 _) (fun obj => F.args_object_init_2 obj _) F.entry_enumerate_new (meets_enum0 B) ⟨h1, ?_⟩
  have hz : (s.heap.push o).objs.size = s.heap.objs.size + 1 := Heap.size_push ..
  show _ ∧ _
  rw [hz]
  have he : IsEnum ((s.heap.push o).push { cls := .type "enumerate", data := .fields #[.none, .bool false, .ref s.heap.objs.size, rawInt 0, .none, .none] }) (s.heap.objs.size + 1) s.heap.objs.size 0 .none := by
    have := Heap.get?_push_size (s.heap.push o) (o := { cls := .type "enumerate", data := .fields #[.none, .bool false, .ref s.heap.objs.size, rawInt 0, .none, .none] }) rfl
    rw [hz] at this; exact this
  exact ⟨⟨_, he, rfl⟩, h _ he (Heap.get?_push_of_some _ (Heap.get?_push_size _ B.free)) (by rw [Heap.size_push, hz]) fun b o x => Heap.get?_push_of_some _ (Heap.get?_push_of_some _ x)⟩
def IteX (t : Bool) (K : PySem.W.Frag) (a : Addr) : It :=
  ⟨fun i H => ∃ (xs : List V) (x : V), SqX t K H a xs ∧ xs[i]? = some x, fun i H v H' => ∃ T x, v = .ref T ∧ H T = none ∧ H' = upd H T (.tup [.int (i : Nat), x]) ∧ ∀ xs, SqX t K H a xs → xs[i]? = some x, fun i H => ∃ xs : List V, SqX t K H a xs ∧ xs.length = i⟩
theorem turn_enumX {P : Program} {w : World} {K : PySem.W.Frag} {elts : List Expr} {kk : Nat} {tpos : Pos} {t : Bool} (a e it : Addr) (hei : e ≠ it) (hea : e ≠ a) (hai : a ≠ it) :
    Turn P w K (.Tuple elts kk tpos) (IteX t K a) [e, it] e (fun i h => (∃ old, IsEnum h e it ((i : Nat) : Int) old) ∧ ItX t h it a i) where
  mem := by simp
  obj := fun i h st b hb => by
    obtain ⟨⟨old, he⟩, hi⟩ := st
    have e' : b = e ∨ b = it := by simpa using hb
    rcases e' with z | z
    · rw [z]; exact ⟨_, he, fun v q => nomatch q⟩
    · rw [z]; exact itX_obj hi
  keep := fun i h h' st k => let ⟨⟨old, he⟩, hi⟩ := st; ⟨⟨old, k e (by simp) _ he⟩, itX_at hi fun o q => k it (by simp) o q⟩
  item := by
    intro X hP hw hK hc i pins s σ H E I hf st hg
    subst hP hw hK
    obtain ⟨⟨old, he⟩, hit⟩ := st
    obtain ⟨xs, x, hq, hx⟩ := hg
    obtain ⟨its, rv, p, hz⟩ := ctX_of I hq
    obtain ⟨u, hu, ru⟩ := rv.get hx
    have hel : e < s.heap.objs.size := Heap.lt_size he
    have hil : it < s.heap.objs.size := by obtain ⟨_, q, _⟩ := itX_obj hit; exact Heap.lt_size q
    have lt1 : i < its.toArray.size := by have := (List.getElem?_eq_some_iff.mp hu).1; simpa using this
    refine wpAny_pyNext_enum_itemD (drawsX t (show X.A.in1.handled = none from I.ok.hd hc) it a hai its.toArray) he ⟨hit, p⟩ lt1 hei (by simp [hei, hea]) fun x1 h' tk g1 ho st1 hT hsz hk => ?_
    have e1 : x1 = u := by
      have : its.toArray[i]? = some x1 := g1
      rw [show its.toArray[i]? = some u by simpa using hu] at this
      exact (Option.some.inj this).symm
    subst e1
    refine ⟨_, rfl, wpAny_letOwnedTupleGo_enum (s := { s with heap := h', toks := tk + 1 }) ho fun h'' he' sb => ?_⟩
    have hT2 : h''.get? s.heap.objs.size = some { cls := .type "tuple", data := .seq #[.int i tk, x1] } := (sb.2 _ (Nat.ne_of_gt hel)).trans hT
    have new : ObjOk X.prog X.w (upd H s.heap.objs.size (.tup [.int (i : Nat), x])) h'' s.heap.objs.size (.tup [.int (i : Nat), x]) :=
      ⟨by show 2 ≤ sizeLine; decide, [.int i tk, x1], .cons ⟨_, rfl⟩ (.cons ru .nil), ⟨_, hT2, rfl, _, rfl⟩⟩
    have I1 : Inv X pins σ (upd H s.heap.objs.size (.tup [.int (i : Nat), x])) { s with heap := h'', toks := tk + 1 } :=
      I.turnedNew (t' := tk + 1) (ch := [e, it]) (fun b ob hb q => (sb.2 b (fun z => hb (by simp [z]))).trans (hk b ob (fun z => hb (by simp [z])) (fun z => hb (by simp [z])) q)) hf (Nat.le_refl _) new
    refine ⟨.ref s.heap.objs.size, _, I1, rfl, ⟨_, x, rfl, I.hok.fresh (Nat.le_refl _), rfl, fun ys hy => by rw [sqX_inj I hy hq]; exact hx⟩, ⟨⟨x1, ?_⟩, itX_at st1.1 fun o q => (sb.2 it (Ne.symm hei)).trans q⟩, fun b hb => ?_⟩
    · have e1 : ((i + 1 : Nat) : Int) = (i : Int) + 1 := by omega
      rw [e1]; exact he'
    · have hb' : b < s.heap.objs.size := by
        have e' : b = e ∨ b = it := by simpa using hb
        rcases e' with z | z
        · rw [z]; exact hel
        · rw [z]; exact hil
      rw [upd_ne (Nat.ne_of_lt hb')]
      exact (hf b hb).1
  done := by
    intro X hP hw hK hc i pins s σ H E I hf st hg
    subst hP hw hK
    obtain ⟨⟨old, he⟩, hit⟩ := st
    obtain ⟨xs, hq, hx⟩ := hg
    obtain ⟨its, rv, p, hz⟩ := ctX_of I hq
    obtain ⟨f0, f1, f2, f3, f4, f5⟩ := hf it (by simp)
    have hl := rv.length
    have hi : i = its.toArray.size := by rw [List.size_toArray]; omega
    subst hi
    exact wpAny_pyNext_enum_endD (drawsX t (show X.A.in1.handled = none from I.ok.hd hc) it a hai its.toArray) he ⟨hit, p⟩ fun h' eb => ⟨rfl, I.turned (t' := s.toks) (fun b o hb q => eb b o hb q) f0 f1 f3 f4 f5⟩
  self := fun A i s Q E st h => let ⟨⟨_, he⟩, _⟩ := st; wpAny_pyIter_enum he h
theorem pi_enumX {X : Cx} {e : Expr} {ta : TA} {p pos tpos : Pos} {elts : List Expr} {kk : Nat} (hg : Gl X "enumerate") (hm : X.mg "enumerate" = none) (ha : PA X [e] ta) (hs : starEach [e] X.env = [(false, eval e X.env)] := by rfl) :
    PI X (.Tuple elts kk tpos) (.Call (.Name "enumerate" p) [e] [] pos) (fun σ H R => ta σ H fun vs H1 => ∃ t a xs, vs = [.ref a] ∧ SqX t X.K H1 a xs ∧ R (IteX t X.K a) H1) := by
  refine ⟨fun pins s σ H R I h => ?_⟩
  refine Call_ (ld_blt I hg hm PyProof.Rows.boot_enumerate (PyProof.Rows.callWith_type1 (thn (ha.run pos pins s σ H _ I h) fun us s1 ⟨vs, H1, I1, r1, q1⟩ => ?_) hs rfl))
  obtain ⟨t, a, xs, ex, hq, q⟩ := q1
  subst ex
  cases r1 with
  | cons r rr =>
    cases rr
    cases r
    obtain ⟨its, rv, p', hz⟩ := ctX_of I1 hq
    refine call_enum0 (beginsX t a its.toArray) p' fun h' he hit hsz hk => wpAny_pyIter_enum he ?_
    have I2 : Inv X pins σ H1 { s1 with heap := h' } := I1.kept (t' := s1.toks) hk
    refine ⟨s1.heap.objs.size + 1, [s1.heap.objs.size + 1, s1.heap.objs.size], _, _, H1, rfl, I2, turn_enumX (t := t) a (s1.heap.objs.size + 1) s1.heap.objs.size (Nat.succ_ne_self _) (Nat.ne_of_gt (Nat.lt_succ_of_lt hz)) (Nat.ne_of_lt hz), ⟨⟨.none, he⟩, itX_new hit⟩, fun b hb => ?_, q⟩
    have e' : b = s1.heap.objs.size + 1 ∨ b = s1.heap.objs.size := by simpa using hb
    have hle : s1.heap.objs.size ≤ b := by
      rcases e' with z | z
      · rw [z]; exact Nat.le_add_right _ _
      · rw [z]; exact Nat.le_refl _
    exact I1.fpOk hle (I1.hok.fresh hle)
def fEnumX (f : FE) : FL := fun ρ p => (f ρ p).bnd fun d p => match items d with
  | some ds => .ok (enumD 0 ds) p
  | none => .stuck
theorem walk_enumX {K : PySem.W.Frag} {mg : Str → Option Value} {pa : Addr} {Av : List Addr} {H : Hp} {t : Bool} {a : Addr} {vs : List V} {ds : List D} (q : DRs K mg pa Av H vs ds) (h1 : ∀ H' Av', Mv Av Av' H H' → SqX t K H' a vs ∧ DRs K mg pa Av' H' vs ds) : WalkD K mg pa Av (IteX t K a) H (enumD 0 ds) := fun H' Av' m b => by
  obtain ⟨s1, q1⟩ := h1 H' Av' m
  refine ⟨fun i d e => ?_, ⟨vs, s1, by rw [enumD_len, q.length]⟩⟩
  rw [enumD_get, Nat.zero_add] at e
  cases e0 : ds[i]? with
  | none => rw [e0] at e; cases e
  | some d0 =>
    rw [e0] at e
    cases e
    obtain ⟨v, hv, hr⟩ := q1.get e0
    refine ⟨⟨vs, v, s1, hv⟩, fun x H'' y => ?_⟩
    obtain ⟨T, z, rfl, hT, rfl, hz⟩ := y
    have := (hz vs s1).symm.trans hv
    cases this
    refine ⟨fun c o g => by rw [upd_ne (ne_of_none g hT)]; exact g, ?_⟩
    exact .tup (.of upd_same (b.fresh hT)) (drs_new hT (.cons (.int _) (.cons hr .nil)))
theorem di_enumX {X : Cx} {W : WX} {pos : Pos} {e : Expr} {p1 tpos : Pos} {elts : List Expr} {kk : Nat} {f : FE} (hm : X.mg "enumerate" = none) (he : DE X W e f) (hg : Gl X "enumerate" := by rfl) (hs : starEach [e] X.env = [(false, eval e X.env)] := by rfl) :
    DI X W (.Tuple elts kk tpos) (.Call (.Name "enumerate" p1) [e] [] pos) (fEnumX f) := (pi_enumX hg hm (pa_cons he pa_nil hs) hs).imp fun σ H Q h => by
  obtain ⟨pa, Av, ρ, p, r, h⟩ := h
  refine seqE (Z := fun H r => PI1 X.K X.mg pa Av W σ H Q r) r (fun _ _ _ _ h => h) id h fun d p1 v H1 e1 hd r1 h1 => ?_
  have h1 := PI1.later e1 r1.pen.live h1
  split at h1
  · next ds ei =>
    obtain ⟨t, a, xs, rfl, g2, g3⟩ := hd.sqx ei
    have mv : Mv Av Av H1 H1 := ⟨fun _ _ _ z _ => z, fun _ z => .inl z⟩
    exact ⟨t, a, xs, rfl, (g3 H1 Av mv).1, h1 _ H1 (Ext.refl _) (walk_enumX g2 g3) r1.pen⟩
  · exact h1.elim
end Dn
end

section
set_option Elab.async false
set_option linter.all false
set_option maxRecDepth 100000
set_option maxHeartbeats 4000000
namespace Dn
open PySem PySem.Spec PySem.W PyProof.Rows
/-! ### an exception's own __init__: super().__init__(text); self.f = its argument -/
section
variable {prog : Program} {w : World} {A : Around} {E : Value → Shared → Prop} {R : Result → Shared → Prop} {hp : Heap} {g : Array GenState} {d : Drawn} {t : Nat} {os : OsState}
/-- ValueError.__init__ bound to an exception, called -/
theorem vx_mw {C N e t0 u : Addr} {nm q : Str} {bs bm : List Value} {hdct : Bool} {sn : List Str} {sub : List Value} {ab : Bool} {col : Option Bool} {dd : Option Addr} {k0 k1 k2 k3 k5 : Option Value} {rest : List Value} {Q : Value → Shared → Prop}
    (hC : hp.get? C = some (excClassObj nm q C N bs bm hdct sn sub ab col dd k0 k1 k2 k3 k5 "ValueError.__new__")) (he : hp.get? e = some (HandSPX.excO C t0)) (hu : hp.get? u = some (kxs_mw "ValueError.__init__" e)) (hz : rest.length ≤ sizeLine)
    (hq : ∀ h' t1, (∀ b o, b ≠ e → hp.get? b = some o → h'.get? b = some o) → h'.get? e = some (HandSPX.excO C t1) → Q .none ⟨h', g, d, t, os⟩) : wpAny (model prog w) A (call (.ref u) rest) Q E ⟨hp, g, d, t, os⟩ := by
  refine wpAny_call (codeAny_of_tree ?_)
  show wpAny _ A.in1 (callAny (.ref u) ⟨rest, []⟩) _ _ _
  simp only [callAny]
  refine wpAny_bind (wpAny_load hu ?_)
  simp only [kxs_mw, show (Value.type "method-wrapper" == Value.type "method" || Value.type "method-wrapper" == Value.type "builtin_function_or_method" || Value.type "method-wrapper" == Value.type "method-wrapper") = true by decide, if_true]
  refine KFB.if_so (by decide) ?_
  refine wpAny_bind (check_bound_init F.excBase_ValueError.toExcCallFacts hC he rfl ?_)
  refine wpAny_bind (wpAny_pure (wpAny_pure ?_))
  refine ⟨plainId_quiet F.excBase_ValueError.init.plain _, codeAny_builtin F.excBase_ValueError.initEntry ?_⟩
  rw [Around.under_plainId F.excBase_ValueError.init.plain _]
  wp_walk
  refine hq _ hp.objs.size (fun b o hb ho => ?_) ?_
  · rw [Heap.get?_update_other _ _ (Ne.symm hb)]
    exact Heap.get?_push_of_some _ ho
  · rw [Heap.get?_update_self _ (Heap.get?_push_of_some _ he) rfl]
    rfl
/-- what is known of such a class at C: its __init__ at fI, whose text is told -/
structure RzC (K : Frag) (prog : Program) (C fI : Addr) (params : Arguments) (scope : Scope) (msg f : Str) : Prop where
  oex : L2.OexC K C
  ini : findIn K (.ref C) "__init__" = some (some (.ref fI))
  tI : typeIn K (.ref fI) = some (.type "function")
  fn : ∃ (oc : Value) (od : Option Addr) (qual : Str) (kV doc pm : Value) (an : Option Addr) (cda cc : Addr) (ct : Value) (osl : Array (Option Value)) (p0 p1 p2 p3 p4 p5 p6 p7 p8 p9 : Pos) (j : Nat) (occ : Value) (odc : Option Addr) (vs : Array Value) (osc : Array (Option Value)) (file : Str) (tf : Tok) (cl : Value) (cld : Option Addr) (csl : Array (Option Value)),
    K.lookup fI = some ⟨oc, od, .func (ksFn "__init__" qual params [.Expr (.Call (.Attribute (.Call (.Name "super" p0) [] [] p1) "__init__" p2) [.Constant (.str msg) j p3] [] p4) p5, .Assign [.Attribute (.Name "self" p6) f p7] (.Name "part" p8) p9] scope .none kV doc pm an (.ref cda) ct cc), osl⟩ ∧ codeIn K (.ref cda) qual = true ∧
    K.lookup cda = some ⟨occ, odc, .fields vs, osc⟩ ∧ vs[2]? = some (.str file tf) ∧ ((prog.main.file : Str) == file) = true ∧ K.lookup cc = some ⟨cl, cld, .cell (some (.ref C)), csl⟩ ∧
    ∀ env : Env, ∃ pl : Sem Bool, eval (.Call (.Attribute (.Call (.Name "super" p0) [] [] p1) "__init__" p2) [.Constant (.str msg) j p3] [] p4) env = (do
      let ov ← attributeBase (.Call (.Name "super" p0) [] [] p1) "__init__" env (eval (.Call (.Name "super" p0) [] [] p1) env)
      standAt p2.atName
      let (f, first) ← holding [ov] (getMethod ov "__init__" pl)
      callWith p4 f first (backTo p4 (starEach [.Constant (.str msg) j p3] env)) [])
  hd : (params.posonlyargs ++ params.args).head?.map (·.arg) = some "self"
  bind : ∀ (qual : Str) (kV doc pm : Value) (an : Option Addr) (cdv ct : Value) (cc : Addr) (b : List Stmt) (x y : Value), bindArgs (ksFn "__init__" qual params b scope .none kV doc pm an cdv ct cc) ⟨[x, y], []⟩ = pure [(("self" : Str), x), (("part" : Str), y)]
  sc1 : scope.names.lookup ("super" : Str) = some .globalImplicit
  sc2 : scope.names.lookup ("__class__" : Str) = some .free
  sc3 : scope.names.lookup ("self" : Str) = some .local
  sc4 : scope.names.lookup ("part" : Str) = some .local
  sck : scope.kind = .function
  sco : scope.isCoroutine = false
  scg : scope.isGenerator = false
  scc : ∀ x ∈ scope.names, x.2 ≠ .cell
  along : ∃ cd, clsIn K C = some cd ∧ alongIn K "__init__" ((cd.mro.dropWhile (· != .ref C)).drop 1) = some (some (.builtin "ValueError.__init__"))
  third : nsIn K cStatics "thirdparty.any" = some none
  subVE : subIn K (.ref C) (.type "ValueError") = some true
  self : mroIn K C (.ref C) = some true
  noF : findIn K (.ref C) f = some none
  htop : (prog.main.scope.names.lookup ("super" : Str)).isSome = false
theorem vx_run {K : Frag} {mg mb : Str → Option Value} {C fI e t0 : Addr} {params : Arguments} {scope : Scope} {msg f : Str} {v : Value} (T : RzC K prog C fI params scope msg f) (KX : K.In hp) (ns : hp.Ns mainGlobals mg) (nb : hp.Ns builtinsNs mb) (hbb : mb "super" = bootBuiltins "super") (hlim : hp.NoLimit) (hms : mg "super" = none)
    (hroom : A.depth < recursionLimit) (he : hp.get? e = some (HandSPX.excO C t0)) (hKe : K.lookup e = none)
    (hq : ∀ h' tk dx t1, (∀ b o, b ≠ e → hp.get? b = some o → h'.get? b = some o) → hp.objs.size ≤ dx → dx ≠ e → h'.get? e = some { cls := .ref C, dict := some dx, data := .fields #[.ref t1, .none, .none, .none, .bool false, .none] } →
      h'.Ns1 dx (fun y => if y = f then some v else none) → R (.ok (.ret .none)) ⟨h', g, d, tk, os⟩) : codeAny (model prog w) A (.call (.ref fI) ⟨[.ref e, v], []⟩) R ⟨hp, g, d, t, os⟩ := by
  obtain ⟨oc, od, qual, kV, doc, pm, an, cda, cc, ct, osl, p0, p1, p2, p3, p4, p5, p6, p7, p8, p9, j, occ, odc, vs, osc, file, tf, cl, cld, csl, lk, hcd, lkc, hvs, hfile, lcc, hev⟩ := T.fn
  obtain ⟨nm, q, N, bs, bm, sn, sub, ab, col, dd, k0, k1, k2, k3, k5, hC, hbm⟩ := T.oex.cls
  have hcl : clsIn K C = some { name := nm, bases := bs, mro := .ref C :: bm, ns := N, qualname := q, hasDict := true, slotNames := sn, subclasses := sub, abstract := ab, collection := col, hasDel := false } := by unfold clsIn; rw [hC] <;> rfl
  have hCd : ∃ oD, hp.get? C = some oD ∧ oD.data = .cls { name := nm, bases := bs, mro := .ref C :: bm, ns := N, qualname := q, hasDict := true, slotNames := sn, subclasses := sub, abstract := ab, collection := col, hasDel := false } := ⟨_, KX _ _ hC, rfl⟩
  have hkind : ∀ x ∈ [(("self" : Str), Value.ref e), (("part" : Str), v)], scope.names.lookup x.1 = some .local := fun x hx => by
    rcases List.mem_cons.mp hx with z | hx
    · rw [z]; exact T.sc3
    · rw [List.mem_singleton.mp hx]; exact T.sc4
  refine ks_codeAny_call_defAt hroom (KX _ _ lk) rfl hlim (codeRec_of KX hcd) rfl (BindsTo.of_eq (T.bind qual kV doc pm an (.ref cda) ct cc _ (.ref e) v)) T.scc hkind (fun h₀ hns0 hk0 => ?_) T.sco T.scg T.sck
  have X0 : K.In h₀ := fun b o z => hk0 b o (KX b o z)
  obtain ⟨oD, hD1, hD2⟩ := hCd
  obtain ⟨ar, har, harg⟩ : ∃ ar, (params.posonlyargs ++ params.args).head? = some ar ∧ ar.arg = "self" := by
    cases z : (params.posonlyargs ++ params.args).head? with
    | none => have y := T.hd; rw [z] at y; cases y
    | some ar => have y := T.hd; rw [z] at y; exact ⟨ar, rfl, Option.some.inj y⟩
  have hself : (fun x => ([(("self" : Str), Value.ref e), (("part" : Str), v)]).reverse.lookup x) "self" = some (.ref e) := by rfl
  have hpart : (fun x => ([(("self" : Str), Value.ref e), (("part" : Str), v)]).reverse.lookup x) "part" = some v := by rfl
  have he0 := hk0 _ _ he
  have hI : Looks (model prog w) h₀ (isInstance (.ref e) (.type "ValueError")) true := (show InstAt h₀ e (HandSPX.excO C t0) C none from ⟨he0, rfl, rfl, trivial⟩).type.andThen (looks_subIn X0 T.subVE)
  obtain ⟨pl, hpl⟩ := hev (envX qual scope hp.objs.size fI (.ref cda) [("__class__", cc)])
  -- the second statement, from a heap behind the first
  have second : ∀ (h2 : Heap) (t2 : Nat) (t1 : Addr), (∀ b o, b ≠ e → h₀.get? b = some o → h2.get? b = some o) → h2.get? e = some (HandSPX.excO C t1) → K.In h2 → h2.Ns hp.objs.size (fun x => ([(("self" : Str), Value.ref e), (("part" : Str), v)]).reverse.lookup x) →
      wpAny (model prog w) (A.deeper (envX qual scope hp.objs.size fI (.ref cda) [("__class__", cc)])) (execs [.Assign [.Attribute (.Name "self" p6) f p7] (.Name "part" p8) p9] (envX qual scope hp.objs.size fI (.ref cda) [("__class__", cc)])) (fun f s' => R (.ok (.ret (match f with | .ret v => v | _ => .none))) s')
        (fun er s' => wpAny (model prog w) (A.deeper (envX qual scope hp.objs.size fI (.ref cda) [("__class__", cc)])) (leaving (envX qual scope hp.objs.size fI (.ref cda) [("__class__", cc)]) er) (fun _ s'' => R (.error er) s'') (fun e' s'' => R (.error e') s'') s') ⟨h2, g, d, t2, os⟩ := by
    intro h2 t2 t1 k2 e2 X2 n2
    refine wpAny_execs_cons (plainObj_wpAny_Assign_Attribute ?_ rfl)
    refine wpAny_Name (wpAny_loadName_local T.sck T.sc4 n2 hpart ?_) (by decide)
    refine wpAny_Name (wpAny_loadName_local T.sck T.sc3 n2 hself ?_) (by decide)
    refine set_plain X2 (ox := HandSPX.excO C t1) (od := none) ⟨e2, rfl, rfl, trivial⟩ T.oex.sa ?_
    refine HandSPX.exc_osa X2 e2 hcl (show HandSPX.refsVE (.ref C :: bm) = true from hbm) rfl T.noF (fun h' tk' dx k dn dne hx hn => ?_)
    refine wpAny_execs_nil ?_
    have hle : hp.objs.size ≤ h2.objs.size := by
      obtain ⟨oL, _, _, eL, _⟩ := n2
      exact Nat.le_of_lt (Heap.lt_size eL)
    exact hq h' tk' dx t1 (fun b o nb z => k b o nb (k2 b o nb (hk0 b o z))) (Nat.le_trans hle dn) dne hx hn
  have hint : interactive (envX qual scope hp.objs.size fI (.ref cda) [("__class__", cc)]) = false := by
    unfold interactive
    rw [show (envX qual scope hp.objs.size fI (.ref cda) [("__class__", cc)]).scope.kind = ScopeKind.function from T.sck]
    rfl
  refine ks_wpAt_execs_cons (ks_wpAt_Expr_any (ks_wpAt_MethodCall (pl := pl) ?_ hpl) hint rfl)
  refine ks_wpAt_super_base (env := envX qual scope hp.objs.size fI (.ref cda) [("__class__", cc)]) T.sc1 T.sc2 (by decide) rfl (X0 _ _ lk) rfl har rfl (X0 _ _ lkc) rfl hvs hfile T.htop ?_
  have nsG : h₀.Ns mainGlobals mg := ns.at fun o z => hk0 _ o z
  have nsB : h₀.Ns builtinsNs mb := nb.at fun o z => hk0 _ o z
  refine ks_loadName_global T.sck T.sc1 (Calls.loadGlobal_builtin (env := envX qual scope hp.objs.size fI (.ref cda) [("__class__", cc)]) nsG hms nsB (hbb.trans (by decide +kernel : bootBuiltins "super" = some (.type "super"))) ⟨rfl, ?_⟩)
  refine wpAny_loadName_free T.sck T.sc2 rfl ⟨_, X0 _ _ lcc, rfl⟩ ?_
  rw [harg]
  refine wpAny_loadName_local T.sck T.sc3 hns0 hself ?_
  refine ks_wpAny_isType_cls (hk0 _ _ hD1) hD2 ⟨rfl, ?_⟩
  refine ks_wpAny_call_super (hk0 _ _ hD1) hD2 he0 rfl (fun c z => by cases z) (looks_mroIn X0 T.self) (fun h3 e3 k3 => ?_)
  have X3 : K.In h3 := fun b o z => k3 b o (X0 b o z)
  obtain ⟨cd, hcd', hal⟩ := T.along
  have hI3 : Looks (model prog w) h3 (isInstance (.ref e) (.type "ValueError")) true := (show InstAt h3 e (HandSPX.excO C t0) C none from ⟨k3 _ _ he0, rfl, rfl, trivial⟩).type.andThen (looks_subIn X3 T.subVE)
  have heC : e ≠ C := fun z => by
    rw [z] at he
    rw [hD1] at he
    cases he
    cases hD2
  refine kxs_getMethod kxs_ValueError e3 (looks_opaque X3 T.third) (l₀ := cd.mro) (fun A Q E s k q => wpAny_bind ((looks_clsIn X3 hcd') A _ E s k (wpAny_pure q))) rfl X3 hal hI3 heC (by decide) ?_
  have hs : starEach [.Constant (.str msg) j p3] (envX qual scope hp.objs.size fI (.ref cda) [("__class__", cc)]) = (false, eval (.Constant (.str msg) j p3) (envX qual scope hp.objs.size fI (.ref cda) [("__class__", cc)])) :: starEach [] (envX qual scope hp.objs.size fI (.ref cda) [("__class__", cc)]) := rfl
  show wpAny _ _ (callWith p4 (.ref h3.objs.size) [] (backTo p4 (starEach [.Constant (.str msg) j p3] (envX qual scope hp.objs.size fI (.ref cda) [("__class__", cc)]))) []) _ _ _
  rw [hs]
  refine kxs_callWith (i := "ValueError.__init__") (x := e) rfl (Calls.evalArgs_plain ?_)
  refine Calls.spliced_cons (Calls.Constant_str (k := j) (pos := p3) ?_)
  refine Calls.spliced_nil ⟨?_, ?_⟩
  · exact Heap.get?_push_at rfl rfl
  have e3' : (h3.push (kxs_mw "ValueError.__init__" e)).get? e = some (HandSPX.excO C t0) := Heap.get?_push_of_some _ (k3 _ _ he0)
  refine vx_mw (X3 _ _ hC |> Heap.get?_push_of_some _) e3' (Heap.get?_push_at rfl rfl) (by show 1 ≤ sizeLine; decide) (fun h4 t1 k4 e4 => ?_)
  have kk : ∀ b o, b ≠ e → h₀.get? b = some o → h4.get? b = some o := fun b o nb z => k4 b o nb (Heap.get?_push_of_some _ (k3 b o z))
  have X4 : K.In h4 := fun b o z => by
    by_cases nb : b = e
    · rw [nb, hKe] at z
      cases z
    · exact kk b o nb (X0 b o z)
  have n4 : h4.Ns hp.objs.size (fun x => ([(("self" : Str), Value.ref e), (("part" : Str), v)]).reverse.lookup x) := by
    obtain ⟨oL, es, ep, eL, r⟩ := hns0
    exact ⟨oL, es, ep, kk _ _ (Nat.ne_of_gt (Heap.lt_size he)) eL, r⟩
  exact PySem.wpAt_of_wpAny (second h4 _ t1 kk e4 X4 n4)
end
open L2 in
/-- C(e), as an expression that makes an exception -/
theorem pmk_rz {X : Cx} {x f msg : Str} {C fI : Addr} {params : Arguments} {scope : Scope} {k : Nat} {e : Expr} {te : TE} {p pos : Pos} (T : RzC X.K X.prog C fI params scope msg f) (hr : Room (k + 1) X.A) (hms : X.mg "super" = none) (hg : Gl X x) (hm : X.mg x = some (.ref C)) (ha : PE X e te)
    (hdb : (x == ("__debug__" : Str)) = false := by decide) (he : starEach (e :: []) X.env = (false, eval e X.env) :: starEach [] X.env := by rfl) (hpl : (backTo pos (starEach [] X.env)).any (·.1) = false := by rfl) :
    PMk X (.Call (.Name x p) [e] [] pos) (fun σ H Q => te σ H fun y H1 => ∀ dx, H1 dx = none → Q (.ref C) (some dx) (upd H1 dx (.xd [(f, y)]))) := by
  intro pins s σ H Q I h
  obtain ⟨nm, q, N, bs, bm, sn, sub, ab, col, dd, k0, k1, k2, k3, k5, hC, hbm⟩ := T.oex.cls
  refine wpAny_Call_Name_kw (ld_glob I hg hm ?_ hdb)
  refine PySem.W.callWith_K (h₀ := X.base) I.ok.mod.kin T.oex.kC (thn ((pa_cons ha pa_nil he).run pos pins s σ H (fun vs H1 => match vs with | [y] => ∀ dx, H1 dx = none → Q (.ref C) (some dx) (upd H1 dx (.xd [(f, y)])) | _ => False) I h) fun us s1 ⟨vs, H1, I1, r1, q1⟩ => ⟨I1.kIn, ?_⟩) he hpl
  obtain ⟨y, rfl⟩ : ∃ y, vs = [y] := by
    match vs, q1 with
    | [y], _ => exact ⟨y, rfl⟩
    | [], z => exact z.elim
    | _ :: _ :: _, z => exact z.elim
  obtain ⟨u, rfl, ru⟩ := vals1 r1
  show wpAny _ _ (call (.ref C) [u]) _ _ _
  obtain ⟨hp, g, dr, tk, os⟩ := s1
  have hsz : hp.objs.size ≤ hp.objs.size + 1 := Nat.le_succ _
  have hn : H1 (hp.objs.size + 1) = none := I1.hok.fresh hsz
  have kk : ∀ b o, hp.get? b = some o → ((hp.push (PySem.W.kdv_tup [u])).push (PySem.HandSPX.excO C hp.objs.size)).get? b = some o := fun b o e => Heap.get?_push_of_some _ (Heap.get?_push_of_some _ e)
  have hget : ((hp.push (PySem.W.kdv_tup [u])).push (PySem.HandSPX.excO C hp.objs.size)).get? (hp.objs.size + 1) = some (PySem.HandSPX.excO C hp.objs.size) := by heap_get
  have I2 : Inv X pins σ (upd H1 (hp.objs.size + 1) (exo (hp.objs.size + 1) C none)) ⟨(hp.push (PySem.W.kdv_tup [u])).push (PySem.HandSPX.excO C hp.objs.size), g, dr, tk, os⟩ :=
    I1.laid (t' := tk) (a := hp.objs.size + 1) (o := exo (hp.objs.size + 1) C none) (h' := (hp.push (PySem.W.kdv_tup [u])).push (PySem.HandSPX.excO C hp.objs.size)) kk hsz (exo_ok hget)
  have hKe : X.K.lookup (hp.objs.size + 1) = none := by
    cases z : X.K.lookup (hp.objs.size + 1) with
    | none => rfl
    | some o => exact absurd (Heap.lt_size (I1.kIn _ _ z)) (by show ¬ hp.objs.size + 1 < hp.objs.size; omega)
  obtain ⟨mb, b1, b2⟩ := I2.mod.blt
  refine wpAny_call (PySem.HandSPX.call_own F.excBase_ValueError (fun Y => PySem.HandSPX.refsVE_contains Y bm hbm) (I1.kIn _ _ hC) (PySem.W.looks_findIn I1.kIn T.ini) (fun self => PySem.W.bind_fn I1.kIn self T.tI) (by show 1 ≤ sizeLine; decide)
    (vx_run T I2.kIn (I2.mod.glob.keeps I2.bk) (b1.keeps I2.bk) (b2 _ (by decide)) I2.nolimit hms (hr.make C [u] []).depth hget hKe fun h' tk' dx t1 k dn dne hx hn' => ?_))
  have e0 : upd H1 (hp.objs.size + 1) (exo (hp.objs.size + 1) C none) (hp.objs.size + 1) = some (exo (hp.objs.size + 1) C none) := upd_same
  generalize hH2 : upd H1 (hp.objs.size + 1) (exo (hp.objs.size + 1) C none) = H2 at I2 e0
  generalize hee : hp.objs.size + 1 = ee at *
  generalize hpp : (hp.push (PySem.W.kdv_tup [u])).push (PySem.HandSPX.excO C hp.objs.size) = h2 at *
  have dn : h2.objs.size ≤ dx := dn
  have hnd : H2 dx = none := I2.hok.fresh dn
  have nd : ∀ {b : Addr} {o : Obj}, h2.get? b = some o → b ≠ dx := fun {b o} q => Nat.ne_of_lt (Nat.lt_of_lt_of_le (Heap.lt_size q) dn)
  have na : ∀ {b : Addr}, H2 b = none → b ≠ ee := fun {b} n z => by
    rw [z, e0] at n
    cases n
  have k : ∀ b o, b ≠ ee → h2.get? b = some o → h'.get? b = some o := k
  have Un1 : Un (frs X.stack) [] H2 (upd (upd H2 dx (exd dx [(f, y)])) ee (exo ee C (some dx))) h2 h' := {
    keep := fun b o q n _ _ => k b o (na n) q
    slot := fun b o q n _ _ => ⟨o.slots, k b o (na n) q⟩
    free := fun b o q n _ => by rw [upd_ne (na n), upd_ne (nd q)]; exact n
    there := fun b o q _ => by
      by_cases hb : b = ee
      · exact ⟨_, by rw [hb]; exact hx⟩
      · exact ⟨o, k b o hb q⟩
    tups := fun b xs q => by rw [upd_ne (at_ne e0 q exo_tup), upd_ne (ne_of_none q hnd)]; exact q
    frzs := fun b o v q => by rw [upd_ne (at_ne e0 q exo_frz), upd_ne (ne_of_none q hnd)]; exact q
    tbls := fun b ps q => ⟨#[], by rw [upd_ne (at_ne e0 q exo_tbl), upd_ne (ne_of_none q hnd), q]; simp⟩ }
  have hok2 : HOk X.prog X.w (upd (upd H2 dx (exd dx [(f, y)])) ee (exo ee C (some dx))) h' := fun b o q => by
    by_cases hb : b = ee
    · subst hb
      rw [upd_same] at q
      cases q
      exact exo_ok hx
    · rw [upd_ne hb] at q
      by_cases hd : b = dx
      · subst hd
        rw [upd_same] at q
        cases q
        exact exd_ok hn' (relO_put (fs := []) ru fun g => True.intro)
      · rw [upd_ne hd] at q
        exact (I2.hok b o q).stay (fun c v hc z => k c v (by
            rcases hc with hc | hc
            · rw [hc]
              exact hb
            · exact at_ne e0 hc exo_own) z)
          (fun c hc => by rw [upd_ne (at_ne e0 hc exo_own), upd_ne (ne_of_none hc hnd)]; exact hc) (fun c xs hc => by rw [upd_ne (at_ne e0 hc exo_tup), upd_ne (ne_of_none hc hnd)]; exact hc)
  subst hH2
  have hd1 : H1 dx = none := by
    rw [upd_ne dne] at hnd
    exact hnd
  have hne : dx ≠ ee := dne
  refine ⟨rfl, mk_end (raises_own T.oex.exC T.oex.tyC) I1 hsz kk Un1 hok2 rfl I1.bare (a := ee) (C := C) (d := dx) (fs := [(f, y)]) upd_same (by rw [upd_ne hne]; exact upd_same) hd1 ?_⟩
  have eH : upd (del (upd (upd (upd H1 ee (exo ee C none)) dx (exd dx [(f, y)])) ee (exo ee C (some dx))) ee) dx (.xd [(f, y)]) = upd H1 dx (.xd [(f, y)]) := by
    funext b
    by_cases hb : b = dx
    · rw [hb, upd_same, upd_same]
    · rw [upd_ne hb, upd_ne hb]
      by_cases he2 : b = ee
      · rw [he2, del_same, hn]
      · rw [del_ne he2, upd_ne he2, upd_ne hb, upd_ne he2]
  rw [eH]
  exact q1 dx hd1
end Dn
end

section
set_option Elab.async false
set_option linter.all false
set_option maxRecDepth 100000
set_option maxHeartbeats 4000000
namespace Dn
open PySem PySem.Spec PyProof.Rows L2
/-! ### raise C(e) -/
def sRaise (c f : Str) (fe : FE) : FS := fun ρ p => (fe ρ p).bnd fun d p => .exc c [f] [d] p
section
variable {X : Cx} {W : WX} {pos : Pos}
theorem ds_raise {x f msg : Str} {C fI : Addr} {params : Arguments} {scope : Scope} {k : Nat} {e : Expr} {fe : FE} {p rpos : Pos} (hc : X.calm = true) (tk : Takes X W) (T : RzC X.K X.prog C fI params scope msg f) (hr : RoomG (k + 1) X.A) (hms : X.mg "super" = none) (hm : X.mg x = some (.ref C)) (ha : DE X W e fe) (hg : Gl X x := by rfl)
    (hdb : (x == ("__debug__" : Str)) = false := by decide) (he : starEach (e :: []) X.env = (false, eval e X.env) :: starEach [] X.env := by rfl) (hpl : (backTo pos (starEach [] X.env)).any (·.1) = false := by rfl) :
    DS X W (.Raise (some (.Call (.Name x p) [e] [] pos)) none rpos) (sRaise x f fe) := L2.PS.imp (ps_raise hc tk (pmk_rz T hr.r hms hg hm ha hdb he hpl)) fun D σ H h => by
  obtain ⟨pa, Av, ρ, p, F, r, s, h⟩ := h
  refine seqSE r s h fun d p1 v H1 e1 hd r1 s1 h1 dx hdx => ?_
  have k := r1.pen.new (o := HO.xd [(f, v)]) r1.base hdx
  have r2 := r1.step (Ext.new (o := HO.xd [(f, v)]) hdx) k
  have s2 := s1.step (Ext.new (o := HO.xd [(f, v)]) hdx) k.live
  refine h1 Av σ ρ C dx [(f, v)] _ r2 s2 hm ?_ upd_same rfl (.cons (dr_new hdx hd) .nil)
  cases z : F.H0 dx with
  | none => rfl
  | some o => exact absurd hdx (s1.liv dx (by rw [z]; simp))
end
/-! ### try: .. except x as n: y = n, the exception kept -/
section
variable {X : Cx} {pins : List (Addr × Obj)} {σ : L2.St} {H : Hp} {s : Shared}
theorem exO_ok {P : Program} {w : World} {H : Hp} {h : Heap} {C x a : Addr} {oe : Obj} {vs : Array Value} (h1 : h.get? a = some oe) (h2 : oe.cls = .ref C) (h3 : oe.dict = some x) (h4 : oe.data = .fields vs) : ObjOk P w H h a (ExO C x a) :=
  ⟨⟨oe, vs, h1, h2, h3, h4⟩, ⟨oe, h1⟩, fun g1 g2 ⟨oe, vs, a1, a2, a3, a4⟩ k => ⟨oe, vs, k _ a1, a2, a3, a4⟩⟩
theorem exO_own {C x a b : Addr} : ExO C x a ≠ .own b := fun z => by unfold ExO at z; cases z
/-- an object that stands is tracked from now on -/
theorem Inv.track {a : Addr} {oe : Obj} {vs : Array Value} {o : HO} (I : Inv X pins σ H s) (fr : ∀ b u, X.s_0.heap.get? b = some u → b ∉ X.ex → b ≠ a) (na : H a = none) (ha : s.heap.get? a = some oe) (hd : oe.data = .fields vs) (nL : a ≠ X.env.locals) (np : ∀ p ∈ X.pn ++ pins, p.1 ≠ a)
    (new : ObjOk X.prog X.w (upd H a o) s.heap a o) : Inv X pins σ (upd H a o) s := by
  have ne : ∀ {b : Addr} {u : HO}, H b = some u → b ≠ a := fun e => ne_of_none e na
  refine ⟨I.ok, I.os, I.bare, ⟨I.base.keep, I.base.slot, fun b u e n hx => ?_, I.base.there, fun b xs e => ?_, fun b u xs e => ?_, fun b ps e => ?_⟩, I.loc, I.cell, ?_, fun y c e => ?_, fun p hp => ?_, fun b u e => ?_, I.len⟩
  · rw [upd_ne (fr b u e hx)]; exact I.base.free b u e n hx
  · have z := I.base.tups b xs e; rw [upd_ne (ne z)]; exact z
  · have z := I.base.frzs b u xs e; rw [upd_ne (ne z)]; exact z
  · obtain ⟨m, z⟩ := I.base.tbls b ps e; exact ⟨m, by rw [upd_ne (ne z)]; exact z⟩
  · rw [upd_ne (Ne.symm nL)]; exact I.free
  · have nc : c ≠ a := fun z => by
      obtain ⟨v, o', ho, hd'⟩ := I.cell y c e
      rw [z, ha] at ho
      cases ho
      rw [hd] at hd'
      cases hd'
    rw [upd_ne nc]; exact I.freeC y c e
  · obtain ⟨e1, e2, e3⟩ := I.pin p hp
    exact ⟨e1, by rw [upd_ne (np p hp)]; exact e2, e3⟩
  · by_cases hb : b = a
    · subst hb
      rw [upd_same] at e
      cases e
      exact new
    · rw [upd_ne hb] at e
      exact (I.hok b u e).stay (fun c v _ z => z) (fun c hc => by rw [upd_ne (ne hc)]; exact hc) (fun c xs hc => by rw [upd_ne (ne hc)]; exact hc)
/-- back from an except suite, the exception still pinned -/
theorem unsuite' {a : Addr} {oe : Obj} {pn' : List (Addr × Obj)} (I : Inv (X.suite a ((a, oe) :: (X.pn ++ pins))) pn' σ H s) (ok : X.Ok) : Inv X ((a, oe) :: pins) σ H s :=
  ⟨ok, I.os, I.bare, I.base, I.loc, I.cell, I.free, I.freeC, fun p hp => I.pin p (List.mem_append_left _ (by
    rcases List.mem_append.mp hp with z | z
    · exact List.mem_cons_of_mem _ (List.mem_append_left _ z)
    · rcases List.mem_cons.mp z with y | y
      · rw [y]; exact List.mem_cons_self
      · exact List.mem_cons_of_mem _ (List.mem_append_right _ y))), I.hok, I.len⟩
end
/-- what such a try wishes of an exception of its body: slot i is n's, slot j gets it -/
def wKeep (K : PySem.W.Frag) (c : Value) (i j : Nat) (Wout : WX) (D : Ends) : WX := fun cls d σ H =>
  ∃ b, PySem.W.exmOne K cls c = some b ∧ (b = true → ∃ C x, cls = .ref C ∧ d = some x ∧ ∀ a, H a = none → D.nx ((σ.set j (some (.ref a))).set i none) (upd H a (ExO C x a))) ∧ (b = false → Wout cls d σ H)
section
variable {X : Cx} {x n y : Str} {c : Value} {i j : Nat} {body : List Stmt} {np np2 yp ap pos pos' : Pos} {tb : WX → TS} {Wout : WX}
theorem ps_try_keep (hs : X.stack = X.env :: X.outer) (hf : X.env.frame = some X.env.locals) (hN : X.N.Nodup) (hi : X.N[i]? = some n) (hj : X.N[j]? = some y) (hij : i ≠ j) (hln : X.env.kindOf n = some .local) (hly : X.env.kindOf y = some .local) (hc : Names X x c) (tk : Takes X Wout) (hn1 : (n == ("__debug__" : Str)) = false) (hn2 : (n == ("__classdict__" : Str)) = false)
    (hsw : ∀ env, swapsWith (.Name n np2) (some (.Name y yp)) ap.line env = pure false)
    (hb : ∀ (W : WX) (pn : List (Addr × Obj)) (xe : Value → Shared → Prop), Takes (X.tr pn xe) W → PassesOwn (model X.prog X.w) X.A X.env xe → PSs (X.tr pn xe) body (tb W)) :
    PS X (.Try body [.ExceptHandler (some (.Name x np)) (some n) [.Assign [.Name y yp] (.Name n np2) ap] pos'] [] [] pos) (fun D σ H => tb (wKeep X.K c i j Wout D) D σ H) := by
  refine ⟨fun pins s σ H D I h => ?_⟩
  have ok := I.ok
  have hfr : X.A.frames = some (X.env :: X.outer) := by rw [ok.frames, hs]
  have hloc : Loc X.env.scope n := .inl hln
  refine wpAny_Try_except ?_
  refine wpAny_mono ((hb (wKeep X.K c i j Wout D) (X.pn ++ pins) (fun e s₁ => wpAny (model X.prog X.w) X.A (noteFrame e X.env) (fun _ s₂ => wpAny (model X.prog X.w) X.A (setFlight e none) (fun _ s₃ =>
    wpAny (model X.prog X.w) X.A (handleBy e X.env [.ExceptHandler (some (.Name x np)) (some n) [.Assign [.Name y yp] (.Name n np2) ap] pos']) (SP X pins D) X.xe s₃) X.xe s₂) X.xe s₁) (fun u s' xx => ?_) PassesOwn.looking).run [] s σ H D (I.toTry _) h) (fun f s1 hsp => ?_) (fun e s1 he => he)
  · obtain ⟨a, B, sI, pins', σ', H', cls, d, rfl, J', nb, up, sky, na, os, ag, b, hb1, hyes, hno⟩ := xx
    have J : Inv X pins σ' H' sI := J'.ofTry ok
    have sky' : Sky B (X.env :: X.outer) a (Zc cls d) X.env.locals s'.heap := by rw [← hs]; exact sky
    show wpAny (model X.prog X.w) X.A (noteFrame (.ref a) X.env) _ _ _
    refine Sky.land Zc.steady hfr hf sky' fun h3 fl3 up3 => ?_
    have J3 : Inv X pins σ' H' { s' with heap := h3 } := J.landed nb fl3.1 (up.trans up3) os ag
    obtain ⟨oe3, vs3, he3, hz3, hd3⟩ := fl3.there
    have notFr : ∀ {h : Heap} {o : Obj} {vs : Array Value}, h.FunFrames B (X.env :: X.outer) → h.get? a = some o → o.data = .fields vs → a ∉ frs (X.env :: X.outer) := fun {h o vs} ff e dd hm => by
      obtain ⟨_, o', e', hnf⟩ := ff.mem hm
      rw [e] at e'; cases e'
      exact hnf _ dd
    have nfr := notFr fl3.2.2.1 he3 hd3
    have nL : a ≠ X.env.locals := fun z => nfr (List.mem_filterMap.mpr ⟨X.env, List.mem_cons_self, by rw [hf, z]⟩)
    have nF : a ∉ X.fs := fun hm => by
      obtain ⟨e, he, q⟩ := List.mem_filterMap.mp hm
      exact nfr (List.mem_filterMap.mpr ⟨e, List.mem_cons_of_mem _ he, q⟩)
    have fresh0 : ∀ {o : Obj}, sI.heap.get? a = some o → False := fun {o} z => by
      have h1 := nb a o z (by show a ∉ frs X.stack; rw [hs]; exact nfr)
      have h2 : B.get? a = none := fl3.2.1
      rw [h1] at h2
      cases h2
    have S3 := J3.suite he3 hd3 na nL nF
    refine wpAny_handleBy_cons (codeAny_handlers_test ?_) (by intro q; cases q)
    have LT : PySem.W.Looks (model X.prog X.w) h3 (typeOf (.ref a)) cls := fun A Q E s k q => wpAny_typeOf_ref (k _ _ he3) (by rw [hz3.1]; exact q)
    have LM := PySem.W.exm_one (M := model X.prog X.w) (J3.kIn) LT hb1
    have test : ∀ {Q : Value → Shared → Prop} {E : Value → Shared → Prop}, Q c { s' with heap := h3 } → wpAny (model X.prog X.w) (X.A.mark (some (.ref a))) (eval (.Name x np) X.env) Q E { s' with heap := h3 } := fun {Q E} q => by
      obtain ⟨hg, hdbg, hm | ⟨hm, hv, hnn⟩⟩ := hc
      · exact ld_glob (X := X.suite a ((a, oe3) :: (X.pn ++ pins))) S3 hg hm q hdbg
      · exact ld_blt (X := X.suite a ((a, oe3) :: (X.pn ++ pins))) S3 hg hm hv q hnn hdbg
    refine test (LM.here ?_)
    cases b with
    | true =>
      obtain ⟨C, dx, eC, ed, hyes⟩ := hyes rfl
      refine codeAny_handlers_suite_as ?_
      refine HandSPX.lands_againZ fl3 fun h4 fl4 up4 => ?_
      have J4 : Inv X pins σ' H' { s' with heap := h4 } := J.landed nb fl4.1 ((up.trans up3).trans up4) os ag
      obtain ⟨oe4, vs4, he4, hz4, hd4⟩ := fl4.there
      have S4 := J4.suite he4 hd4 na nL nF
      refine store_ok (X := X.suite a ((a, oe4) :: (X.pn ++ pins))) (v := .ref a) S4 hN hi hloc rfl (fun s5 S5 => ?_) (.inr hln)
      have hil : i < σ'.length := by
        have := (List.getElem?_eq_some_iff.mp hi).1
        rw [J.len]; exact this
      have setY := ps_set (X := X.suite a ((a, oe4) :: (X.pn ++ pins))) (pos := ap) (pos' := yp) hN hj (.inl hly) (pe_var (X := X.suite a ((a, oe4) :: (X.pn ++ pins))) (pos := np2) hi (.inl hln) hn1 hn2) (hsw _) (.inr hly)
      refine wpAny_mono ((pss_one setY).run [] s5 _ H' { nx := fun σ6 H6 => σ6 = (σ'.set i (some (.ref a))).set j (some (.ref a)) ∧ H6 = H', rt := fun _ _ => False, bk := fun _ _ => False, ct := fun _ _ => False } S5 ⟨.ref a, List.getElem?_set_self hil, rfl, rfl⟩) (fun f s6 hsp => ?_) (fun _ _ z => False.elim z)
      cases f with
      | next =>
        obtain ⟨σ6, H6, S6, rfl, rfl⟩ := hsp
        refine gone_ok (unsuite' S6 ok) hN hi hln fun s7 J7 => ?_
        obtain ⟨e7, n7, l7, f7, c7⟩ := J7.pin (a, oe4) (List.mem_append_right _ List.mem_cons_self)
        have fresh : ∀ b u, X.s_0.heap.get? b = some u → b ∉ X.ex → b ≠ a := fun b u hb hx z => by
          obtain ⟨o', h'⟩ := J.base.there b u hb hx
          rw [z] at h'
          exact fresh0 h'
        have npin : ∀ p ∈ X.pn ++ pins, p.1 ≠ a := fun p hp z => by
          have := (J.pin p hp).1
          rw [z] at this
          exact fresh0 this
        have J8 : Inv X pins (((σ'.set i (some (.ref a))).set j (some (.ref a))).set i none) H6 s7 := ⟨J7.ok, J7.os, J7.bare, J7.base, J7.loc, J7.cell, J7.free, J7.freeC, fun p hp => J7.pin p (by
          rcases List.mem_append.mp hp with z | z
          · exact List.mem_append_left _ z
          · exact List.mem_append_right _ (List.mem_cons_of_mem _ z)), J7.hok, J7.len⟩
        have J9 := Inv.track (o := ExO C dx a) J8 fresh n7 e7 hd4 l7 npin (exO_ok e7 (hz4.1.trans eC) (hz4.2.trans ed) hd4)
        refine ⟨_, _, J9, ?_⟩
        have es : ((σ'.set i (some (V.ref a))).set j (some (.ref a))).set i none = (σ'.set j (some (.ref a))).set i none := by
          rw [List.set_comm _ _ hij, List.set_set]
        rw [es]
        exact hyes a na
      | brk =>
        obtain ⟨σ6, H6, S6, q6⟩ := hsp
        exact q6.elim
      | cont =>
        obtain ⟨σ6, H6, S6, q6⟩ := hsp
        exact q6.elim
      | ret u =>
        obtain ⟨v6, σ6, H6, S6, r6, q6⟩ := hsp
        exact q6.elim
    | false =>
      show wpAny _ X.A (handleBy (.ref a) X.env []) _ _ _
      refine wpAny_handleBy_nil ?_
      obtain ⟨k1, k2, k3, oe, vs, T, oT, ts', he, hz, hd, h1, hr⟩ := id fl3
      unfold PySem.passOn
      refine wpAny_bind (wpAny_field he hd h1 ?_)
      rw [if_neg (show ¬ ((Value.ref T == Value.none) = true) from by simp)]
      have fin : wpAny (model X.prog X.w) X.A (setFlight (.ref a) X.env.frame) (fun _ s4 => wpAny (model X.prog X.w) X.A (throw (.ref a) : Sem Flow) (SP X pins D) X.xe s4) X.xe { s' with heap := h3 } := by
        rw [hf]
        refine HandSPX.setFlight_upZ fl3 fun h4 hh4 up4 => wpAny_throw (tk _ _ ?_)
        exact ⟨a, B, sI, pins, σ', H', cls, d, rfl, J, nb, (up.trans up3).trans up4, .inr (.inr (by rw [hs]; exact hh4)), na, os, ag, hno rfl⟩
      first
        | exact wpAny_bind (wpAny_pure (wpAny_bind fin))
        | exact wpAny_bind fin
  · cases f with
    | next =>
      obtain ⟨σ', H', J', q⟩ := hsp
      exact wpAny_execs_nil ⟨σ', H', J'.ofTry ok, q⟩
    | brk =>
      obtain ⟨σ', H', J', q⟩ := hsp
      exact ⟨σ', H', J'.ofTry ok, q⟩
    | cont =>
      obtain ⟨σ', H', J', q⟩ := hsp
      exact ⟨σ', H', J'.ofTry ok, q⟩
    | ret u =>
      obtain ⟨v, σ', H', J', r, q⟩ := hsp
      exact ⟨v, σ', H', J'.ofTry ok, r, q⟩
end

/-! ### as rules -/
def sTry (known : List Str) (i j : Nat) (f : FE) (A : D → FS) : FS := fun ρ p => match f ρ p with
  | .ok d p => A d ρ p
  | .exc c ks ds p => if c ∈ known then .ok (.nx, (ρ.set j (.val (.ex c ks ds))).set i .none) p else .stuck
  | .stuck => .stuck
theorem SI.wipe1 {pa : Addr} {F : Fr} {Av : List Addr} {σ : L2.St} {ρ : List Sl} {H : Hp} (s : SI pa F Av σ ρ H) (i : Nat) : SI pa F Av (σ.set i none) (ρ.set i .none) H :=
  ⟨s.ext, fun a ⟨j, ds, h1, h2⟩ => by
    rcases set_cases h1 with ⟨_, e1, _⟩ | ⟨hn, h1⟩
    · cases e1
    · rw [List.getElem?_set_ne (Ne.symm hn)] at h2
      exact s.own a ⟨j, ds, h1, h2⟩, s.av, s.keep, s.liv, s.av0⟩
section
variable {X : Cx} {W : WX}
/-- what the exception's end needs -/
theorem keep_end {K : PySem.W.Frag} {mg : Str → Option Value} {pa : Addr} {F : Fr} {Av : List Addr} {σ : L2.St} {ρ : List Sl} {H : Hp} {p p1 : List D} {W : WX} {E : Ends} {known : List Str} {c : Str} {ks : List Str} {ds : List D} {i j : Nat} {cv : Value}
    (r : Rel K mg pa Av σ H ρ p) (s : SI pa F Av σ ρ H) (hk : ∀ c ∈ known, ∀ C, mg c = some (.ref C) → PySem.W.exmOne K (.ref C) cv = some true)
    (h : PS1 K mg pa W F E (if c ∈ known then .ok (.nx, (ρ.set j (.val (.ex c ks ds))).set i .none) p1 else .stuck)) : PX K mg pa Av (wKeep K cv i j W E) σ H c ks ds p1 := by
  obtain ⟨hc, h⟩ := Dn.D.ite_ok (Z := PS1 K mg pa W F E) id h
  intro C x fs H' hm e1 hx hx' hks hds pk
  refine ⟨true, hk c hc C hm, fun _ => ⟨C, x, rfl, rfl, fun a na => ?_⟩, fun z => by cases z⟩
  have r1 := r.step e1 pk
  have s1 := s.step e1 pk.live
  have e2 : Ext pa H' (upd H' a (ExO C x a)) := Ext.new na
  have pk2 := pk.new (o := ExO C x a) r1.base na
  have r2 := r1.step e2 pk2
  have s2 := s1.step e2 pk2.live
  have nxa : x ≠ a := ne_of_none hx' na
  have hd : DR K mg pa Av (upd H' a (ExO C x a)) (.ref a) (.ex c ks ds) := .ex hm upd_same (by rw [upd_ne nxa]; exact hx') (r1.base.fresh na) (r.base.fresh hx) hks rfl (drs_new na hds)
  exact h Av _ _ ((r2.setV hd).wipe1 i) ((s2.setV).wipe1 i)
theorem ds_trySet {known : List Str} {x n y z : Str} {c : Value} {i j m : Nat} {e : Expr} {np np2 yp ap zp spos pos pos' : Pos} {f : FE} (hs : X.stack = X.env :: X.outer) (hf : X.env.frame = some X.env.locals) (hN : X.N.Nodup) (hc : Names X x c) (tk : Takes X W)
    (hk : ∀ c' ∈ known, ∀ C, X.mg c' = some (.ref C) → PySem.W.exmOne X.K (.ref C) c = some true)
    (he : ∀ (W : WX) (pn : List (Addr × Obj)) (xe : Value → Shared → Prop), Takes (X.tr pn xe) W → DE (X.tr pn xe) W e f)
    (hi : X.N[i]? = some n := by rfl) (hj : X.N[j]? = some y := by rfl) (hm : X.N[m]? = some z := by rfl) (hij : i ≠ j := by decide) (hln : X.env.kindOf n = some .local := by rfl) (hly : X.env.kindOf y = some .local := by rfl) (hlz : X.env.kindOf z = some .local := by rfl)
    (hn1 : (n == ("__debug__" : Str)) = false := by decide) (hn2 : (n == ("__classdict__" : Str)) = false := by decide) (hsw : ∀ env, swapsWith (.Name n np2) (some (.Name y yp)) ap.line env = pure false := by intro _; rfl)
    (hsw2 : swapsWith e (some (.Name z zp)) spos.line X.env = pure false := by rfl) :
    DS X W (.Try [.Assign [.Name z zp] e spos] [.ExceptHandler (some (.Name x np)) (some n) [.Assign [.Name y yp] (.Name n np2) ap] pos'] [] [] pos) (sTry known i j f fun d ρ p => .ok (.nx, ρ.set m (.val d)) p) :=
  L2.PS.imp (ps_try_keep (tb := fun W => tAsg (TD X.K X.mg W f) (gName m)) hs hf hN hi hj hij hln hly hc tk hn1 hn2 hsw fun W pn xe tk _ => pss_one (ps_set (X := X.tr pn xe) hN hm (.inl hlz) (he W pn xe tk) hsw2 (.inr hlz))) fun E σ H h => by
    obtain ⟨pa, Av, ρ, p, F, r, s, h⟩ := h
    refine ⟨pa, Av, ρ, p, r, ?_⟩
    unfold sTry at h
    cases ef : f ρ p with
    | stuck => rw [ef] at h; exact h
    | exc c ks ds p1 => rw [ef] at h; exact keep_end r s hk h
    | ok d p1 =>
      rw [ef] at h
      exact fun v H1 e1 hd k1 => h Av _ H1 ((r.step e1 k1).setV hd) (s.step e1 k1.live).setV
theorem ds_tryExpr {known : List Str} {x n y : Str} {c : Value} {i j : Nat} {e : Expr} {np np2 yp ap spos pos pos' : Pos} {f : FE} (hs : X.stack = X.env :: X.outer) (hf : X.env.frame = some X.env.locals) (hN : X.N.Nodup) (hc : Names X x c) (tk : Takes X W)
    (hk : ∀ c' ∈ known, ∀ C, X.mg c' = some (.ref C) → PySem.W.exmOne X.K (.ref C) c = some true)
    (he : ∀ (W : WX) (pn : List (Addr × Obj)) (xe : Value → Shared → Prop), Takes (X.tr pn xe) W → DE (X.tr pn xe) W e f)
    (hi : X.N[i]? = some n := by rfl) (hj : X.N[j]? = some y := by rfl) (hij : i ≠ j := by decide) (hln : X.env.kindOf n = some .local := by rfl) (hly : X.env.kindOf y = some .local := by rfl)
    (hn1 : (n == ("__debug__" : Str)) = false := by decide) (hn2 : (n == ("__classdict__" : Str)) = false := by decide) (hsw : ∀ env, swapsWith (.Name n np2) (some (.Name y yp)) ap.line env = pure false := by intro _; rfl)
    (hsw2 : swapsWith e none spos.line X.env = pure false := by rfl) :
    DS X W (.Try [.Expr e spos] [.ExceptHandler (some (.Name x np)) (some n) [.Assign [.Name y yp] (.Name n np2) ap] pos'] [] [] pos) (sTry known i j f fun _ ρ p => .ok (.nx, ρ) p) :=
  L2.PS.imp (ps_try_keep (tb := fun W E σ H => TD X.K X.mg W f σ H fun _ H1 => E.nx σ H1) hs hf hN hi hj hij hln hly hc tk hn1 hn2 hsw fun W pn xe tk _ => pss_one (ps_expr (he W pn xe tk) hsw2)) fun E σ H h => by
    obtain ⟨pa, Av, ρ, p, F, r, s, h⟩ := h
    refine ⟨pa, Av, ρ, p, r, ?_⟩
    unfold sTry at h
    cases ef : f ρ p with
    | stuck => rw [ef] at h; exact h
    | exc c ks ds p1 => rw [ef] at h; exact keep_end r s hk h
    | ok d p1 =>
      rw [ef] at h
      exact fun v H1 e1 hd k1 => h Av _ H1 (r.step e1 k1) (s.step e1 k1.live)
theorem ds_tryRet {known : List Str} {x n y : Str} {c : Value} {i j : Nat} {e : Expr} {np np2 yp ap spos pos pos' : Pos} {f : FE} (hs : X.stack = X.env :: X.outer) (hf : X.env.frame = some X.env.locals) (hN : X.N.Nodup) (hc : Names X x c) (tk : Takes X W)
    (hk : ∀ c' ∈ known, ∀ C, X.mg c' = some (.ref C) → PySem.W.exmOne X.K (.ref C) c = some true)
    (he : ∀ (W : WX) (pn : List (Addr × Obj)) (xe : Value → Shared → Prop), Takes (X.tr pn xe) W → DE (X.tr pn xe) W e f)
    (hi : X.N[i]? = some n := by rfl) (hj : X.N[j]? = some y := by rfl) (hij : i ≠ j := by decide) (hln : X.env.kindOf n = some .local := by rfl) (hly : X.env.kindOf y = some .local := by rfl)
    (hn1 : (n == ("__debug__" : Str)) = false := by decide) (hn2 : (n == ("__classdict__" : Str)) = false := by decide) (hsw : ∀ env, swapsWith (.Name n np2) (some (.Name y yp)) ap.line env = pure false := by intro _; rfl) :
    DS X W (.Try [.Return (some e) spos] [.ExceptHandler (some (.Name x np)) (some n) [.Assign [.Name y yp] (.Name n np2) ap] pos'] [] [] pos) (sTry known i j f fun d ρ p => .ok (.rt d, ρ) p) :=
  L2.PS.imp (ps_try_keep (tb := fun W E σ H => TD X.K X.mg W f σ H E.rt) hs hf hN hi hj hij hln hly hc tk hn1 hn2 hsw fun W pn xe tk _ => pss_one (ps_ret (he W pn xe tk))) fun E σ H h => by
    obtain ⟨pa, Av, ρ, p, F, r, s, h⟩ := h
    refine ⟨pa, Av, ρ, p, r, ?_⟩
    unfold sTry at h
    cases ef : f ρ p with
    | stuck => rw [ef] at h; exact h
    | exc c ks ds p1 => rw [ef] at h; exact keep_end r s hk h
    | ok d p1 =>
      rw [ef] at h
      exact fun v H1 e1 hd k1 => h Av _ _ v H1 (r.step e1 k1) (s.step e1 k1.live) hd
end
end Dn
end

section
set_option Elab.async false
set_option linter.all false
set_option maxRecDepth 100000
set_option maxHeartbeats 4000000
namespace Dn
open PySem PySem.Spec PyProof.Rows L2 LamX
/-! ### a lambda, with at most one parameter that has a number as its default -/
section
variable {X : Cx} {pins : List (Addr × Obj)} {σ : L2.St} {H : Hp} {s : Shared}
abbrev lamO (X : Cx) (params : Arguments) (body : Expr) (scope : Scope) (dV doc pm : Value) (c' : Addr) (ctv : Value) : Obj :=
  PySem.W.kdv_obj "<lambda>" (X.env.qual ++ "<lambda>") params (.expr body) scope (cloFrom X.env.cells scope.names []) dV doc pm c' ctv
theorem lam_tail {T : List (Addr × Str)} {c P : Addr} {params : Arguments} {body : Expr} {scope : Scope} {dV : Value} {pos : Pos} {E : Value → Shared → Prop} {Q : Value → Shared → Prop} (I : Inv X pins σ H s) (TB : TabB X.base X.mg c P) (hcode : X.env.code = .ref c)
    (hm : (P, X.env.qual ++ "<lambda>") ∈ T) (hu : ∀ p ∈ T, p.1 = P → p.2 = X.env.qual ++ "<lambda>") (hT : Tabs T H) (hfree : ∀ y ∈ scope.names, y.2 = .free → ∃ c, X.env.cells.lookup y.1 = some c)
    (h : ∀ (f c' : Addr) (doc pm ctv : Value) (H1 : Hp) (s' : Shared), Inv X pins σ H1 s' → ExtN H H1 → (∀ b, H b ≠ none → H1 b ≠ none) → Tabs T H1 → (∀ b o, H b = none → s.heap.get? b = some o → s'.heap.get? b = some o ∧ H1 b = none) →
      s'.heap.get? f = some (lamO X params body scope dV doc pm c' ctv) → H1 f = none → f ∉ frs X.stack → H1 c' = some (CodeO c' (X.env.qual ++ "<lambda>")) → Q (.ref f) s') :
    wpAny (model X.prog X.w) X.A (makeTail "<lambda>" (X.env.qual ++ "<lambda>") params (.expr body) scope X.env dV .none none pos pos.line) Q E s := by
  obtain ⟨ps, hP, ht, ha⟩ := hT _ hm
  have bP : s.heap.BuiltinsAt X.mg P := TB.bm.keeps I.bk
  have hP' : s.heap.get? P = some { cls := .none, data := .fields ps } := I.hok P _ hP
  have nofr : ∀ f, s.heap.objs.size ≤ f → f ∉ frs X.stack := fun f hf z => by
    rcases List.mem_cons.mp (I.stkSub _ z) with e | e
    · have h1 := I.lt
      rw [← e] at h1
      exact Nat.lt_irrefl _ (Nat.lt_of_lt_of_le h1 hf)
    · exact I.nofs hf e
  have nP : ∀ {b : Addr}, H b = none → b ≠ P := fun {b} e z => by
    rw [z, hP] at e
    cases e
  cases hc : codeAmong pos ps.toList with
  | none =>
    refine PySem.W.kdv_makeTail (mg := X.mg) (c := c) (P := P) (ps := ps) (closure_ok hfree) I.ok.glob (I.mod.glob.keeps I.bk) hcode (TB.code.keeps I.bk) hP' ht hc TB.gP bP fun c' ctv doc h' tk hx hge hlt hrec htb => ?_
    obtain ⟨c2, oc, vs, t, e2, hoc, hd, hv⟩ := hrec
    cases e2
    have hsz : s.heap.objs.size ≤ h'.objs.size := Nat.le_trans hge (Nat.le_of_lt hlt)
    have nC : H c' = none := I.hok.fresh hge
    have I1 := inv_table (t' := tk) (more := #[rawInt pos.line, rawInt pos.col, .ref c']) (h' := h'.push (lamO X params body scope dV doc ((X.mg "__name__").getD .none) c' ctv)) I hP
      (fun b o hb e => Heap.get?_push_of_some _ (hx b o hb e)) (Heap.get?_push_of_some _ htb) hge ⟨oc, vs, t, Heap.get?_push_of_some _ hoc, hd, hv⟩
    have hE : ExtN H (upd (upd H P (.tbl (ps ++ #[rawInt pos.line, rawInt pos.col, .ref c']))) c' (CodeO c' (X.env.qual ++ "<lambda>"))) := fun b o e n => by
      rw [upd_ne (ne_of_none e nC), upd_ne (fun z => n ps (Option.some.inj (e.symm.trans (by rw [z]; exact hP))))]
      exact e
    have eL : (ps ++ #[rawInt pos.line, rawInt pos.col, .ref c']).toList = ps.toList ++ [rawInt pos.line, rawInt pos.col, .ref c'] := by simp
    have n1 : h'.objs.size ≠ c' := Nat.ne_of_gt hlt
    have n2 : h'.objs.size ≠ P := Nat.ne_of_gt (Nat.lt_of_lt_of_le (Heap.lt_size hP') hsz)
    refine h h'.objs.size c' doc ((X.mg "__name__").getD .none) ctv _ _ I1 hE (fun b hb => ?_) (fun p hp => ?_) (fun b o hb e => ⟨Heap.get?_push_of_some _ (hx b o (nP hb) e), ?_⟩) (Heap.get?_push_size _ rfl) ?_ (nofr _ hsz) upd_same
    · by_cases e1 : b = c'
      · rw [e1, upd_same]; simp
      · rw [upd_ne e1]
        by_cases e2 : b = P
        · rw [e2, upd_same]; simp
        · rw [upd_ne e2]; exact hb
    · by_cases hb : p.1 = P
      · rw [hu p hp hb, hb]
        refine ⟨_, by rw [upd_ne (ne_of_none hP nC), upd_same], by rw [eL]; exact PySem.TriplesOk_snoc _ _ _ _ ht, fun p' cv hcv => ?_⟩
        rw [eL] at hcv
        rcases among_app _ ht hcv with z | z
        · obtain ⟨c0, e1, e2⟩ := ha p' cv z
          exact ⟨c0, e1, hE _ _ e2 codeO_ne⟩
        · exact ⟨c', z, upd_same⟩
      · obtain ⟨ps', a1, a2, a3⟩ := hT p hp
        refine ⟨ps', by rw [upd_ne (ne_of_none a1 nC), upd_ne hb]; exact a1, a2, fun p' cv hcv => ?_⟩
        obtain ⟨c0, e1, e2⟩ := a3 p' cv hcv
        exact ⟨c0, e1, hE _ _ e2 codeO_ne⟩
    · rw [upd_ne (Nat.ne_of_lt (Nat.lt_of_lt_of_le (Heap.lt_size e) hge)), upd_ne (nP hb)]
      exact hb
    · rw [upd_ne n1, upd_ne n2]
      exact I.hok.fresh hsz
  | some cv =>
    obtain ⟨c', e, hco⟩ := ha pos cv hc
    subst e
    refine PySem.W.kdv_makeTailHit (mg := X.mg) (c := c) (P := P) (ps := ps) (closure_ok hfree) I.ok.glob (I.mod.glob.keeps I.bk) hcode (TB.code.keeps I.bk) hP' ht hc bP fun ctv doc h' tk hx hsz => ?_
    have I1 : Inv X pins σ H { s with heap := h'.push (lamO X params body scope dV doc ((X.mg "__name__").getD .none) c' ctv), toks := tk } := I.kept fun b o e => Heap.get?_push_of_some _ (hx b o e)
    exact h h'.objs.size c' doc ((X.mg "__name__").getD .none) ctv H _ I1 (ExtN.refl H) (fun _ z => z) hT (fun b o hb e => ⟨Heap.get?_push_of_some _ (hx b o e), hb⟩) (Heap.get?_push_size _ rfl) (I.hok.fresh hsz) (nofr _ hsz) hco
/-- what the default is: nothing, or a tuple of one value at an address that nobody tracks -/
def DefO (nm : Option Str) (fr : List Addr) (H : Hp) (h : Heap) (dV : Value) : Prop := match nm with
  | none => dV = .none
  | some _ => ∃ T0 v, dV = .ref T0 ∧ h.get? T0 = some (PySem.W.kdv_tup [v]) ∧ H T0 = none ∧ T0 ∉ fr
/-- how the parameters are written -/
inductive LamP : Option Str → Arguments → Prop
  | none {params : Arguments} : (∀ env, defaultsOf params env = ([], [])) → LamP none params
  | one {x : Str} {params : Arguments} {n : Int} {j : Nat} {p : Pos} : params.defaults = [.Constant (.int n) j p] → params.kw_defaults = [] → LamP (some x) params
theorem lam_makeD {nm : Option Str} {T : List (Addr × Str)} {c P : Addr} {params : Arguments} {body : Expr} {scope : Scope} {pos : Pos} {E : Value → Shared → Prop} {Q : Value → Shared → Prop} (hp : LamP nm params) (I : Inv X pins σ H s) (TB : TabB X.base X.mg c P) (hcode : X.env.code = .ref c)
    (hm : (P, X.env.qual ++ "<lambda>") ∈ T) (hu : ∀ p ∈ T, p.1 = P → p.2 = X.env.qual ++ "<lambda>") (hT : Tabs T H) (hfree : ∀ y ∈ scope.names, y.2 = .free → ∃ c, X.env.cells.lookup y.1 = some c)
    (h : ∀ (f c' : Addr) (dV doc pm ctv : Value) (H1 : Hp) (s' : Shared), Inv X pins σ H1 s' → ExtN H H1 → (∀ b, H b ≠ none → H1 b ≠ none) → Tabs T H1 → DefO nm (frs X.stack) H1 s'.heap dV →
      s'.heap.get? f = some (lamO X params body scope dV doc pm c' ctv) → H1 f = none → f ∉ frs X.stack → H1 c' = some (CodeO c' (X.env.qual ++ "<lambda>")) → Q (.ref f) s') :
    wpAny (model X.prog X.w) X.A (eval (.Lambda params body scope pos) X.env) Q E s := by
  cases hp with
  | none hd =>
    refine PySem.W.kla_eval (hd _) ?_
    rw [makeFunction_eq]
    simp only [List.zip_nil_right, List.filterMap_nil, List.isEmpty_nil, if_true, pure_bind]
    exact lam_tail I TB hcode hm hu hT hfree fun f c' doc pm ctv H1 s' J e l t k ho hf hfr hc => h f c' .none doc pm ctv H1 s' J e l t rfl ho hf hfr hc
  | @one x params n j p hd hk =>
    refine PySem.W.kdv_lam (by rw [hd]; rfl) hk ?_
    rw [hd]
    refine PySem.W.kdv_all1 (wpAny_Constant_int (PySem.W.kdv_all0 ?_))
    rw [makeFunction_eq]
    simp only [List.zip_nil_right, List.filterMap_nil, List.isEmpty_nil, List.isEmpty_cons, if_true, pure_bind, Bool.false_eq_true, if_false]
    refine wpAny_bind (wpAny_newTextTuple ?_)
    have I2 : Inv X pins σ H { s with heap := s.heap.push (PySem.W.kdv_tup [.int n s.toks]), toks := s.toks + 1 } := I.kept (t' := s.toks + 1) (h' := s.heap.push (PySem.W.kdv_tup [.int n s.toks])) fun b o e => Heap.get?_push_of_some _ e
    have hn : H s.heap.objs.size = Option.none := I.hok.fresh (Nat.le_refl _)
    have nofr : s.heap.objs.size ∉ frs X.stack := fun z => by
      rcases List.mem_cons.mp (I.stkSub _ z) with e | e
      · have h1 := I.lt
        rw [← e] at h1
        exact Nat.lt_irrefl _ h1
      · exact I.nofs (Nat.le_refl _) e
    exact lam_tail I2 TB hcode hm hu hT hfree fun f c' doc pm ctv H1 s' J e l t k ho hf hfr hc => h f c' _ doc pm ctv H1 s' J e l t ⟨s.heap.objs.size, _, rfl, (k _ _ hn (Heap.get?_push_size _ rfl)).1, (k _ _ hn (Heap.get?_push_size _ rfl)).2, nofr⟩ ho hf hfr hc
/-! ### the lambda's names -/
structure LamQ (nm : Option Str) (N : List Str) (sc scope : Scope) : Prop where
  kind : scope.kind = .function
  co : scope.isCoroutine = false
  gen : scope.isGenerator = false
  cell : ∀ y ∈ scope.names, y.2 ≠ .cell
  loc : ∀ y ∈ scope.names, y.2 = .local → nm = some y.1
  out : ∀ x, nm = some x → scope.names.lookup x = some .local ∧ x ∉ N
  free : ∀ y ∈ scope.names, y.2 = .free → sc.names.lookup y.1 = some .cell ∨ sc.names.lookup y.1 = some .free
def lamQB (nm : Option Str) (N : List Str) (sc scope : Scope) : Bool :=
  decide (scope.kind = .function) && !scope.isCoroutine && !scope.isGenerator && (scope.names.all fun y => !decide (y.2 = .cell) && (!decide (y.2 = .local) || decide (nm = some y.1)) && (!decide (y.2 = .free) || decide (sc.names.lookup y.1 = some .cell) || decide (sc.names.lookup y.1 = some .free))) &&
    (match nm with | some x => decide (scope.names.lookup x = some .local) && !decide (x ∈ N) | none => true)
theorem lamQ_by {nm : Option Str} {N : List Str} {sc scope : Scope} (h : lamQB nm N sc scope = true) : LamQ nm N sc scope := by
  unfold lamQB at h
  simp only [Bool.and_eq_true, Bool.or_eq_true, Bool.not_eq_true', decide_eq_true_eq, decide_eq_false_iff_not, List.all_eq_true] at h
  obtain ⟨⟨⟨⟨h1, h2⟩, h3⟩, h4⟩, h5⟩ := h
  refine ⟨h1, h2, h3, fun y hy => (h4 y hy).1.1, fun y hy e => ?_, fun x e => ?_, fun y hy e => ?_⟩
  · rcases (h4 y hy).1.2 with z | z
    · exact absurd e z
    · exact z
  · subst e
    simpa using h5
  · rcases (h4 y hy).2 with (z | z) | z
    · exact absurd e z
    · exact .inl z
    · exact .inr z
theorem LamQ.has {nm : Option Str} {scope : Scope} (L : LamQ nm X.N X.env.scope scope) (ok : X.Ok) : ∀ y ∈ scope.names, y.2 = .free → ∃ c, X.env.cells.lookup y.1 = some c := fun y hy e => by
  rcases L.free y hy e with k | k
  · exact ok.has _ (.inl k)
  · exact ok.has _ (.inr k)
theorem lam_startD {HZ : Hp} {s1 : Shared} {nm : Option Str} {A : Around} {outer : List Env} {E : XK} {scope : Scope} {f c' : Addr} {h₁ : Heap} {tk : Nat} {m1 : Str → Option Value} (I : Inv X pins σ H s) (L : LamQ nm X.N X.env.scope scope) (e0 : Env0 X.prog X.w X.K X.mg X.base A outer s1 HZ) (hd : A.handled = none)
    (un : Un (frs X.stack) [] H HZ s.heap s1.heap) (hns : h₁.Ns s1.heap.objs.size m1) (kp : ∀ b o, s1.heap.get? b = some o → h₁.get? b = some o) :
    Inv (lamCx X A outer s1 HZ E scope f c') [] σ HZ { s1 with heap := h₁, toks := tk } := by
  have hfree := L.has I.ok
  have cm : ∀ {y c}, (cloFrom X.env.cells scope.names []).lookup y = some c → X.env.cells.lookup y = some c := fun {y c} e => by
    rcases cloFrom_mem (PySem.mem_of_lookup e) with hm | ⟨h1, h2⟩
    · cases hm
    · obtain ⟨c1, hc⟩ := hfree _ h1 rfl
      have hc : X.env.cells.lookup y = some c1 := hc
      have e2 : c = c1 := by
        rw [h2, hc] <;> rfl
      rw [e2]
      exact hc
  have look : ∀ {y}, scope.names.lookup y = some .free → ∃ c, (cloFrom X.env.cells scope.names []).lookup y = some c := fun {y} hl => by
    have hy : (y, NameKind.free) ∈ scope.names := PySem.mem_of_lookup hl
    exact mem_lookup (cloFrom_has (cells := X.env.cells) (acc := []) hy)
  have cellK : ∀ {c : Addr} {v : Option Value}, H c = none → s.heap.IsCell c v → h₁.IsCell c v := fun {c v} n ⟨o, ho, hd⟩ => by
    obtain ⟨sl, q⟩ := un.any ho n (by simp)
    exact ⟨_, kp _ _ q, hd⟩
  have noA : ∀ b : Addr, b ∉ (lamCx X A outer s1 HZ E scope f c').ex := fun b z => absurd (show b ∈ ([] : List Addr) from z) (by simp)
  refine ⟨⟨e0.mod, L.kind, rfl, rfl, Nat.le_refl _, fun y z c e1 e2 => I.ok.inj y z c (cm e1) (cm e2), fun y hy => ?_, fun y c z _ => ?_, fun _ => hd, Around.frames_deeper e0.frames, .inr ⟨rfl, rfl⟩, fun b z => absurd z (noA b), e0.bs, e0.bsz, fun b _ _ => noA b,
      fun b z => absurd z (noA b), e0.funs, e0.frf⟩,
    rfl, e0.bare, Un.kept kp, ⟨_, hns, fun i y v e1 e2 e3 => ?_⟩, fun y c e => ?_, e0.hok.fresh (Nat.le_refl _), fun y c e => ?_, fun q hq => absurd (show q ∈ ([] : List (Addr × Obj)) ++ [] from hq) (by simp), e0.hok.kept kp, I.len⟩
  · have hy : scope.names.lookup y = some .cell ∨ scope.names.lookup y = some .free := hy
    rcases hy with hy | hy
    · exact absurd rfl (L.cell _ (PySem.mem_of_lookup hy))
    · exact look hy
  · have z : false = true := z
    cases z
  · have e3 : Vis scope y := e3
    rcases e3 with k | k | k
    · have e := L.loc _ (PySem.mem_of_lookup k) rfl
      exact absurd (List.mem_of_getElem? e1) (L.out y e).2
    · exact absurd rfl (L.cell _ (PySem.mem_of_lookup k))
    · obtain ⟨m, hn, hl⟩ := I.loc
      have hvis : Vis X.env.scope y := (L.free _ (PySem.mem_of_lookup k) rfl).elim (fun k => .inr (.inl k)) (fun k => .inr (.inr k))
      obtain ⟨w', r, q⟩ := hl i y v e1 e2 hvis
      obtain ⟨c2, h2⟩ := look k
      refine ⟨w', r, .inr ⟨.inr k, c2, h2, ?_⟩⟩
      have c1 := cm h2
      rcases q with ⟨k', _⟩ | ⟨_, c3, e', z⟩
      · have k' : X.env.scope.names.lookup y = some .local := k'
        rcases L.free _ (PySem.mem_of_lookup k) rfl with k2 | k2 <;> rw [show X.env.scope.names.lookup y = _ from k2] at k' <;> cases k'
      · rw [c1] at e'
        cases e'
        exact cellK (I.freeC y _ c1) z
  · obtain ⟨w', z⟩ := I.cell y c (cm e)
    exact ⟨w', cellK (I.freeC y c (cm e)) z⟩
  · obtain ⟨v, o, ho, hd⟩ := I.cell y c (cm e)
    exact un.free c o ho (I.freeC y c (cm e)) (by simp)
/-- how the parameters are bound at a call without arguments -/
def LamB (nm : Option Str) (params : Arguments) (body : Expr) (scope : Scope) : Prop := ∀ (s : Shared) (q : Str) (cl : List (Str × Addr)) (dV doc pm cv ctv : Value) (fr : List Addr) (H : Hp), DefO nm fr H s.heap dV →
  ∃ binds : List (Str × Value), BindsTo s (PySem.W.kdv_fn "<lambda>" q params (.expr body) scope cl dV doc pm cv ctv) ⟨[], []⟩ binds ∧ ∀ y ∈ binds, nm = some y.1
theorem lamB_none {params : Arguments} {body : Expr} {scope : Scope} (h : ∀ (q : Str) (cl : List (Str × Addr)) (doc pm cv ctv : Value), bindArgs (PySem.W.kdv_fn "<lambda>" q params (.expr body) scope cl .none doc pm cv ctv) ⟨[], []⟩ = pure []) : LamB none params body scope := fun s q cl dV doc pm cv ctv fr H hd => by
  have hd : dV = .none := hd
  subst hd
  exact ⟨[], .of_eq (h q cl doc pm cv ctv), fun y hy => absurd hy (by simp)⟩
theorem lamB_one {x : Str} {params : Arguments} {body : Expr} {scope : Scope} (k : (q : Str) → (cl : List (Str × Addr)) → (dV doc pm cv ctv : Value) → Option (Array Value) → Sem (List (Str × Value)))
    (h1 : ∀ (q : Str) (cl : List (Str × Addr)) (dV doc pm cv ctv : Value) (T0 : Addr), dV = .ref T0 → bindArgs (PySem.W.kdv_fn "<lambda>" q params (.expr body) scope cl dV doc pm cv ctv) ⟨[], []⟩ = seqItems? dV >>= k q cl dV doc pm cv ctv)
    (h2 : ∀ (q : Str) (cl : List (Str × Addr)) (dV doc pm cv ctv v : Value), k q cl dV doc pm cv ctv (some #[v]) = pure [(x, v)]) : LamB (some x) params body scope := fun s q cl dV doc pm cv ctv fr H hd => by
  obtain ⟨T0, v, e, hT, _⟩ := (show ∃ T0 v, dV = .ref T0 ∧ s.heap.get? T0 = some (PySem.W.kdv_tup [v]) ∧ H T0 = none ∧ T0 ∉ fr from hd)
  refine ⟨[(x, v)], BindsTo.of_defaults (T := T0) e hT rfl (h1 q cl dV doc pm cv ctv T0 e) (h2 q cl dV doc pm cv ctv v), fun y hy => ?_⟩
  rw [List.mem_singleton.mp hy]
/-- x(), in the def that got the lambda -/
theorem pe_actD {nm : Option Str} {CXg : CXT} {Eg : XK} {Ng : List Str} {qg : Str} {sg : Scope} {g f c' : Addr} {cdg dV doc pm ctv : Value} {params : Arguments} {body : Expr} {scope : Scope} {k i : Nat} {a : Str} {pn : List (Addr × Obj)} {xe : Value → Shared → Prop} {W : WX} {tb : XK → TE} {p1 p2 : Pos}
    (I : Inv X pins σ H s) (L : LamQ nm X.N X.env.scope scope) (hB : LamB nm params body scope) (hdf : DefO nm (frs X.stack) H s.heap dV) (hf : s.heap.get? f = some (lamO X params body scope dV doc pm c' ctv)) (hfn : H f = none) (hfr : f ∉ frs X.stack)
    (tk : Takes ((cxOf CXg X.prog X.w X.K X.mg X.base Ng qg sg g cdg X.A X.stack s H Eg).tr pn xe) W) (hr : RoomG (k + 1) (X.A.deeper (envOfC qg sg s.heap.objs.size g cdg)))
    (hbody : ∀ (A : Around) (outer : List Env) (s : Shared) (H : Hp) (E : XK), RoomG k (A.deeper (lamEnv X scope s.heap.objs.size f c')) → PE (lamCx X A outer s H E scope f c') body (tb E))
    (hN : Ng[i]? = some a) (hv : Vis sg a) (hd : (a == ("__debug__" : Str)) = false := by decide) (hcd : (a == ("__classdict__" : Str)) = false := by decide) :
    PE ((cxOf CXg X.prog X.w X.K X.mg X.base Ng qg sg g cdg X.A X.stack s H Eg).tr pn xe) (.Call (.Name a p1) [] [] p2)
      (fun σZ HZ Q => σZ[i]? = some (some (.ref f)) ∧ HZ c' = some (CodeO c' (X.env.qual ++ "<lambda>")) ∧ tb (fun cls d H' => W cls d σZ H') σ HZ Q) := by
  refine ⟨fun pinsZ sZ σZ HZ Q IZ h => ?_⟩
  obtain ⟨hs, hc, ht⟩ := h
  refine wpAny_Call_Name_kw (thn ((pe_var (pos := p1) (i := i) hN hv hd hcd).run pinsZ sZ σZ HZ (fun v H1 => v = .ref f ∧ H1 = HZ) IZ ⟨.ref f, hs, rfl, rfl⟩) fun u s1 ⟨v, H1, I1, r1, q1⟩ => ?_)
  obtain ⟨ev, eH⟩ := q1
  subst ev
  rw [eH] at I1
  obtain rfl : u = Value.ref f := r1
  have un : Un (frs X.stack) [] H HZ s.heap s1.heap := I1.base
  have of1 : s1.heap.get? f = some (lamO X params body scope dV doc pm c' ctv) := un.keep f _ hf hfn hfr (fun z => nomatch (show f ∈ ([] : List Addr) from z))
  have hdf1 : DefO nm (frs X.stack) H s1.heap dV := by
    cases nm with
    | none => exact hdf
    | some x =>
      obtain ⟨T0, v, e, hT, hn, hfr0⟩ := hdf
      exact ⟨T0, v, e, un.keep T0 _ hT hn hfr0 (fun z => nomatch (show T0 ∈ ([] : List Addr) from z)), hn, hfr0⟩
  refine PySem.W.callWith_F0 ⟨_, _, _, _, of1⟩ ?_
  obtain ⟨⟨oc, vs, t, hoc, hdc, hvc⟩, _, _⟩ := I1.hok c' _ hc
  obtain ⟨binds, hbt, hbn⟩ := hB s1 (X.env.qual ++ "<lambda>") (cloFrom X.env.cells scope.names []) dV doc pm (.ref c') ctv (frs X.stack) H hdf1
  have rc : codeAny (model X.prog X.w) (X.A.deeper (envOfC qg sg s.heap.objs.size g cdg)) (.call (.ref f) ⟨[], []⟩) (CR (L2.CX X.prog X.w) (envOfC qg sg s.heap.objs.size g cdg :: X.stack) X.prog X.w HZ s1 Q (fun cls d H' => W cls d σZ H')) s1 := by
    refine PySem.W.kla_callFunE hr.r.depth of1 rfl L.co L.gen rfl ⟨c', oc, vs, t, rfl, hoc, hdc, hvc⟩ (hbt _ _ _ _ ?_)
    refine wpAny_newFunctionEnv (fun y hy => L.cell y hy) (fun y hy => (L.out _ (hbn y hy)).1) (fun h₁ hns hsb => ⟨I1.nolimit.fresh _ hsb, ?_⟩) L.kind
    show codeAny _ _ (.expr body (lamEnv X scope s1.heap.objs.size f c')) _ _
    have kp : ∀ b o, s1.heap.get? b = some o → h₁.get? b = some o := fun b o e => hsb.extBut b o (Nat.ne_of_lt (Heap.lt_size e)) (Heap.get?_push_of_some _ e)
    have J : Inv (lamCx X (X.A.deeper (envOfC qg sg s.heap.objs.size g cdg)) (envOfC qg sg s.heap.objs.size g cdg :: X.stack) s1 HZ (fun cls d H' => W cls d σZ H') scope f c') [] σ HZ { s1 with heap := h₁, toks := s1.toks + binds.length } :=
      lam_startD I L I1.env0 hr.r.hd un hns kp
    refine PySem.W.kla_codeExpr (wpAny_mono ((hbody _ _ s1 HZ _ (hr.deeper _)).run [] _ _ HZ Q J ht) (fun v s' hq => ?_) fun e s' hq => hq)
    obtain ⟨w', H', J', rv, q⟩ := hq
    exact ⟨w', H', J'.os, J'.bare, J'.base, J'.hok, rv, q⟩
  have hx : PassesAt (L2.CX X.prog X.w) ((cxOf CXg X.prog X.w X.K X.mg X.base Ng qg sg g cdg X.A X.stack s H Eg).tr pn xe) σZ (WE W σZ) := passAt tk σZ
  refine wpAny_call (codeAny_mono rc fun r s' hq => ?_)
  cases r with
  | error e => exact hx pinsZ HZ s1 e s' I1 hq
  | ok fl =>
    cases fl with
    | ret u => exact I1.after hq
    | next => exact False.elim hq
    | brk => exact False.elim hq
    | cont => exact False.elim hq
end
end Dn
end

section
set_option Elab.async false
set_option linter.all false
set_option maxRecDepth 100000
set_option maxHeartbeats 4000000
namespace Dn
open PySem PySem.Spec PyProof.Rows L2 LamX
/-! ### a def that asks what it is handed -/
abbrev hCx (P : Program) (w : World) (K : PySem.W.Frag) (mg : Str → Option Value) (base : Heap) (Ng : List Str) (h : Str) (sg : Scope) (g : Addr) (cdg : Value) (A : Around) (outer : List Env) (s : Shared) (H : Hp) : Cx := cxOf C8.CX0 P w K mg base Ng h sg g cdg A outer s H C8.E0
/-- what asking does -/
def tAsk (K : PySem.W.Frag) (mg : Str → Option Value) (pa : Addr) (Av : List Addr) (H : Hp) (f : Addr) (fb : List D → R D) (W : WX) : TE := fun σZ HZ Q =>
  σZ[0]? = some (some (.ref f)) ∧ ∃ p', Ext pa H HZ ∧ Base pa Av HZ ∧ PenOk K mg pa Av HZ p' ∧ PE1 K mg pa Av W σZ HZ Q (fb p')
def HeardOk (P : Program) (w : World) (K : PySem.W.Frag) (mg : Str → Option Value) (base : Heap) (Ng : List Str) (h : Str) (sg : Scope) (g : Addr) (bg : List Stmt) (a : Str) (k : Nat) (Hd : (List D → R D) → List D → R D) : Prop :=
  ∀ (cdg : Value) (A : Around) (outer : List Env) (s : Shared) (H : Hp) (Q : VK) (f : Addr) (pa : Addr) (Av : List Addr) (p : List D) (fb : List D → R D), RoomG k (A.deeper (envOfC h sg s.heap.objs.size g cdg)) →
    (∀ (W : WX) (pn : List (Addr × Obj)) (xe : Value → Shared → Prop) (p1 p2 : Pos), Takes ((hCx P w K mg base Ng h sg g cdg A outer s H).tr pn xe) W →
      PE ((hCx P w K mg base Ng h sg g cdg A outer s H).tr pn xe) (.Call (.Name a p1) [] [] p2) (tAsk K mg pa Av H f fb W)) →
    Base pa Av H → PenOk K mg pa Av H p → PE1 K mg pa Av W0 [] H Q (Hd fb p) →
    ∃ t, PSs (hCx P w K mg base Ng h sg g cdg A outer s H).nox bg t ∧ t { nx := fun _ H' => Q .non H', rt := Q } (L2.start Ng [.ref f]) H
/-- own lists are no one else's -/
def hideO (ρ : List Sl) : List Sl := ρ.map fun s => match s with
  | .own _ => .none
  | s => s
theorem hideO_val {ρ : List Sl} {i : Nat} {d : D} (h : (hideO ρ)[i]? = some (.val d)) : ρ[i]? = some (.val d) := by
  unfold hideO at h
  rw [List.getElem?_map] at h
  cases e : ρ[i]? with
  | none => rw [e] at h; cases h
  | some x =>
    rw [e] at h
    cases x with
    | none => cases h
    | val d' => exact h
    | own ds => cases h
theorem hideO_own {ρ : List Sl} {i : Nat} {ds : List D} (h : (hideO ρ)[i]? = some (.own ds)) : False := by
  unfold hideO at h
  rw [List.getElem?_map] at h
  cases e : ρ[i]? with
  | none => rw [e] at h; cases h
  | some x =>
    rw [e] at h
    cases x with
    | none => cases h
    | val d' => cases h
    | own ds => cases h
def fHeard (Hd : (List D → R D) → List D → R D) (fb : FE) : FE := fun ρ p => noX (Hd (fun p => fb (hideO ρ) p) p)
section
variable {X : Cx} {W : WX}
theorem de_heard {h a : Str} {st : Stmt} {g c P : Addr} {fdg : FuncData} {Ng : List Str} {nm : Option Str} {k : Nat} {Hd : (List D → R D) → List D → R D} {params : Arguments} {body : Expr} {scope : Scope} {fb : FE} {p lpos pos : Pos}
    (F : L2.Fun X.K h h st g fdg) (Sg : FnScope Ng [a] (defScope st)) (hm : X.mg h = some (.ref g)) (hb : L2.Binds X.K fdg [a] []) (hO : HeardOk X.prog X.w X.K X.mg X.base Ng h (defScope st) g (defBody st) a (k + 1) Hd)
    (hr : RoomG (k + 2) X.A) (hp : LamP nm params) (L : LamQ nm X.N X.env.scope scope) (hB : LamB nm params body scope)
    (TB : TabB X.base X.mg c P) (hcode : X.env.code = .ref c) (hmT : (P, X.env.qual ++ "<lambda>") ∈ tabsOf X.K X.mg) (hu : ∀ p ∈ tabsOf X.K X.mg, p.1 = P → p.2 = X.env.qual ++ "<lambda>")
    (hbody : ∀ (A : Around) (outer : List Env) (s : Shared) (H : Hp) (E : XK) (f c' : Addr), RoomG k (A.deeper (lamEnv X scope s.heap.objs.size f c')) → Takes (lamCx X A outer s H E scope f c') (fun cls d _ H' => E cls d H') → DE (lamCx X A outer s H E scope f c') (fun cls d _ H' => E cls d H') body fb)
    (hg : Gl X h := by rfl) (hNg : Ng[0]? = some a := by rfl) (hva : Vis (defScope st) a := by first | exact Or.inl rfl | exact Or.inr (Or.inl rfl) | exact Or.inr (Or.inr rfl))
    (hdb : (h == ("__debug__" : Str)) = false := by decide) (hd : (a == ("__debug__" : Str)) = false := by decide) (hcd : (a == ("__classdict__" : Str)) = false := by decide) :
    DE X W (.Call (.Name h p) [.Lambda params body scope lpos] [] pos) (fHeard Hd fb) := by
  obtain ⟨oc, od, kV, doc, pm, an, cdv, ct, osl, rfl, lk, hcg⟩ := F.ex
  refine ⟨fun pins s σ H Q I h => ?_⟩
  obtain ⟨pa, Av, ρ, pn0, r, h⟩ := h
  refine wpAny_Call_Name_kw (ld_glob I hg hm ?_ hdb)
  refine PySem.W.callWith_K (h₀ := X.base) I.ok.mod.kin F.kp ?_ (by rfl) (by rfl)
  show wpAny _ _ (spliced ((false, eval (.Lambda params body scope lpos) X.env) :: backTo pos (starEach [] X.env))) _ _ s
  refine Calls.spliced_cons (lam_makeD hp I TB hcode hmT hu r.pen.tabs (L.has I.ok) fun f c' dV doc' pm' ctv H1 s' I1 eN lv T1 hdf hf hfn hfr hco => ?_)
  refine Calls.spliced_nil ⟨I1.kIn, ?_⟩
  have eX : Ext pa H H1 := ⟨fun a o _ e t => eN a o e (fun ps z => by rw [z] at t; cases t), fun a _ z => lv a z⟩
  obtain ⟨vs, g1, g2⟩ := r.pen.at'
  have pk1 : PenOk X.K X.mg pa Av H1 pn0 := ⟨⟨vs, eN _ _ g1 (fun _ z => by cases z), (r.base.mv eX).drs g2⟩, T1⟩
  have r1 := r.step eX pk1
  have npc : c' ≠ pa := fun z => by
    obtain ⟨ws, k1, _⟩ := pk1.at'
    rw [z, k1] at hco
    have hco := Option.some.inj hco
    unfold CodeO at hco
    cases hco
  have rc : codeAny (model X.prog X.w) X.A (.call (.ref g) ⟨[.ref f], []⟩) (CR C8.CX0 X.stack X.prog X.w H1 s' Q C8.E0) s' := by
    refine run_ofS (N := Ng) (ps := [a]) (us := [.ref f]) (vs := [.ref f]) lk hcg Sg hr.r I1.env0 (hb s' [.ref f] I1.kIn rfl) (.cons rfl .nil) rfl fun hr' => ?_
    have hrG : RoomG (k + 1) (X.A.deeper (envOfC _ (defScope st) s'.heap.objs.size g cdv)) := ⟨hr', hr.g⟩
    have hq : PE1 X.K X.mg pa Av W0 [] H1 Q (Hd (fun p => fb (hideO ρ) p) pn0) := by
      have h := PE1.later eX pk1.live h
      unfold fHeard at h
      cases e : Hd (fun p => fb (hideO ρ) p) pn0 with
      | ok d p1 => rw [e] at h; exact h
      | exc c ks ds p1 => rw [e] at h; exact h.elim
      | stuck => rw [e] at h; exact h.elim
    obtain ⟨t', ht', hq'⟩ := hO cdv X.A X.stack s' H1 Q f pa Av pn0 (fun p => fb (hideO ρ) p) hrG (fun W pn xe p1 p2 tk => by
      refine (pe_actD (i := 0) (tb := fun E => TD X.K X.mg (fun cls d _ H' => E cls d H') fb) I1 L hB hdf hf hfn hfr tk hrG (fun A outer s H E hr2 => hbody A outer s H E f c' hr2 (takes_of rfl rfl rfl rfl)) hNg hva hd hcd).imp fun σZ HZ Q2 hh => ?_
      obtain ⟨h1, p2, e2, b2, k2, h2⟩ := hh
      refine ⟨h1, e2 _ _ npc hco, pa, Av, hideO ρ, p2, ⟨fun i d hi => ?_, fun i ds hi => (hideO_own hi).elim, fun i j ds es hi => (hideO_own hi).elim, k2, b2, ?_⟩, pe1_w (σ := σZ) (fun _ _ _ z => z) h2⟩
      · obtain ⟨v, q1, q2⟩ := r1.val i d (hideO_val hi)
        exact ⟨v, q1, (r1.base.mv e2).dr q2⟩
      · unfold hideO
        rw [List.length_map]
        exact r.len) r1.base pk1 hq
    exact ⟨t', ht'.nox, hq'⟩
  refine wpAny_call (codeAny_mono rc fun r s2 hq => ?_)
  cases r with
  | error e => exact (show False from hq).elim
  | ok fl =>
    cases fl with
    | ret u => exact I1.after hq
    | next => exact False.elim hq
    | brk => exact False.elim hq
    | cont => exact False.elim hq
end

/-! ### try: .. ask() .. except x as n: y = n -/
/-- the wish behind asking, told by the state -/
def tTryAsk (K : PySem.W.Frag) (mg : Str → Option Value) (pa : Addr) (Av : List Addr) (H : Hp) (f : Addr) (fb : List D → R D) (known : List Str) (i j : Nat) (A : D → FS) : TS := fun E σ HZ =>
  ∃ ρ p F, σ[0]? = some (some (.ref f)) ∧ Ext pa H HZ ∧ Rel K mg pa Av σ HZ ρ p ∧ SI pa F Av σ ρ HZ ∧ PS1 K mg pa W0 F E (sTry known i j (fun _ p => fb p) A ρ p)
section
variable {X : Cx} {pa : Addr} {Av : List Addr} {H : Hp} {f : Addr} {fb : List D → R D}
theorem try_ask {known : List Str} {x n y a : Str} {c : Value} {i j : Nat} {body : List Stmt} {np np2 yp ap pos pos' p1 p2 : Pos} {act : Ends → L2.St → V → Hp → Prop} {A : D → FS} (hs : X.stack = X.env :: X.outer) (hf : X.env.frame = some X.env.locals) (hN : X.N.Nodup) (hc : Names X x c)
    (hk : ∀ c' ∈ known, ∀ C, X.mg c' = some (.ref C) → PySem.W.exmOne X.K (.ref C) c = some true)
    (he : ∀ (W : WX) (pn : List (Addr × Obj)) (xe : Value → Shared → Prop), Takes (X.tr pn xe) W → PE (X.tr pn xe) (.Call (.Name a p1) [] [] p2) (tAsk X.K X.mg pa Av H f fb W))
    (hst : ∀ (W : WX) (pn : List (Addr × Obj)) (xe : Value → Shared → Prop), Takes (X.tr pn xe) W → PSs (X.tr pn xe) body (fun E σ HZ => tAsk X.K X.mg pa Av H f fb W σ HZ fun v H1 => act E σ v H1))
    (hA : ∀ (E : Ends) F ρ p d σ HZ v, Rel X.K X.mg pa Av σ HZ ρ p → SI pa F Av σ ρ HZ → DR X.K X.mg pa Av HZ v d → PS1 X.K X.mg pa W0 F E (A d ρ p) → act E σ v HZ)
    (hi : X.N[i]? = some n := by rfl) (hj : X.N[j]? = some y := by rfl) (hij : i ≠ j := by decide) (hln : X.env.kindOf n = some .local := by rfl) (hly : X.env.kindOf y = some .local := by rfl)
    (hn1 : (n == ("__debug__" : Str)) = false := by decide) (hn2 : (n == ("__classdict__" : Str)) = false := by decide) (hsw : ∀ env, swapsWith (.Name n np2) (some (.Name y yp)) ap.line env = pure false := by intro _; rfl) :
    PS X (.Try body [.ExceptHandler (some (.Name x np)) (some n) [.Assign [.Name y yp] (.Name n np2) ap] pos'] [] [] pos) (tTryAsk X.K X.mg pa Av H f fb known i j A) :=
  L2.PS.imp (ps_try_keep (Wout := W0) (tb := fun W E σ HZ => tAsk X.K X.mg pa Av H f fb W σ HZ fun v H1 => act E σ v H1) hs hf hN hi hj hij hln hly hc L2.takes0 hn1 hn2 hsw fun W pn xe tk _ => hst W pn xe tk) fun E σ HZ h => by
    obtain ⟨ρ, p, F, h0, e, r, s, h⟩ := h
    refine ⟨h0, p, e, r.base, r.pen, ?_⟩
    unfold sTry at h
    dsimp only at h
    cases ef : fb p with
    | stuck => rw [ef] at h; exact h
    | exc c ks ds p1 => rw [ef] at h; exact keep_end r s hk h
    | ok d p1 =>
      rw [ef] at h
      exact fun v H1 e1 hd k1 => hA E F ρ p1 d σ H1 v (r.step e1 k1) (s.step e1 k1.live) hd h
/-- a statement ahead of the try: a = None, or a, b, c = None, None, [] -/
def PreOk (X : Cx) (Ng : List Str) (st : Stmt) (ρ1 : List Sl) : Prop := ∃ t1, PS X st t1 ∧ ∀ (E : Ends) (pa : Addr) (Av : List Addr) (p : List D) (H : Hp) (f : Addr), Base pa Av H → PenOk X.K X.mg pa Av H p →
  (∀ H1 σ1, Ext pa H H1 → Rel X.K X.mg pa Av σ1 H1 ρ1 p → σ1[0]? = some (some (.ref f)) → E.nx σ1 H1) → t1 E (L2.start Ng [.ref f]) H
theorem rel_empty {K : PySem.W.Frag} {mg : Str → Option Value} {pa : Addr} {Av : List Addr} {H : Hp} {p : List D} {σ : L2.St} {n : Nat} (b : Base pa Av H) (k : PenOk K mg pa Av H p) (hl : σ.length = n) : Rel K mg pa Av σ H (List.replicate n Sl.none) p where
  val := fun i d h => by
    rw [List.getElem?_replicate] at h
    split at h <;> cases h
  own := fun i d h => by
    rw [List.getElem?_replicate] at h
    split at h <;> cases h
  sep := fun i j ds es h => by
    rw [List.getElem?_replicate] at h
    split at h <;> cases h
  pen := k
  base := b
  len := by rw [List.length_replicate]; exact hl.symm
theorem start_len {Ng : List Str} {f : Addr} (h : 0 < Ng.length) : (L2.start Ng [.ref f]).length = Ng.length := by
  unfold L2.start
  simp
  omega
theorem pre_one {Ng : List Str} {i : Nat} {y : Str} {yp np spos : Pos} {jj : Nat} (hN : X.N.Nodup) (hNg : 0 < Ng.length) (hi : X.N[i]? = some y := by rfl) (hi0 : i ≠ 0 := by decide) (hx : Loc X.env.scope y := by first | exact .inl rfl | exact .inr rfl) (hf : X.fn y = true ∨ X.env.scope.names.lookup y = some .local := by first | exact .inl rfl | exact .inr rfl) :
    PreOk X Ng (.Assign [.Name y yp] (.Constant .none jj np) spos) ((List.replicate Ng.length Sl.none).set i (.val .non)) :=
  ⟨_, ps_set hN hi hx pe_non rfl hf, fun E pa Av p H f b k h => by
    refine h H _ (Ext.refl H) ((rel_empty b k (start_len hNg)).setV .non) ?_
    rw [List.getElem?_set_ne hi0]
    unfold L2.start
    rfl⟩
theorem pre_three {Ng : List Str} {i j l : Nat} {x y z : Str} {px py pz pt p1 p2 p3 pt2 pos : Pos} {j1 j2 kt k2 : Nat} (hc : X.calm = true) (hN : X.N.Nodup) (hNg : 0 < Ng.length) (hi : X.N[i]? = some x := by rfl) (hj : X.N[j]? = some y := by rfl) (hl : X.N[l]? = some z := by rfl) (hij : [i, j, l].Nodup := by decide) (h0 : i ≠ 0 ∧ j ≠ 0 ∧ l ≠ 0 := by decide)
    (hx : X.env.scope.names.lookup x = some .local := by rfl) (hy : X.env.scope.names.lookup y = some .local := by rfl) (hz : X.env.scope.names.lookup z = some .local := by rfl)
    (hw : swappedStores [.Tuple [.Name x px, .Name y py, .Name z pz] kt pt] (.Tuple [.Constant .none j1 p1, .Constant .none j2 p2, .List [] p3] k2 pt2) X.env = pure (some [x, y, z]) := by rfl)
    (hs : swapsWithSole [.Tuple [.Name x px, .Name y py, .Name z pz] kt pt] (.Tuple [.Constant .none j1 p1, .Constant .none j2 p2, .List [] p3] k2 pt2) pos.line X.env = pure false := by rfl) :
    PreOk X Ng (.Assign [.Tuple [.Name x px, .Name y py, .Name z pz] kt pt] (.Tuple [.Constant .none j1 p1, .Constant .none j2 p2, .List [] p3] k2 pt2) pos) ((((List.replicate Ng.length Sl.none).set i (.val .non)).set j (.val .non)).set l (.val (.lst []))) := by
  have n := hij
  simp only [List.nodup_cons, List.mem_cons, List.not_mem_nil, or_false, not_or] at n
  refine ⟨_, L2.ps_par3 hc hN hi hj hl n.1.1 n.1.2 n.2.1 hx hy hz (pa_cons pe_non (pa_cons pe_non (pa_cons (pe_lst pa_nil) pa_nil))) hw hs, fun E pa Av p H f b k h => ⟨by show 0 ≤ sizeLine; decide, fun q hq => ⟨_, _, _, rfl, ?_⟩⟩⟩
  have k1 := k.new (o := HO.lst []) b hq
  have r1 := (rel_empty (n := Ng.length) b k (start_len (f := f) hNg)).step (Ext.new (o := HO.lst []) hq) k1
  refine h _ _ (Ext.new hq) (((r1.setV (i := i) .non).setV (i := j) .non).setV (i := l) (.lst upd_same (b.fresh hq) .nil)) ?_
  rw [List.getElem?_set_ne h0.2.2, List.getElem?_set_ne h0.2.1, List.getElem?_set_ne h0.1]
  unfold L2.start
  rfl
end
def noOwn (ρ : List Sl) : Bool := ρ.all fun s => match s with
  | .own _ => false
  | _ => true
/-- .. and the rest -/
def heardF (known : List Str) (i j : Nat) (A : D → FS) (ρ1 : List Sl) (post : FS) : (List D → R D) → List D → R D := fun fb p =>
  (sTry known i j (fun _ p => fb p) A ρ1 p).bnd fun x p => match x with
    | (.nx, ρ) => (post ρ p).bnd fun x p => match x with
      | (.rt d, _) => .ok d p
      | (.nx, _) => .ok .non p
      | _ => .stuck
    | (.rt d, _) => .ok d p
    | _ => .stuck
theorem heard_ok {P : Program} {w : World} {K : PySem.W.Frag} {mg : Str → Option Value} {base : Heap} {Ng : List Str} {h : Str} {sg : Scope} {g : Addr} {s1 s2 : Stmt} {post : List Stmt} {a : Str} {k : Nat} {known : List Str} {i j : Nat} {A : D → FS} {ρ1 : List Sl} {fpost : FS}
    (hno : noOwn ρ1 = true) (hpre : ∀ cdg A outer s H, PreOk (hCx P w K mg base Ng h sg g cdg A outer s H).nox Ng s1 ρ1)
    (htry : ∀ cdg Ar outer s H pa Av f fb, (∀ (W : WX) (pn : List (Addr × Obj)) (xe : Value → Shared → Prop) (p1 p2 : Pos), Takes ((hCx P w K mg base Ng h sg g cdg Ar outer s H).tr pn xe) W → PE ((hCx P w K mg base Ng h sg g cdg Ar outer s H).tr pn xe) (.Call (.Name a p1) [] [] p2) (tAsk K mg pa Av H f fb W)) →
      PS (hCx P w K mg base Ng h sg g cdg Ar outer s H).nox s2 (tTryAsk K mg pa Av H f fb known i j A))
    (hpost : ∀ cdg Ar outer s H, RoomG k (Ar.deeper (envOfC h sg s.heap.objs.size g cdg)) → DSs (hCx P w K mg base Ng h sg g cdg Ar outer s H).nox W0 post fpost) :
    HeardOk P w K mg base Ng h sg g (s1 :: s2 :: post) a k (heardF known i j A ρ1 fpost) := by
  intro cdg Ar outer s H Q f pa Av p fb hr hask b pk hq
  obtain ⟨t1, h1, r1⟩ := hpre cdg Ar outer s H
  refine ⟨_, pss_cons h1 (pss_cons (htry cdg Ar outer s H pa Av f fb hask) (hpost cdg Ar outer s H hr)), ?_⟩
  refine r1 _ pa Av p H f b pk fun H1 σ1 e1 rl h0 => ?_
  have hno' : ∀ i ds, ρ1[i]? ≠ some (Sl.own ds) := fun i ds z => by
    have := List.all_eq_true.mp hno _ (List.mem_of_getElem? z)
    cases this
  refine ⟨ρ1, p, ⟨H1, Av, []⟩, h0, e1, rl, ⟨fun _ _ _ _ h _ => h, fun a ⟨i, es, h1, _⟩ => (hno' _ _ h1).elim, fun a h => .inl h, fun a h => .inl h, fun a h => h, rl.base.liv⟩, ?_⟩
  have fex : ∀ {Av' : List Addr} {σ' : L2.St} {ρ' : List Sl} {H' : Hp}, SI pa ⟨H1, Av, []⟩ Av' σ' ρ' H' → Ext pa H1 H' := fun {Av' σ' ρ' H'} s' => ⟨fun a o n z t => s'.ext a o n (by simp) z t, fun a _ z => s'.liv a z⟩
  have fin : ∀ {Av' : List Addr} {σ' : L2.St} {ρ' : List Sl} {v : V} {d : D} {p1 : List D} {H' : Hp}, PE1 K mg pa Av W0 [] H Q (.ok d p1) → Rel K mg pa Av' σ' H' ρ' p1 → SI pa ⟨H1, Av, []⟩ Av' σ' ρ' H' → DR K mg pa Av' H' v d → Q v H' := fun {Av' σ' ρ' v d p1 H'} h r' s' hd => by
    have mv : Mv Av' Av H' H' := ⟨fun _ _ _ z _ => z, fun a z => (s'.keep a z).elim .inl fun y => absurd y (by simp)⟩
    obtain ⟨ws, g1, g2⟩ := r'.pen.at'
    exact h v H' (e1.trans (fex s')) (mv.dr hd) ⟨⟨ws, g1, mv.drs g2⟩, r'.pen.tabs⟩
  have fout : ∀ {Av' : List Addr} {σ' : L2.St} {ρ' : List Sl} {C x : Addr} {fs : List (Str × V)} {c : Str} {ks : List Str} {ds : List D} {p1 : List D} {H' : Hp}, PX K mg pa Av W0 [] H c ks ds p1 → Rel K mg pa Av' σ' H' ρ' p1 → SI pa ⟨H1, Av, []⟩ Av' σ' ρ' H' → mg c = some (.ref C) → H1 x = none → H' x = some (.xd fs) → fs.map (·.1) = ks → DRs K mg pa Av' H' (fs.map (·.2)) ds → False := fun {Av' σ' ρ' C x fs c ks ds p1 H'} h r' s' g1 g2 g3 g4 g5 => by
    have mv : Mv Av' Av H' H' := ⟨fun _ _ _ z _ => z, fun a z => (s'.keep a z).elim .inl fun y => absurd y (by simp)⟩
    obtain ⟨ws, k1, k2⟩ := r'.pen.at'
    refine h C x fs H' g1 (e1.trans (fex s')) ?_ g3 g4 (mv.drs g5) ⟨⟨ws, k1, mv.drs k2⟩, r'.pen.tabs⟩
    cases z : H x with
    | none => rfl
    | some o => exact absurd g2 (e1.live rl.pen.live (by rw [z]; simp))
  unfold heardF at hq
  cases e : sTry known i j (fun _ p => fb p) A ρ1 p with
  | stuck => rw [e] at hq; exact hq.elim
  | exc c ks ds p1 =>
    rw [e] at hq
    exact fun Av' σ' ρ' C x fs H' r' s' g1 g2 g3 g4 g5 => fout hq r' s' g1 g2 g3 g4 g5
  | ok y p1 =>
    rw [e] at hq
    obtain ⟨fl, ρ2⟩ := y
    cases fl with
    | bk => exact hq.elim
    | ct => exact hq.elim
    | rt d => exact fun Av' σ' ρ' v H' r' s' hd => fin hq r' s' hd
    | nx =>
      intro Av' σ' H' r' s'
      refine ⟨pa, Av', ρ2, p1, ⟨H1, Av, []⟩, r', s', ?_⟩
      dsimp only [bnd_ok] at hq
      cases e2 : fpost ρ2 p1 with
      | stuck => rw [e2] at hq; exact hq.elim
      | exc c ks ds p2 =>
        rw [e2] at hq
        exact fun Av' σ' ρ' C x fs H' r' s' g1 g2 g3 g4 g5 => fout hq r' s' g1 g2 g3 g4 g5
      | ok y p2 =>
        rw [e2] at hq
        obtain ⟨fl, ρ3⟩ := y
        cases fl with
        | bk => exact hq.elim
        | ct => exact hq.elim
        | rt d => exact fun Av' σ' ρ' v H' r' s' hd => fin hq r' s' hd
        | nx => exact fun Av' σ' H' r' s' => fin (d := .non) hq r' s' .non
end Dn
end

section
set_option Elab.async false
set_option linter.all false
set_option maxRecDepth 100000
set_option maxHeartbeats 4000000
namespace Dn
open PySem PySem.Spec PyProof.Rows L2
/-! ### a caught exception, looked at -/
section
variable {X : Cx} {W : WX} {pos : Pos}
theorem exO_get {P : Program} {w : World} {H : Hp} {h : Heap} {C x a : Addr} (k : ObjOk P w H h a (ExO C x a)) : ∃ (oe : Obj) (vs : Array Value), h.get? a = some oe ∧ oe.cls = .ref C ∧ oe.dict = some x ∧ oe.data = .fields vs := by
  unfold ExO at k
  exact k.1
theorem ex_at {pins : List (Addr × Obj)} {σ : L2.St} {H : Hp} {s : Shared} {a C x : Addr} {fs : List (Str × V)} (I : Inv X pins σ H s) (h1 : H a = some (ExO C x a)) (h2 : H x = some (.xd fs)) :
    ∃ (oe od : Obj) (mA : Str → Option Value), PySem.W.InstAt s.heap a oe C (some od) ∧ (∀ name, PySem.W.lookIn name od = some (mA name)) ∧ ∀ f, RelO (fs.lookup f) (mA f) := by
  obtain ⟨oe, vs, e1, e2, e3, e4⟩ := (show ∃ (oe : Obj) (vs : Array Value), s.heap.get? a = some oe ∧ oe.cls = .ref C ∧ oe.dict = some x ∧ oe.data = .fields vs from exO_get (I.hok a _ h1))
  obtain ⟨mA, n, r⟩ := (show ∃ mA, s.heap.Ns1 x mA ∧ ∀ f, RelO (fs.lookup f) (mA f) from I.hok x _ h2)
  obtain ⟨od, ho, hl⟩ := lookIn_ns n
  refine ⟨oe, od, mA, ⟨e1, e2, ?_, ?_⟩, hl, r⟩
  · obtain ⟨oc, odi, oda, osl⟩ := oe
    dsimp only at e4
    subst e4
    rfl
  · rw [e3]
    exact ho
/-- e.f, e an exception -/
def tExA (K : PySem.W.Frag) (ta : TE) (f : Str) : TE := fun σ H Q => ta σ H fun v H1 => ∃ (a C x : Addr) (fs : List (Str × V)) (y : V), v = .ref a ∧ H1 a = some (ExO C x a) ∧ H1 x = some (.xd fs) ∧ L2.ExcC K C ∧ PySem.W.findIn K (.ref C) f = some none ∧ fs.lookup f = some y ∧ Q y H1
theorem pe_exA {e : Expr} {ta : TE} {f : Str} (he : PE X e ta) (hb : attributeBase e f X.env (eval e X.env) = eval e X.env := by rfl) : PE X (.Attribute e f pos) (tExA X.K ta f) := by
  refine ⟨fun pins s σ H Q I h => ?_⟩
  refine attr_of hb (thn (he.run pins s σ H _ I h) fun u s1 ⟨v, H1, I1, rx, a, C, x, fs, y, ev, h1, h2, c, n, l, q⟩ => ?_)
  subst ev
  obtain rfl : u = Value.ref a := rx
  obtain ⟨oe, od, mA, J, hl, r⟩ := ex_at I1 h1 h2
  obtain ⟨u1, e1, r1⟩ := RelO.some_of (v := y) (o := mA f) (by rw [← l]; exact r f)
  refine PySem.HandSPX.exc_get (v := u1) I1.kIn J c.hg c.hk c.hs (PySem.W.findObj_own c.hd n rfl (by rw [hl, e1])) (handed_of r1) ?_
  exact ⟨y, H1, I1.tok _, r1, q⟩
/-- isinstance(e, C), e an exception -/
def rIsX (K : PySem.W.Frag) : List V → Hp → VK → Prop := fun xs H Q => ∃ (a C x : Addr) (fs : List (Str × V)) (c : V) (cv : Value) (b : Bool), xs = [.ref a, c] ∧ ClsV c cv ∧ H a = some (ExO C x a) ∧ H x = some (.xd fs) ∧ L2.ExcC K C ∧ PySem.W.kitOne K (.ref C) cv = some b ∧ Q (.bl b) H
theorem call_isX : CallR X (.builtin "isinstance") (rIsX X.K) := by
  intro pins s σ H xs us Q I r h
  obtain ⟨a, C, x, fs, c, cv, b, rfl, k, h1, h2, ec, e, q⟩ := h
  obtain ⟨u1, u2, rfl, r1, r2⟩ := vals2 r
  cases (show u1 = Value.ref a from r1)
  have e2 := k.eq r2
  subst e2
  obtain ⟨oe, od, mA, J, hl, _⟩ := ex_at I h1 h2
  obtain ⟨cd, hc, _⟩ := PySem.W.any_some ec.hd
  exact PySem.W.kia_one (PySem.W.kitx_exc (by rw [hc]; rfl) ec.hg ec.hk ec.hs ec.ha ec.hn ec.ht ec.hm) I.kIn J e (fun z => nomatch z) fun tk => ⟨.bl b, H, I.tok tk, rfl, q⟩
/-! as trees -/
def getF : Str → List Str → List D → Option D
  | f, k :: ks, d :: ds => if f = k then some d else getF f ks ds
  | _, _, _ => none
theorem getF_dr {K : PySem.W.Frag} {mg : Str → Option Value} {pa : Addr} {Av : List Addr} {H : Hp} {f : Str} : ∀ {fs : List (Str × V)} {ks : List Str} {vs : List V} {ds : List D} {d : D}, fs.map (·.1) = ks → fs.map (·.2) = vs → DRs K mg pa Av H vs ds → getF f ks ds = some d → ∃ y, fs.lookup f = some y ∧ DR K mg pa Av H y d
  | [], _, _, _, _, rfl, rfl, .nil, h => by cases h
  | (k, v) :: fs, _, _, _, d, rfl, rfl, .cons hd q, h => by
    have h : (if f = k then some _ else getF f (fs.map (·.1)) _) = some d := h
    by_cases e : f = k
    · rw [if_pos e] at h
      cases h
      subst e
      exact ⟨v, by rw [List.lookup_cons]; simp, hd⟩
    · have n := e
      rw [if_neg e] at h
      obtain ⟨y, h1, h2⟩ := getF_dr rfl rfl q h
      refine ⟨y, ?_, h2⟩
      rw [List.lookup_cons, show (f == k) = false from by simpa using n]
      exact h1
/-- what is known of the classes of exceptions -/
def ExKn (K : PySem.W.Frag) (mg : Str → Option Value) (known : List Str) : Prop := ∀ c ∈ known, ∀ C, mg c = some (.ref C) → L2.ExcC K C
def fExA (known : List Str) (f : Str) (g : FE) : FE := fun ρ p => (g ρ p).bnd fun d p => match d with
  | .ex c ks ds => if c ∈ known then (match getF f ks ds with
    | some d => .ok d p
    | none => .stuck) else .stuck
  | _ => .stuck
theorem de_exA {known : List Str} {f : Str} {e : Expr} {g : FE} (he : DE X W e g) (hk : ExKn X.K X.mg known) (hf : ∀ c ∈ known, ∀ C, X.mg c = some (.ref C) → PySem.W.findIn X.K (.ref C) f = some none) (hb : attributeBase e f X.env (eval e X.env) = eval e X.env := by rfl) : DE X W (.Attribute e f pos) (fExA known f g) :=
  (pe_exA he hb).imp fun σ H Q h => by
    obtain ⟨pa, Av, ρ, p, r, h⟩ := h
    refine seqE (Z := fun H r => PE1 X.K X.mg pa Av W σ H Q r) r (fun _ _ _ _ h => h) id h fun d p1 v H1 e1 hd r1 h1 => ?_
    have h1 := PE1.later e1 r1.pen.live h1
    cases hd with
    | @ex a C x c fs ks vs ds hm ha hx na nx k1 k2 q => ?_
    | _ => exact h1.elim
    dsimp only at h1
    by_cases hc : c ∈ known
    · rw [if_pos hc] at h1
      cases eg : getF f ks ds with
      | none => rw [eg] at h1; exact h1.elim
      | some d1 =>
        rw [eg] at h1
        obtain ⟨y, l, hy⟩ := getF_dr k1 k2 q eg
        exact ⟨a, C, x, fs, y, rfl, ha, hx, hk c hc C hm, hf c hc C hm, l, h1 y H1 (Ext.refl _) hy r1.pen⟩
    · rw [if_neg hc] at h1
      exact h1.elim
def fIsX (tab : List (Str × Bool)) (g : FE) : FE := fun ρ p => (g ρ p).bnd fun d p => match d with
  | .ex c _ _ => (match tab.lookup c with
    | some b => .ok (.bl b) p
    | none => .stuck)
  | _ => .stuck
theorem de_isX {tab : List (Str × Bool)} {cn : Str} {e : Expr} {g : FE} {Cc : Addr} {p1 p2 : Pos} (he : DE X W e g) (hm : X.mg "isinstance" = none) (hmc : X.mg cn = some (.ref Cc)) (ht : ∀ c b, tab.lookup c = some b → ∀ C, X.mg c = some (.ref C) → L2.ExcC X.K C ∧ PySem.W.kitOne X.K (.ref C) (.ref Cc) = some b)
    (hg : Gl X "isinstance" := by rfl) (hgc : Gl X cn := by rfl) (hv : bootBuiltins "isinstance" = some (.builtin "isinstance") := by decide +kernel) (hd : (cn == ("__debug__" : Str)) = false := by decide)
    (hs : starEach [e, .Name cn p2] X.env = (false, eval e X.env) :: starEach [.Name cn p2] X.env := by rfl) (hs2 : starEach [.Name cn p2] X.env = (false, eval (.Name cn p2) X.env) :: starEach [] X.env := by rfl)
    (hpl : (backTo pos (starEach [.Name cn p2] X.env)).any (·.1) = false := by rfl) :
    DE X W (.Call (.Name "isinstance" p1) [e, .Name cn p2] [] pos) (fIsX tab g) :=
  (pe_callB call_isX hg hm hv (pa_cons he (pa_cons (pe_glob (v := .ref Cc) hgc hmc rfl hd) pa_nil hs2) hs) (by decide) (by decide) hs hpl).imp fun σ H Q h => by
    obtain ⟨pa, Av, ρ, p, r, h⟩ := h
    refine seqE (Z := fun H r => PE1 X.K X.mg pa Av W σ H Q r) r (fun _ _ _ _ h => h) id h fun d p1 v H1 e1 hd r1 h1 => ?_
    have h1 := PE1.later e1 r1.pen.live h1
    cases hd with
    | @ex a C x c fs ks vs ds hm ha hx na nx k1 k2 q => ?_
    | _ => exact h1.elim
    dsimp only at h1
    cases el : tab.lookup c with
    | none => rw [el] at h1; exact h1.elim
    | some b =>
      rw [el] at h1
      obtain ⟨ec, ek⟩ := ht c b el C hm
      exact ⟨a, C, x, fs, .ref Cc, .ref Cc, b, rfl, .own Cc, ha, hx, ec, ek, h1 _ H1 (Ext.refl _) (.bl b) r1.pen⟩
end
end Dn
end

section
set_option Elab.async false
set_option linter.all false
set_option maxRecDepth 100000
set_option maxHeartbeats 4000000
namespace Dn
open PySem PySem.Spec PyProof.Rows L2 LamX
theorem look_cases {c k : Str} {v b : Bool} {l : List (Str × Bool)} (h : List.lookup c ((k, v) :: l) = some b) : (c = k ∧ b = v) ∨ List.lookup c l = some b := by
  rw [List.lookup_cons] at h
  by_cases e : c = k
  · subst e
    simp only [beq_self_eq_true, Option.some.injEq] at h
    exact .inl ⟨rfl, h.symm⟩
  · rw [show (c == k) = false from by simpa using e] at h
    exact .inr h
/-! ### the kinds of try in a def that asks -/
/-- an except clause that takes these classes -/
def Catch (K : PySem.W.Frag) (mg : Str → Option Value) (known : List Str) (c : Value) : Prop := ∀ c' ∈ known, ∀ C, mg c' = some (.ref C) → PySem.W.exmOne K (.ref C) c = some true
section
variable {X : Cx} {pa : Addr} {Av : List Addr} {H : Hp} {f : Addr} {fb : List D → R D} {known : List Str} {x n y a z : Str} {c : Value} {i j m : Nat} {np np2 yp ap pos pos' p1 p2 : Pos}
def AskOk (X : Cx) (pa : Addr) (Av : List Addr) (H : Hp) (f : Addr) (fb : List D → R D) (a : Str) : Prop := ∀ (W : WX) (pn : List (Addr × Obj)) (xe : Value → Shared → Prop) (p1 p2 : Pos), Takes (X.tr pn xe) W → PE (X.tr pn xe) (.Call (.Name a p1) [] [] p2) (tAsk X.K X.mg pa Av H f fb W)
def aExpr : D → FS := fun _ ρ p => .ok (.nx, ρ) p
theorem try_askExpr {spos : Pos} (he : AskOk X pa Av H f fb a) (hs : X.stack = X.env :: X.outer) (hf : X.env.frame = some X.env.locals) (hN : X.N.Nodup) (hc : Names X x c) (hk : Catch X.K X.mg known c) (hi : X.N[i]? = some n := by rfl) (hj : X.N[j]? = some y := by rfl) (hij : i ≠ j := by decide) (hln : X.env.kindOf n = some .local := by rfl) (hly : X.env.kindOf y = some .local := by rfl)
    (hn1 : (n == ("__debug__" : Str)) = false := by decide) (hn2 : (n == ("__classdict__" : Str)) = false := by decide) (hsw : ∀ env, swapsWith (.Name n np2) (some (.Name y yp)) ap.line env = pure false := by intro _; rfl)
    (hsw2 : swapsWith (.Call (.Name a p1) [] [] p2) none spos.line X.env = pure false := by rfl) :
    PS X (.Try [.Expr (.Call (.Name a p1) [] [] p2) spos] [.ExceptHandler (some (.Name x np)) (some n) [.Assign [.Name y yp] (.Name n np2) ap] pos'] [] [] pos) (tTryAsk X.K X.mg pa Av H f fb known i j aExpr) :=
  try_ask (act := fun E σ _ H1 => E.nx σ H1) hs hf hN hc hk (fun W pn xe tk => he W pn xe p1 p2 tk)
    (fun W pn xe tk => pss_one (ps_expr (he W pn xe p1 p2 tk) hsw2)) (fun E F ρ p d σ HZ v r s hd h => h Av σ HZ r s) hi hj hij hln hly hn1 hn2 hsw
def aSet (m : Nat) : D → FS := fun d ρ p => .ok (.nx, ρ.set m (.val d)) p
theorem try_askSet {spos zp : Pos} (he : AskOk X pa Av H f fb a) (hs : X.stack = X.env :: X.outer) (hf : X.env.frame = some X.env.locals) (hN : X.N.Nodup) (hc : Names X x c) (hk : Catch X.K X.mg known c) (hi : X.N[i]? = some n := by rfl) (hj : X.N[j]? = some y := by rfl) (hm : X.N[m]? = some z := by rfl) (hij : i ≠ j := by decide) (hln : X.env.kindOf n = some .local := by rfl) (hly : X.env.kindOf y = some .local := by rfl) (hlz : X.env.kindOf z = some .local := by rfl)
    (hn1 : (n == ("__debug__" : Str)) = false := by decide) (hn2 : (n == ("__classdict__" : Str)) = false := by decide) (hsw : ∀ env, swapsWith (.Name n np2) (some (.Name y yp)) ap.line env = pure false := by intro _; rfl)
    (hsw2 : swapsWith (.Call (.Name a p1) [] [] p2) (some (.Name z zp)) spos.line X.env = pure false := by rfl) :
    PS X (.Try [.Assign [.Name z zp] (.Call (.Name a p1) [] [] p2) spos] [.ExceptHandler (some (.Name x np)) (some n) [.Assign [.Name y yp] (.Name n np2) ap] pos'] [] [] pos) (tTryAsk X.K X.mg pa Av H f fb known i j (aSet m)) :=
  try_ask (act := fun E σ v H1 => E.nx (σ.set m (some v)) H1) hs hf hN hc hk (fun W pn xe tk => he W pn xe p1 p2 tk)
    (fun W pn xe tk => pss_one (ps_set (X := X.tr pn xe) hN hm (.inl hlz) (he W pn xe p1 p2 tk) hsw2 (.inr hlz))) (fun E F ρ p d σ HZ v r s hd h => h Av _ HZ (r.setV hd) s.setV) hi hj hij hln hly hn1 hn2 hsw
def aRet1 : D → FS := fun d ρ p => .ok (.rt (.lst [d]), ρ) p
theorem try_askRet1 {spos lp : Pos} (he : AskOk X pa Av H f fb a) (hs : X.stack = X.env :: X.outer) (hf : X.env.frame = some X.env.locals) (hN : X.N.Nodup) (hc : Names X x c) (hk : Catch X.K X.mg known c) (hi : X.N[i]? = some n := by rfl) (hj : X.N[j]? = some y := by rfl) (hij : i ≠ j := by decide) (hln : X.env.kindOf n = some .local := by rfl) (hly : X.env.kindOf y = some .local := by rfl)
    (hn1 : (n == ("__debug__" : Str)) = false := by decide) (hn2 : (n == ("__classdict__" : Str)) = false := by decide) (hsw : ∀ env, swapsWith (.Name n np2) (some (.Name y yp)) ap.line env = pure false := by intro _; rfl) :
    PS X (.Try [.Return (some (.List [.Call (.Name a p1) [] [] p2] lp)) spos] [.ExceptHandler (some (.Name x np)) (some n) [.Assign [.Name y yp] (.Name n np2) ap] pos'] [] [] pos) (tTryAsk X.K X.mg pa Av H f fb known i j aRet1) :=
  try_ask (act := fun E _ v H1 => ∀ q, H1 q = none → E.rt (.ref q) (upd H1 q (.lst [v]))) hs hf hN hc hk (fun W pn xe tk => he W pn xe p1 p2 tk)
    (fun W pn xe tk => (pss_one (ps_ret (pe_lst (pa_cons (he W pn xe p1 p2 tk) pa_nil)))).imp fun E σ HZ h => by
      obtain ⟨h0, p', e, b, k, h⟩ := h
      refine ⟨h0, p', e, b, k, ?_⟩
      cases ef : fb p' with
      | stuck => rw [ef] at h; exact h.elim
      | exc c ks ds q => rw [ef] at h; exact h
      | ok d q =>
        rw [ef] at h
        exact fun v H1 e1 hd k1 => ⟨by show 1 ≤ sizeLine; decide, fun r hr => h v H1 e1 hd k1 r hr⟩)
    (fun E F ρ p d σ HZ v r s hd h q hq => by
      have e2 : Ext pa HZ (upd HZ q (.lst [v])) := Ext.new hq
      have k2 := r.pen.new (o := HO.lst [v]) r.base hq
      exact h Av σ ρ _ _ (r.step e2 k2) (s.step e2 k2.live) (.lst upd_same (r.base.fresh hq) (.cons (dr_new hq hd) .nil))) hi hj hij hln hly hn1 hn2 hsw
end
end Dn
end

section
set_option Elab.async false
set_option linter.all false
set_option maxRecDepth 100000
set_option maxHeartbeats 4000000
namespace Dn
open PySem PySem.Spec PyProof.Rows L2
/-! ### the end of a law: its call by the caller, where no guard stands -/
section
variable {P : Program} {w : World} {K : PySem.W.Frag} {mg mb : Str → Option Value}
/-- what is tracked as the law begins: the tables ts, and the script if it is not written -/
def H0 (K : PySem.W.Frag) (a : Addr) (ob : Obj) (xs : List V) (ts : List Addr) : Hp := fun b =>
  if b ∈ ts then some (.tbl #[]) else if b = a ∧ K.lookup a = none then some (.frz ob (.lst xs)) else none
def scrO (us : List Value) : Obj := { cls := .type "list", data := .seq us.toArray }
def tabO : Obj := { cls := .none, data := .fields #[] }
theorem h0_cases {a b : Addr} {ob : Obj} {xs : List V} {ts : List Addr} {u : HO} (h : H0 K a ob xs ts b = some u) : (b ∈ ts ∧ u = .tbl #[]) ∨ (b ∉ ts ∧ b = a ∧ K.lookup a = none ∧ u = .frz ob (.lst xs)) := by
  unfold H0 at h
  by_cases h1 : b ∈ ts
  · rw [if_pos h1] at h
    exact .inl ⟨h1, (Option.some.inj h).symm⟩
  · rw [if_neg h1] at h
    by_cases h2 : b = a ∧ K.lookup a = none
    · rw [if_pos h2] at h
      exact .inr ⟨h1, h2.1, h2.2, (Option.some.inj h).symm⟩
    · rw [if_neg h2] at h
      cases h
theorem law_atG {k : Nat} {fa a : Addr} {cs : List (Addr × Addr)} {fd : FuncData} {x : Str} {sp : Sp} {s₁ : Shared} {vs : List Value} {ns : List Int}
    (kin : K.In s₁.heap) (nsg : s₁.heap.Ns mainGlobals mg) (nsb : s₁.heap.Ns builtinsNs mb) (blt : ∀ x : Str, x ≠ "__name__" → mb x = bootBuiltins x) (lim : s₁.heap.NoLimit) (gens : s₁.gens = #[])
    (tab : ∀ p ∈ cs, s₁.heap.get? p.2 = some tabO) (tabK : ∀ p ∈ cs, K.lookup p.2 = none) (hd : ∀ p ∈ cs, PySem.W.CodeHd s₁.heap p.1 p.2)
    (bmod : ∃ (bm : Addr) (ob : Obj), mg "__builtins__" = some (.ref bm) ∧ bm ≠ builtinsNs ∧ s₁.heap.get? bm = some ob ∧ ob.cls = .type "module" ∧ ob.dict = some builtinsNs ∧ ob.data = .plain)
    (scr : s₁.heap.get? a = some (scrO vs)) (zs : IntsAre vs ns) (short : ns.length ≤ sizeLine) (room : RoomG k callerA)
    (F : ∀ base : Heap, K.In base → base.Ns mainGlobals mg → (∀ p ∈ cs, LamX.TabB base mg p.1 p.2) → FnG P w K mg base k fa fd [x] sp) (bnd : ∀ (s : Shared) (u : Value), BindsTo s fd ⟨[u], []⟩ [(x, u)])
    (want : ∀ H : Hp, (∀ p ∈ cs, H p.2 = some (.tbl #[])) → SqL K H a (ns.map V.int) → sp [.ref a] H (fun v _ => v = .bl true) fun _ _ _ => False) :
    codeAny (model P w) callerA (.call (.ref fa) ⟨[.ref a], []⟩) (fun r s' => r = .ok (.ret (.bool true)) ∧ OldK s₁.heap s'.heap ∧ s'.os = s₁.os ∧ AllBare s'.gens) s₁ := by
  have rel := vals_ints zs
  have tabs : ∀ b ∈ cs.map (·.2), s₁.heap.get? b = some tabO ∧ K.lookup b = none := fun b hb => by
    obtain ⟨p, hp, rfl⟩ := List.mem_map.mp hb
    exact ⟨tab p hp, tabK p hp⟩
  have na : a ∉ cs.map (·.2) := fun z => by
    have q := (tabs a z).1.symm.trans scr
    have q := congrArg Obj.data (Option.some.inj q)
    cases q
  let HH : Hp := H0 K a (scrO vs) (ns.map V.int) (cs.map (·.2))
  have eT : ∀ p ∈ cs, HH p.2 = some (.tbl #[]) := fun p hp => if_pos (List.mem_map.mpr ⟨p, hp, rfl⟩)
  -- an object of another kind is not tracked
  have other : ∀ {b : Addr} {o : Obj}, s₁.heap.get? b = some o → (∀ us n, o.data ≠ .seq us n) → o.data ≠ .fields #[] → HH b = none := fun {b o} e n1 n2 => by
    cases q : HH b with
    | none => rfl
    | some u =>
      rcases h0_cases q with ⟨m, _⟩ | ⟨_, m, _, _⟩
      · have z := Option.some.inj ((tabs b m).1.symm.trans e)
        exact absurd (show o.data = .fields #[] by rw [← z]; rfl) n2
      · rw [m] at e
        have z := Option.some.inj (scr.symm.trans e)
        exact absurd (show o.data = .seq vs.toArray _ by rw [← z]; rfl) (n1 _ _)
  have dct : ∀ {b : Addr} {m : Str → Option Value}, s₁.heap.Ns b m → (hidT s₁.heap HH).Ns b m := fun {b m} ⟨o, es, ep, e, d, rest⟩ =>
    ⟨o, es, ep, hidT_get e (other e (fun us n z => by rw [d] at z; cases z) (fun z => by rw [d] at z; cases z)), d, rest⟩
  have kb : K.In (hidT s₁.heap HH) := fun b o e => hidT_get (kin b o e) (by
    cases q : HH b with
    | none => rfl
    | some u =>
      rcases h0_cases q with ⟨m, _⟩ | ⟨_, m, m2, _⟩
      · rw [(tabs b m).2] at e
        cases e
      · rw [m, m2] at e
        cases e)
  have mod : L2.Mod K mg (hidT s₁.heap HH) := ⟨kb, dct nsg, ⟨mb, dct nsb, blt⟩, let ⟨m, h1, h2⟩ := lim; ⟨m, dct h1, h2⟩⟩
  have tb : ∀ p ∈ cs, LamX.TabB (hidT s₁.heap HH) mg p.1 p.2 := fun p hp => by
    refine ⟨?_, ?_, fun z => ?_⟩
    · obtain ⟨o, us, file, tf, flags, tg, inF, text, tt, e1, r1, r2, r3, rest⟩ := hd p hp
      refine ⟨o, us, file, tf, flags, tg, inF, text, tt, hidT_get e1 (other e1 (fun us n z => by rw [r2] at z; cases z) fun z => ?_), r1, r2, r3, rest⟩
      rw [r2] at z
      cases z
      simp at r3
    · obtain ⟨bm, ob, b1, b2, b3, b4, b5, b6⟩ := bmod
      refine ⟨bm, ob, b1, b2, fun q => ?_, fun q => ?_, hidT_get b3 (other b3 (fun us n z => by rw [b6] at z; cases z) fun z => by rw [b6] at z; cases z), b4, b5, b6⟩
      · obtain ⟨o, es, ep, e, d, _⟩ := nsg
        rw [q, e] at b3
        cases b3
        rw [d] at b6
        cases b6
      · rw [q, tab p hp] at b3
        cases b3
        cases b6
    · obtain ⟨o, es, ep, e, d, _⟩ := nsg
      rw [z, tab p hp] at e
      cases e
      cases d
  have ok : HOk P w HH s₁.heap := fun b u q => by
    rcases h0_cases q with ⟨m, rfl⟩ | ⟨_, rfl, _, rfl⟩
    · exact (tabs b m).1
    · exact ⟨scr, by rw [List.length_map]; exact short, vs, _, rel, scr⟩
  have sq : SqL K HH a (ns.map V.int) := by
    cases hk : K.lookup a with
    | none => exact .inl (.inr ⟨scrO vs, (if_neg na).trans (if_pos ⟨rfl, hk⟩)⟩)
    | some o =>
      have e := Option.some.inj ((kin a o hk).symm.trans scr)
      subst e
      exact .inr ⟨_, vs.toArray, _, hk, rfl, rfl, rfl, by rw [List.size_toArray, zs.length]; exact short, by simpa using rel⟩
  have env : Env0 P w K mg (hidT s₁.heap HH) callerA [] s₁ HH :=
    ⟨rfl, mod, fun b o e => of_hidT e, Nat.le_of_eq (hidT_size _ _), trivial, fun b hb => (nomatch (show b ∈ ([] : List Addr) from hb)), ok, .of_eq gens⟩
  refine codeAny_mono ((F _ kb (dct nsg) tb).run callerA [] s₁ HH ⟨[.ref a], []⟩ [.ref a] [.ref a] _ _ room env (bnd s₁ (.ref a)) (.cons rfl .nil) (want HH eT sq)) fun r s' h => ?_
  cases r with
  | error e =>
    obtain ⟨_, _, _, _, _, _, _, _, _, _, _, _, z⟩ := (show L2.CX P w [] HH s₁ (fun _ _ _ => False) e s' from h)
    exact z.elim
  | ok fl =>
    cases fl with
    | next => exact h.elim
    | brk => exact h.elim
    | cont => exact h.elim
    | ret u =>
      obtain ⟨v, H', os, bare, un, ok', rv, q⟩ := h
      have q : v = .bl true := q
      subst q
      obtain rfl : u = Value.bool true := rv
      have grow : ∀ b ∈ cs.map (·.2), ∃ more : Array Value, s'.heap.get? b = some { cls := .none, data := .fields more } := fun b hb => by
        obtain ⟨more, z⟩ := un.tbls b #[] (if_pos hb)
        exact ⟨_, ok' b _ z⟩
      have same : ∀ b o, b ∉ cs.map (·.2) → s₁.heap.get? b = some o → s'.heap.get? b = some o := fun b o nb e => by
        cases q : HH b with
        | none => exact un.keep b o e q (fun z => (nomatch (show b ∈ ([] : List Addr) from z))) (fun z => (nomatch z))
        | some u =>
          rcases h0_cases q with ⟨m, _⟩ | ⟨_, _, _, rfl⟩
          · exact absurd m nb
          · have z1 := (ok b _ q).1
            have z2 := (ok' b _ (un.frzs b _ _ q)).1
            rw [e] at z1
            cases z1
            exact z2
      refine ⟨rfl, ⟨fun b o e => ?_, fun b o e => ?_⟩, os, bare⟩
      · by_cases hb : b ∈ cs.map (·.2)
        · obtain ⟨more, hm⟩ := grow b hb
          obtain ⟨p, hp, rfl⟩ := List.mem_map.mp hb
          rw [tab p hp] at e
          cases e
          exact .inr (.inl ⟨((hd p hp).tab (tab p hp)).isCodeTable, rfl, #[], more, rfl, by rw [Array.empty_append]; exact hm⟩)
        · exact .inl (same b o hb e)
      · by_cases hb : b ∈ cs.map (·.2)
        · obtain ⟨more, hm⟩ := grow b hb
          exact ⟨_, hm⟩
        · exact ⟨o, same b o hb e⟩
/-- what is to be shown of a law at the head's heap -/
def LawG (l : PySem.W.OpenLaw) (w : World) (K : PySem.W.Frag) (k n : Nat) (x : Str) (mg : Str → Option Value) (fa : Addr) (h : Heap) : Prop :=
  ∃ (fd : FuncData) (cs : List (Addr × Addr)) (sp : Sp), (∀ p ∈ cs, h.get? p.2 = some tabO) ∧ (∀ p ∈ cs, K.lookup p.2 = none) ∧ (∀ p ∈ cs, PySem.W.CodeHd h p.1 p.2) ∧ (∀ (s : Shared) (u : Value), BindsTo s fd ⟨[u], []⟩ [(x, u)]) ∧
    (∀ (H : Hp) (a : Addr) (ns : List Int), ns.length ≤ n → (∀ z ∈ ns, Builtin.Int.intBits z ≤ 1048576) → (∀ p ∈ cs, H p.2 = some (.tbl #[])) → SqL K H a (ns.map V.int) → sp [.ref a] H (fun v _ => v = .bl true) fun _ _ _ => False) ∧
    ∀ base : Heap, K.In base → base.Ns mainGlobals mg → (∀ p ∈ cs, LamX.TabB base mg p.1 p.2) → FnG l.prog w K mg base k fa fd [x] sp
theorem walk_G {l : PySem.W.OpenLaw} {n k : Nat} {q : Program} {loose : List Str} {XP : (Str → Option Value) → Heap → Prop} {YP : World → Heap → Prop} {d : DefRec} {K : Params → PySem.W.Frag} {x : Str}
    (most : l.most = some n) (low : n ≤ sizeLine) (nod : d.params.defaults = []) (room : RoomG k callerA) (hY : ∀ (w : World) (h : Heap), YP w h → (K w.params).In h)
    (F : ∀ (w : World) (mg : Str → Option Value) (fa : Addr) (h : Heap), YP w h → (K w.params).In h → h.Ns mainGlobals mg → mg d.name = some (.ref fa) → LawG l w (K w.params) k n x mg fa h) :
    PySem.W.WalkO q loose XP YP l.row.toRowW d [] (fun f vs => PySem.call f vs) := by
  refine Att.attach_callB most nod fun w s₀ s₁ mg mb fa o pm cd doc a vs ns G Y ho hd hcd hmg scr zs len bits gens => ?_
  have kx := hY w _ Y
  obtain ⟨fd, cs, sp, h1, h2, h3, h4, h5, h6⟩ := F w mg fa _ Y kx G.T.g hmg
  exact law_atG kx G.T.g G.T.b G.T.builtins G.T.nolimit gens h1 h2 h3 G.T.bmain scr zs (Nat.le_trans len low) room h6 h4 fun H hH hS => h5 H a ns len bits hH hS
end
end Dn
end

section
set_option Elab.async false
set_option linter.all false
set_option maxRecDepth 100000
set_option maxHeartbeats 4000000
namespace Dn
open PySem PySem.Spec PyProof.Rows L2
/-! ### the pen: the first that a law makes -/
theorem cut_top (ns : List Int) (n : Nat) (h : ns.length ≤ n) : cutV (ns.map V.int) none (some (n : Int)) = ns.map V.int := by
  unfold cutV
  rw [HT.sIx_none, show HT.sIx (ns.map V.int).length (ns.map V.int).length (some (n : Int)) = min n (ns.map V.int).length from HT.sIx_nat _ _ _, List.drop_zero, List.length_map, Nat.min_eq_right h]
  exact List.take_of_length_le (by rw [List.length_map]; omega)
/-- the pen is made at p, its cells at c; all else stays -/
def PenMade (H : Hp) (ns : List Int) (c p : Addr) (H' : Hp) : Prop := H c = none ∧ H p = none ∧ c ≠ p ∧ H' p = some (.lst [.ref c, .int 0, .int 0]) ∧ H' c = some (.lst (ns.map V.int)) ∧ ∀ b o, H b = some o → H' b = some o
def spPen (K : PySem.W.Frag) : Sp := fun vs H Q _ => ∃ a ns, vs = [.ref a] ∧ SqL K H a (ns.map V.int) ∧ ns.length ≤ 63 ∧ ∀ c p H', PenMade H ns c p H' → Q (.ref p) H'
def tPen (K : PySem.W.Frag) : TE := fun σ H Q => ∃ (a : Addr) (x : Option V) (ns : List Int), σ = [some (.ref a), x] ∧ SqL K H a (ns.map V.int) ∧ ns.length ≤ 63 ∧ ∀ c p H', PenMade H ns c p H' → Q (.ref p) H'
section
variable {X : Cx}
/-- [[int(cell) for cell in script[:n]], 0, 0] -/
theorem pen_comp {n : Nat} {p1 p2 p3 p4 p5 p6 p7 p8 p9 p10 p11 : Pos} {j j1 j2 : Nat} {scope : Scope} (hN : X.N = [("script" : Str), "cell"]) (hc : X.calm = true) (hm : X.mg "int" = none) (hnn : 63 ≤ n)
    (hv : Vis X.env.scope "script" := by first | exact Or.inl rfl | exact Or.inr (Or.inl rfl) | exact Or.inr (Or.inr rfl)) (hg : ∀ s H C cl fp, Gl (X.blk s H scope (compEnvC scope cl C X.env) fp) "int" := by intros; rfl) (hvc : ∀ s H C cl fp, Vis (X.blk s H scope (compEnvC scope cl C X.env) fp).env.scope "cell" := by intros; exact Or.inl rfl) (hlc : ∀ s H C cl fp, Loc (X.blk s H scope (compEnvC scope cl C X.env) fp).env.scope "cell" := by intros; exact .inl rfl) (hfc : ∀ s H C cl fp, (X.blk s H scope (compEnvC scope cl C X.env) fp).env.scope.names.lookup ("cell" : Str) = some NameKind.local := by intros; rfl)
    (ok : BlkOk X.N X.env.scope scope [("cell", 1)] := by exact blkOk_by (by rfl))
    (he : starEach [.ListComp (.Call (.Name "int" p1) [.Name "cell" p2] [] p3) [⟨.Name "cell" p4, .Subscript (.Name "script" p5) (.Slice none (some (.Constant (.int n) j p6)) none p7) p8, [], 0⟩] scope p9, .Constant (.int 0) j1 p10, .Constant (.int 0) j2 p11] X.env = (false, eval (.ListComp (.Call (.Name "int" p1) [.Name "cell" p2] [] p3) [⟨.Name "cell" p4, .Subscript (.Name "script" p5) (.Slice none (some (.Constant (.int n) j p6)) none p7) p8, [], 0⟩] scope p9) X.env) :: starEach [.Constant (.int 0) j1 p10, .Constant (.int 0) j2 p11] X.env := by rfl) {pos : Pos} :
    PE X (.List [.ListComp (.Call (.Name "int" p1) [.Name "cell" p2] [] p3) [⟨.Name "cell" p4, .Subscript (.Name "script" p5) (.Slice none (some (.Constant (.int n) j p6)) none p7) p8, [], 0⟩] scope p9, .Constant (.int 0) j1 p10, .Constant (.int 0) j2 p11] pos) (tPen X.K) := by
  have nd : X.N.Nodup := by rw [hN]; decide
  refine L2.PE.imp (pe_lst (pa_cons (pe_lc (own := [("cell", 1)]) hc nd (pi_list (pe_slice sl_list (pe_var (i := 0) (by rw [hN]; rfl) hv (by decide) (by decide)) po_none (po_some pe_int))) ok (fun s H C cl fp => pg_name (i := 1) nd (by show X.N[1]? = _; rw [hN]; rfl) (hlc s H C cl fp) (.inr (hfc s H C cl fp))) (fun _ _ _ _ _ => pts_nil)
    (fun s H C cl fp => pe_callTy call_int1 (hg s H C cl fp) hm (by decide +kernel) (pa_cons (pe_var (i := 1) (by show X.N[1]? = _; rw [hN]; rfl) (hvc s H C cl fp) (by decide) (by decide)) pa_nil))) (pa_cons pe_int (pa_cons pe_int pa_nil)) he)) fun σ H Q hh => ?_
  obtain ⟨a, x, ns, rfl, hS, hn, q⟩ := hh
  refine ⟨.ref a, rfl, n, rfl, a, ns.map V.int, rfl, hS, fun s nS => ?_⟩
  rw [cut_top ns n (by omega)]
  refine ⟨s, rfl, ⟨ns.map V.int, .inl (.inl upd_same)⟩, fun d nd' => ?_⟩
  have nds : d ≠ s := fun z => by rw [z, upd_same] at nd'; cases nd'
  have nHd : H d = none := by rw [upd_ne nds] at nd'; exact nd'
  refine ⟨fun i m H2 => i + m = ns.length ∧ H2 s = some (.lst (ns.map V.int)) ∧ H2 d = some (.lst ((ns.take i).map V.int)) ∧ ∀ b o, H b = some o → H2 b = some o, ⟨ns.length, by omega, by rw [upd_ne (Ne.symm nds), upd_same], by rw [upd_same]; rfl, fun b o e => by rw [upd_ne (ne_of_none e nHd), upd_ne (ne_of_none e nS)]; exact e⟩, fun i m H2 ⟨em, es, ed, ek⟩ => ?_⟩
  by_cases hi : i < ns.length
  · have g : (ns.map V.int)[i]? = some (.int ns[i]) := by
      rw [List.getElem?_map, List.getElem?_eq_getElem hi]
      rfl
    refine .inr ⟨⟨_, _, .inl (.inl es), g⟩, fun H3 => H3 s = some (.lst (ns.map V.int)) ∧ H3 d = some (.lst ((ns.take (i + 1)).map V.int)) ∧ ∀ b o, H b = some o → H3 b = some o, fun H3 h3 => ⟨m - 1, by omega, by omega, h3⟩, fun v H3 hy => ?_⟩
    obtain ⟨rfl, fv⟩ := hy
    have ev := Option.some.inj ((fv _ (.inl (.inl es))).symm.trans g)
    subst ev
    refine ⟨rfl, ?_⟩
    unfold tYes
    dsimp only
    rw [if_pos rfl]
    refine ⟨.int ns[i], rfl, .inl ⟨_, rfl, _, ed, ?_, ?_, ?_, ?_⟩⟩
    · rw [List.length_map, List.length_take]
      exact Nat.lt_of_le_of_lt (Nat.min_le_left _ _) (small1000 (by omega))
    · rw [upd_ne (Ne.symm nds)]
      exact es
    · rw [upd_same, List.take_add_one, List.getElem?_eq_getElem hi, List.map_append]
      rfl
    · intro b o e
      rw [upd_ne (ne_of_none e nHd)]
      exact ek b o e
  · refine .inl ⟨⟨_, .inl (.inl es), by rw [List.length_map]; omega⟩, by show 3 ≤ sizeLine; decide, fun p np => ?_⟩
    have hp : H p = none := by
      cases z : H p with
      | none => rfl
      | some o => rw [ek p o z] at np; cases np
    have ei : ns.take i = ns := List.take_of_length_le (by omega)
    rw [ei] at ed
    have dp : d ≠ p := ne_of_none ed np
    exact q d p _ ⟨nHd, hp, dp, upd_same, by rw [upd_ne dp]; exact ed, fun b o e => by rw [upd_ne (ne_of_none e hp)]; exact ek b o e⟩
/-- [list(script[:n]), 0, 0] -/
theorem pen_list {n : Nat} {p1 p3 p5 p6 p7 p8 p10 p11 : Pos} {j j1 j2 : Nat} (hN : X.N = [("script" : Str)]) (hm : X.mg "list" = none) (hnn : 63 ≤ n) (hv : Vis X.env.scope "script" := by first | exact Or.inl rfl | exact Or.inr (Or.inl rfl) | exact Or.inr (Or.inr rfl)) (hg : Gl X "list" := by rfl)
    (he1 : starEach [.Subscript (.Name "script" p5) (.Slice none (some (.Constant (.int n) j p6)) none p7) p8] X.env = (false, eval (.Subscript (.Name "script" p5) (.Slice none (some (.Constant (.int n) j p6)) none p7) p8) X.env) :: starEach [] X.env := by rfl)
    (he : starEach [.Call (.Name "list" p1) [.Subscript (.Name "script" p5) (.Slice none (some (.Constant (.int n) j p6)) none p7) p8] [] p3, .Constant (.int 0) j1 p10, .Constant (.int 0) j2 p11] X.env = (false, eval (.Call (.Name "list" p1) [.Subscript (.Name "script" p5) (.Slice none (some (.Constant (.int n) j p6)) none p7) p8] [] p3) X.env) :: starEach [.Constant (.int 0) j1 p10, .Constant (.int 0) j2 p11] X.env := by rfl) {pos : Pos} :
    PE X (.List [.Call (.Name "list" p1) [.Subscript (.Name "script" p5) (.Slice none (some (.Constant (.int n) j p6)) none p7) p8] [] p3, .Constant (.int 0) j1 p10, .Constant (.int 0) j2 p11] pos) (fun σ H Q => ∃ (a : Addr) (ns : List Int), σ = [some (.ref a)] ∧ SqL X.K H a (ns.map V.int) ∧ ns.length ≤ 63 ∧ ∀ c p H', PenMade H ns c p H' → Q (.ref p) H') := by
  refine L2.PE.imp (pe_lst (pa_cons (pe_callTy call_list_of hg hm (by decide +kernel) (pa_cons (pe_slice sl_list (pe_var (i := 0) (by rw [hN]; rfl) hv (by decide) (by decide)) po_none (po_some pe_int)) pa_nil he1) (by decide) (by decide) he1 rfl) (pa_cons pe_int (pa_cons pe_int pa_nil)) he)) fun σ H Q hh => ?_
  obtain ⟨a, ns, rfl, hS, hn, q⟩ := hh
  refine ⟨.ref a, rfl, n, rfl, a, ns.map V.int, rfl, hS, fun s nS => ?_⟩
  rw [cut_top ns n (by omega)]
  refine ⟨s, ns.map V.int, rfl, .inl (.inl (.inl upd_same)), fun d nd' => ?_⟩
  have nds : d ≠ s := fun z => by rw [z, upd_same] at nd'; cases nd'
  have nHd : H d = none := by rw [upd_ne nds] at nd'; exact nd'
  refine ⟨by show 3 ≤ sizeLine; decide, fun p np => ?_⟩
  have ek : ∀ b o, H b = some o → upd (upd H s (.lst (ns.map V.int))) d (.lst (ns.map V.int)) b = some o := fun b o e => by rw [upd_ne (ne_of_none e nHd), upd_ne (ne_of_none e nS)]; exact e
  have hp : H p = none := by
    cases z : H p with
    | none => rfl
    | some o => rw [ek p o z] at np; cases np
  have dp : d ≠ p := fun z => by rw [← z, upd_same] at np; cases np
  exact q d p _ ⟨nHd, hp, dp, upd_same, by rw [upd_ne dp, upd_same], fun b o e => by rw [upd_ne (ne_of_none e hp)]; exact ek b o e⟩
end
end Dn
end

section
set_option Elab.async false
set_option linter.all false
set_option maxRecDepth 100000
set_option maxHeartbeats 4000000
namespace Dn
open PySem PySem.Spec PyProof.Rows L2
/-! ### a def by its raw reading; the pen's def, the law's def -/
section
variable {P : Program} {w : World} {K : PySem.W.Frag} {mg : Str → Option Value} {base : Heap} {k : Nat}
theorem fnRaw {x qual : Str} {st : Stmt} {f : Addr} {fd : FuncData} {N ps : List Str} {sp : Sp} (F : Fun K x qual st f fd) (S : FnScope N ps (defScope st)) (hl : ∀ vs H Q E, sp vs H Q E → vs.length = ps.length)
    (hbody : ∀ (cdv : Value) (A : Around) (outer : List Env) (s : Shared) (H : Hp) (vs : List V) (Q : VK) (E : XK), RoomG k (A.deeper (envOfC qual (defScope st) s.heap.objs.size f cdv)) → fd.code = cdv →
      Takes (cxOf (L2.CX P w) P w K mg base N qual (defScope st) f cdv A outer s H E) (fun cls d _ H' => E cls d H') → sp vs H Q E →
      ∃ t, PSs (cxOf (L2.CX P w) P w K mg base N qual (defScope st) f cdv A outer s H E) (defBody st) t ∧ t { nx := fun _ H' => Q .non H', rt := Q } (L2.start N vs) H) : FnG P w K mg base (k + 1) f fd ps sp := by
  obtain ⟨oc, od, kV, doc, pm, an, cdv, ct, osl, rfl, lk, hcd⟩ := F.ex
  exact ⟨hl, fun A outer s H args us vs Q E hr e0 hbd rv h => LamX.run_ofS (N := N) lk hcd S hr.r e0 hbd rv (hl vs H Q E h) fun hr' => hbody cdv A outer s H vs Q E ⟨hr', hr.g⟩ rfl (takes_of rfl rfl rfl rfl) h⟩
theorem spPen_len {K : PySem.W.Frag} : ∀ vs H Q E, spPen K vs H Q E → vs.length = [("script" : Str)].length := fun vs H Q E ⟨a, ns, e, _⟩ => by rw [e]; rfl
/-- the script's wish: law(script) is True -/
def spLaw (K : PySem.W.Frag) (mg : Str → Option Value) : Sp := fun vs H Q _ => ∃ (a : Addr) (ns : List Int), vs = [.ref a] ∧ SqL K H a (ns.map V.int) ∧ ns.length ≤ 63 ∧ (∀ z ∈ ns, Builtin.Int.intBits z ≤ 1048576) ∧ TabsK K mg H ∧ ∀ H', Q (.bl true) H'
theorem spLaw_len {K : PySem.W.Frag} : ∀ vs H Q E, spLaw K mg vs H Q E → vs.length = [("script" : Str)].length := fun vs H Q E ⟨a, ns, e, _⟩ => by rw [e]; rfl
theorem drs_ints {pa : Addr} {Av : List Addr} {H : Hp} : ∀ ns : List Int, DRs K mg pa Av H (ns.map V.int) (ns.map D.int)
  | [] => .nil
  | n :: ns => .cons (.int n) (drs_ints ns)
/-- the state behind pen = _law_pen(script) -/
def rho0 (n : Nat) : List Sl := (List.replicate n Sl.none).set 1 (.val .pen)
def pen0 (ns : List Int) : List D := [.lst (ns.map .int), .int 0, .int 0]
theorem pen_state {N : List Str} {H H' : Hp} {a c p : Addr} {ns : List Int} (hN : 2 ≤ N.length) (m : PenMade H ns c p H') (t : TabsK K mg H) :
    Rel K mg p [p] ((L2.start N [.ref a]).set 1 (some (.ref p))) H' (rho0 N.length) (pen0 ns) ∧ SI p ⟨H', [p], []⟩ [p] ((L2.start N [.ref a]).set 1 (some (.ref p))) (rho0 N.length) H' := by
  obtain ⟨h1, h2, h3, h4, h5, h6⟩ := m
  have bs : Base p [p] H' := ⟨List.mem_singleton.mpr rfl, fun b hb => by rw [List.mem_singleton.mp hb, h4]; simp⟩
  have pk : PenOk K mg p [p] H' (pen0 ns) := ⟨⟨_, h4, .cons (.lst h5 (fun z => h3 (List.mem_singleton.mp z)) (drs_ints ns)) (.cons (.int 0) (.cons (.int 0) .nil))⟩, t.ext h6⟩
  have hl : (L2.start N [.ref a]).length = N.length := start_len (by omega)
  have noown : ∀ i ds, (rho0 N.length)[i]? = some (Sl.own ds) → False := fun i ds z => by
    unfold rho0 at z
    rcases set_cases z with ⟨_, e, _⟩ | ⟨_, z⟩
    · cases e
    · rw [List.getElem?_replicate] at z
      split at z <;> cases z
  refine ⟨(rel_empty bs pk hl).setV .pen, ⟨fun _ _ _ _ h _ => h, fun b ⟨i, ds, z, _⟩ => (noown i ds z).elim, fun b h => .inl h, fun b h => .inl h, fun b h => h, bs.liv⟩⟩
/-- the law's def: pen = _law_pen(script), then the rest -/
theorem law_body {X : Cx} {W : WX} {pos p1 p2 p3 p4 : Pos} {k : Nat} {fp : Addr} {fdp : FuncData} {rest : List Stmt} {f : FS} {vs : List V} {H : Hp} {Q : VK} {E : XK} {x : Str} (hN : X.N.Nodup) (h0 : X.N[0]? = some ("script" : Str)) (h1 : X.N[1]? = some ("pen" : Str)) (G : FnG X.prog X.w X.K X.mg X.base k fp fdp ["script"] (spPen X.K)) (hr : RoomG k X.A)
    (hm : X.mg x = some (.ref fp)) (hk : PySem.W.keepIn X.K (.ref fp) = true) (hb : L2.Binds X.K fdp ["script"] []) (tk : Takes X W) (hrest : DSs X W rest f)
    (sp : spLaw X.K X.mg vs H Q E) (plain : ∀ ns : List Int, ns.length ≤ 63 → (∀ z ∈ ns, Builtin.Int.intBits z ≤ 1048576) → ∃ ρ p, f (rho0 X.N.length) (pen0 ns) = .ok (.rt (.bl true), ρ) p)
    (hg : Gl X x := by rfl) (hdb : (x == ("__debug__" : Str)) = false := by decide) (hv : Vis X.env.scope "script" := by first | exact Or.inl rfl | exact Or.inr (Or.inl rfl) | exact Or.inr (Or.inr rfl)) (hl : Loc X.env.scope "pen" := by first | exact .inl rfl | exact .inr rfl) (hf : X.fn "pen" = true ∨ X.env.scope.names.lookup ("pen" : Str) = some .local := by first | exact .inl rfl | exact .inr rfl)
    (hs : swapsWith (.Call (.Name x p1) [.Name "script" p2] [] p3) (some (.Name "pen" p4)) pos.line X.env = pure false := by rfl) (he : starEach [.Name "script" p2] X.env = (false, eval (.Name "script" p2) X.env) :: starEach [] X.env := by rfl) (hpl : (backTo p3 (starEach [] X.env)).any (·.1) = false := by rfl) :
    ∃ t, PSs X (.Assign [.Name "pen" p4] (.Call (.Name x p1) [.Name "script" p2] [] p3) pos :: rest) t ∧ t { nx := fun _ H' => Q .non H', rt := Q } (L2.start X.N vs) H := by
  obtain ⟨a, ns, rfl, hS, hn, hbits, ht, q⟩ := sp
  refine ⟨_, pss_cons (ps_set hN h1 hl (pe_callG (E := fun σ cls d H' => W cls d σ H') G hr hg hm hk hb (fun σ => passAt tk σ) (pa_cons (pe_var h0 hv (by decide) (by decide)) pa_nil he) hdb he hpl) hs hf) hrest, ?_⟩
  have hN2 : 2 ≤ X.N.length := by
    have := (List.getElem?_eq_some_iff.mp h1).1
    omega
  refine ⟨.ref a, ?_, a, ns, rfl, hS, hn, fun c p H' m => ?_⟩
  · unfold L2.start
    rfl
  · obtain ⟨r, s⟩ := pen_state (a := a) hN2 m ht
    obtain ⟨ρ, p', e⟩ := plain ns hn hbits
    refine ⟨p, [p], rho0 X.N.length, pen0 ns, ⟨H', [p], []⟩, r, s, ?_⟩
    rw [e]
    intro Av' σ' ρ' v H2 r2 s2 hd
    cases hd
    exact q H2
end
end Dn
end

section
set_option Elab.async false
set_option linter.all false
set_option maxRecDepth 100000
set_option maxHeartbeats 4000000
namespace Dn
open PySem PySem.Spec PyProof.Rows L2
/-! ### a built-in that an import has brought -/
theorem lamB_dflt {x : Str} {params : Arguments} {body : Expr} {scope : Scope} (h : ∀ (s : Shared) (q : Str) (cl : List (Str × Addr)) (dV doc pm cv ctv : Value) (T0 : Addr) (v : Value), dV = .ref T0 → s.heap.get? T0 = some (PySem.W.kdv_tup [v]) →
    BindsTo s (PySem.W.kdv_fn "<lambda>" q params (.expr body) scope cl dV doc pm cv ctv) ⟨[], []⟩ [(x, v)]) : LamB (some x) params body scope := fun s q cl dV doc pm cv ctv fr H hd => by
  obtain ⟨T0, v, e, hT, _⟩ := (show ∃ T0 v, dV = .ref T0 ∧ s.heap.get? T0 = some (PySem.W.kdv_tup [v]) ∧ H T0 = none ∧ T0 ∉ fr from hd)
  refine ⟨[(x, v)], h s q cl dV doc pm cv ctv T0 v e hT, fun y hy => ?_⟩
  rw [List.mem_singleton.mp hy]
section
variable {X : Cx} {W : WX} {pos : Pos}
theorem pe_callI {x : Str} {p : Pos} {e : Expr} {es : List Expr} {id : String} {r : List V → Hp → VK → Prop} {t : TA} (hc : CallR X (.builtin id) r) (hg : Gl X x) (hm : X.mg x = some (.builtin id)) (ha : PA X (e :: es) t) (hdb : (x == ("__debug__" : Str)) = false := by decide)
    (he : starEach (e :: es) X.env = (false, eval e X.env) :: starEach es X.env := by rfl) (hpl : (backTo pos (starEach es X.env)).any (·.1) = false := by rfl) : PE X (.Call (.Name x p) (e :: es) [] pos) (tCB r t) := by
  refine ⟨fun pins s σ H Q I h => ?_⟩
  refine wpAny_Call_Name_kw (ld_glob I hg hm ?_ hdb)
  refine PyProof.Rows.callWith_builtin1 (thn (ha.run pos pins s σ H _ I h) fun us s1 ⟨vs, H1, I1, rv, q⟩ => hc pins s1 σ H1 vs us Q I1 rv q) he hpl
theorem de_callI {x : Str} {p : Pos} {e : Expr} {es : List Expr} {id : String} {r : List V → Hp → VK → Prop} {g : List D → List D → R D} {f : FL} (hc : CallR X (.builtin id) r) (hr : CallD X.K X.mg r g) (hm : X.mg x = some (.builtin id)) (ha : DA X W (e :: es) f) (hg : Gl X x := by rfl)
    (hdb : (x == ("__debug__" : Str)) = false := by decide)
    (he : starEach (e :: es) X.env = (false, eval e X.env) :: starEach es X.env := by rfl) (hpl : (backTo pos (starEach es X.env)).any (·.1) = false := by rfl) : DE X W (.Call (.Name x p) (e :: es) [] pos) (fCall g f) := (pe_callI hc hg hm ha hdb he hpl).imp (td_call hr)
end
end Dn
namespace Dn
open PySem PySem.Spec PyProof.Rows L2
theorem tabF_at {K : PySem.W.Frag} {mg : Str → Option Value} {x : Str} {f c P : Addr} {oc : Value} {od : Option Addr} {fd : FuncData} {sl : Array (Option Value)} {q : Str} (h1 : mg x = some (.ref f)) (h2 : K.lookup f = some ⟨oc, od, .func fd, sl⟩) (h3 : fd.code = .ref c) (h4 : fd.qualname = q) (h5 : tabOf K c = some P) :
    tabF K mg x = [(P, q ++ (".<locals>." : Str) ++ ("<lambda>" : Str))] := by
  unfold tabF
  rw [h1]
  dsimp only
  rw [h2]
  dsimp only
  rw [h3]
  dsimp only
  rw [h5, h4]
end Dn
end

section
set_option Elab.async false
set_option linter.all false
set_option maxRecDepth 100000
set_option maxHeartbeats 4000000
namespace Dn
open PySem PySem.Spec PySem.W PyProof.Rows
theorem rz_mk {K : Frag} {prog : Program} {C fI cda cc : Addr} {params : Arguments} {scope : Scope} {msg f nm q qual file : Str} {N : Addr} {bs bm : List Value} {sn : List Str} {sub : List Value} {ab : Bool} {col : Option Bool} {dd : Option Addr} {k0 k1 k2 k3 k5 : Option Value}
    {oc kV doc pm ct occ cl : Value} {od an odc cld : Option Addr} {osl osc csl : Array (Option Value)} {p0 p1 p2 p3 p4 p5 p6 p7 p8 p9 : Pos} {j : Nat} {vs : Array Value} {tf : Tok}
    (xL : K.lookup C = some (excClassObj nm q C N bs bm true sn sub ab col dd k0 k1 k2 k3 k5 "ValueError.__new__")) (vE : PySem.HandSPX.refsVE bm = true) (sa : findIn K (.ref C) "__setattr__" = some (some (.builtin "object.__setattr__"))) (exC : subIn K (.ref C) (.type "BaseException") = some true)
    (tyC : typeIn K (.ref C) = some (.type "type")) (kC : keepIn K (.ref C) = true) (ini : findIn K (.ref C) "__init__" = some (some (.ref fI))) (tI : typeIn K (.ref fI) = some (.type "function"))
    (lI : K.lookup fI = some ⟨oc, od, .func (ksFn "__init__" qual params [.Expr (.Call (.Attribute (.Call (.Name "super" p0) [] [] p1) "__init__" p2) [.Constant (.str msg) j p3] [] p4) p5, .Assign [.Attribute (.Name "self" p6) f p7] (.Name "part" p8) p9] scope .none kV doc pm an (.ref cda) ct cc), osl⟩)
    (cI : codeIn K (.ref cda) qual = true) (lcd : K.lookup cda = some ⟨occ, odc, .fields vs, osc⟩) (v2 : vs[2]? = some (.str file tf)) (hfile : ((prog.main.file : Str) == file) = true) (lcc : K.lookup cc = some ⟨cl, cld, .cell (some (.ref C)), csl⟩)
    (hev : ∀ env : Env, ∃ pl : Sem Bool, eval (.Call (.Attribute (.Call (.Name "super" p0) [] [] p1) "__init__" p2) [.Constant (.str msg) j p3] [] p4) env = (do
      let ov ← attributeBase (.Call (.Name "super" p0) [] [] p1) "__init__" env (eval (.Call (.Name "super" p0) [] [] p1) env)
      standAt p2.atName
      let (f, first) ← holding [ov] (getMethod ov "__init__" pl)
      callWith p4 f first (backTo p4 (starEach [.Constant (.str msg) j p3] env)) []))
    (hd : (params.posonlyargs ++ params.args).head?.map (·.arg) = some "self")
    (bind : ∀ (qual : Str) (kV doc pm : Value) (an : Option Addr) (cdv ct : Value) (cc : Addr) (b : List Stmt) (x y : Value), bindArgs (ksFn "__init__" qual params b scope .none kV doc pm an cdv ct cc) ⟨[x, y], []⟩ = pure [(("self" : Str), x), (("part" : Str), y)])
    (sc : scope.names.lookup ("super" : Str) = some .globalImplicit ∧ scope.names.lookup ("__class__" : Str) = some .free ∧ scope.names.lookup ("self" : Str) = some .local ∧ scope.names.lookup ("part" : Str) = some .local ∧ scope.kind = .function ∧ scope.isCoroutine = false ∧ scope.isGenerator = false ∧ (scope.names.all fun x => x.2 != .cell) = true)
    (al : alongIn K "__init__" (((Value.ref C :: bm).dropWhile (· != .ref C)).drop 1) = some (some (.builtin "ValueError.__init__"))) (third : nsIn K cStatics "thirdparty.any" = some none) (subVE : subIn K (.ref C) (.type "ValueError") = some true)
    (self : mroIn K C (.ref C) = some true) (noF : findIn K (.ref C) f = some none) (htop : (prog.main.scope.names.lookup ("super" : Str)).isSome = false) : RzC K prog C fI params scope msg f where
  oex := ⟨⟨nm, q, N, bs, bm, sn, sub, ab, col, dd, k0, k1, k2, k3, k5, xL, vE⟩, sa, exC, tyC, kC⟩
  ini := ini
  tI := tI
  fn := ⟨oc, od, qual, kV, doc, pm, an, cda, cc, ct, osl, p0, p1, p2, p3, p4, p5, p6, p7, p8, p9, j, occ, odc, vs, osc, file, tf, cl, cld, csl, lI, cI, lcd, v2, hfile, lcc, hev⟩
  hd := hd
  bind := bind
  sc1 := sc.1
  sc2 := sc.2.1
  sc3 := sc.2.2.1
  sc4 := sc.2.2.2.1
  sck := sc.2.2.2.2.1
  sco := sc.2.2.2.2.2.1
  scg := sc.2.2.2.2.2.2.1
  scc := fun x hx z => by
    have h := List.all_eq_true.mp sc.2.2.2.2.2.2.2 x hx
    rw [z] at h
    cases h
  along := ⟨{ name := nm, bases := bs, mro := .ref C :: bm, ns := N, qualname := q, hasDict := true, slotNames := sn, subclasses := sub, abstract := ab, collection := col, hasDel := false }, by unfold clsIn; rw [xL] <;> rfl, al⟩
  third := third
  subVE := subVE
  self := self
  noF := noF
  htop := htop
end Dn
namespace Dn
open PySem PySem.Spec PyProof.Rows L2
/-! ### a tuple of targets, from a tuple or a list -/
def hSq (n : Nat) (h : HGs) : HG := fun d ρ => match d with
  | .tup ds => if ds.length = n then h ds ρ else none
  | .lst ds => if ds.length = n then h ds ρ else none
  | _ => none
section
variable {X : Cx} {pos : Pos}
theorem dg_sq {es : List Expr} {k n : Nat} {is : List Nat} {h : HGs} (hc : X.calm = true) (hg : DGs X es is h) (hn : (assignEach es X.env).length = n := by rfl) (hst : (assignEach es X.env).findIdx? (·.1) = none := by rfl) : DG X (.Tuple es k pos) is (hSq n h) :=
  ⟨fun pins s σ H v u Q I r q => by
    obtain ⟨pa, Av, ρ, p, d, ρ', rl, hd, e, kk⟩ := q
    cases d with
    | tup ds => exact (dg_tup hc hg hn hst).run pins s σ H v u Q I r ⟨pa, Av, ρ, p, .tup ds, ρ', rl, hd, e, kk⟩
    | lst ds => exact (dg_lst hc hg hn hst).run pins s σ H v u Q I r ⟨pa, Av, ρ, p, .lst ds, ρ', rl, hd, e, kk⟩
    | _ => cases e⟩
end
end Dn
end

section
set_option Elab.async false
set_option linter.all false
namespace Dn
open PySem PySem.Spec PyProof.Rows L2
/-! ### a display of a dict: texts as keys, integers as values, all constants -/
def fDisp (kds : List (Str × Int)) : FE := fun _ p => .ok (.dk (kds.map fun kd => Sum.inr kd.1) (kds.map fun kd => .int kd.2)) p
def cPair (kd : Str × Int) : TE × TE := (tC (.str kd.1), tC (.int kd.2))
theorem tPairs_c : ∀ (kds : List (Str × Int)) (σ : L2.St) (H : Hp) (Q : List (V × V) → Hp → Prop), Q (kds.map fun kd => (V.str kd.1, V.int kd.2)) H → tPairs (kds.map cPair) σ H Q
  | [], _, _, _, h => h
  | kd :: kds, σ, H, Q, h => tPairs_c kds σ H (fun ps H' => Q ((V.str kd.1, V.int kd.2) :: ps) H') h
section
variable {X : Cx} {W : WX} {pos p1 p2 : Pos}
theorem pps_c {ks : List (Option Expr)} {vs : List Expr} {kds : List (Str × Int)} {x : Str} {i : Int} {j1 j2} (h : PPs X pos ks vs (kds.map cPair)) : PPs X pos (some (.Constant (.str x) j1 p1) :: ks) (.Constant (.int i) j2 p2 :: vs) (((x, i) :: kds).map cPair) := pps_cons pe_str pe_int h
theorem upd_upd {H : Hp} {p : Addr} {a b : HO} : upd (upd H p a) p b = upd H p b := by
  funext x
  unfold upd
  by_cases h : x = p <;> simp [h]
theorem de_disp {keys : List (Option Expr)} {values : List Expr} {kds : List (Str × Int)} (h : PPs X pos keys values (kds.map cPair)) (hall : keys.all (·.isSome) = true := by rfl) (hl : keys.length = values.length := by rfl) (h0 : keys ≠ [] := by simp) (h15 : keys.length ≤ 15 := by decide) (hk : kds.length ≤ 15 := by decide)
    (hm : mergeK [] (kds.map fun kd => ((Sum.inr kd.1 : Key), V.int kd.2)) = kds.map fun kd => ((Sum.inr kd.1 : Key), V.int kd.2) := by decide) : DE X W (.Dict keys values pos) (fDisp kds) :=
  (pe_disp h hall hl h0 h15).imp fun σ H Q h => by
    obtain ⟨pa, Av, ρ, p, r, h⟩ := h
    intro a ha
    refine tPairs_c kds σ _ _ ⟨upd_same, kds.map fun kd => ((Sum.inr kd.1 : Key), V.int kd.2), by rw [List.map_map]; rfl, by rw [List.length_map]; exact hk, ?_⟩
    rw [hm, upd_upd]
    refine h _ _ (Ext.new ha) (.dk upd_same (r.base.fresh ha) (by rw [List.map_map]; rfl) (by rw [List.map_map]) ?_) (r.pen.new r.base ha)
    show DRs _ _ _ _ _ (kds.map ((fun kv : Key × V => kv.2) ∘ fun kd => ((Sum.inr kd.1 : Key), V.int kd.2))) (kds.map fun kd => D.int kd.2)
    have e1 : (kds.map ((fun kv : Key × V => kv.2) ∘ fun kd => ((Sum.inr kd.1 : Key), V.int kd.2))) = (kds.map (·.2)).map V.int := by rw [List.map_map]; rfl
    have e2 : (kds.map fun kd => D.int kd.2) = (kds.map (·.2)).map D.int := by rw [List.map_map]; rfl
    rw [e1, e2]
    exact DRs.ofInts _
/-! ### list(range(a, b)) -/
theorem dl_listRange2 {a b : Expr} {q1 q2 q3 : Pos} {f g : FE} (hc : X.calm = true) (hml : X.mg "list" = none) (hmr : X.mg "range" = none) (ha : DE X W a f) (hb : DE X W b g) (hg : Gl X "list" := by rfl) (hgr : Gl X "range" := by rfl) (na : starEach [a, b] X.env = (false, eval a X.env) :: starEach [b] X.env := by rfl)
    (nb : starEach [b] X.env = (false, eval b X.env) :: starEach [] X.env := by rfl) (hp : (backTo q3 (starEach [b] X.env)).any (·.1) = false := by rfl) :
    DL X W (.Call (.Name "list" q1) [.Call (.Name "range" q2) [a, b] [] q3] [] pos) (fRgL2 f g) := (pe_listRg hc hg hml (prg_2 hgr hmr ha hb na nb hp)).imp fun σ H Q h => by
  obtain ⟨pa, Av, ρ, p, r, h⟩ := h
  refine seqE (Z := fun H r => PL1 X.K X.mg pa Av W σ H Q r) r (fun _ _ _ _ h => h) id h fun d u1 v H1 e1 hd r1 h1 => ?_
  refine seqE (Z := fun H r => PL1 X.K X.mg pa Av W σ H Q r) r1 (fun _ _ _ _ h => h) id (PL1.later e1 r1.pen.live h1) fun e u2 w H2 e2 he r2 h2 => ?_
  have h2 := PL1.later e2 r2.pen.live h2
  cases d with
  | int m =>
    cases e with
    | int n =>
      cases hd; cases he
      obtain ⟨q, h2⟩ := D.ite_ok (Z := PL1 X.K X.mg pa Av W σ H2 Q) id h2
      exact ⟨m, n, rfl, rfl, ⟨by omega, by omega, by omega, by omega, by omega⟩, ans_lst r2.base r2.pen (drs_rg (K := X.K) (mg := X.mg) pa Av H2 m n) h2⟩
    | _ => exact h2.elim
  | _ => exact h2.elim
end
end Dn
end

section
set_option Elab.async false
set_option linter.all false
set_option maxRecDepth 100000
namespace Dn
open PySem PySem.Spec PyProof.Rows L2 SS
section
variable {P : Program} {w : World} {A : Around} {E : Value → Shared → Prop} {z : Shared}
set_option maxHeartbeats 3200000 in
theorem set_of_ints {lz : Addr} {its : Array Value} (ns : List Int) {Q : Value → Shared → Prop} (hh : A.handled = none) (hl : z.heap.IsList lz its) (hit : IntsAre its.toList ns) (hb : ns.length + 1 < scanBound)
    (h : ∀ (hh2 : Heap) (tk c : Nat), SetR w hh2 z.heap.objs.size (fun j => decide (j ∈ ns)) c → c ≤ ns.length → (∀ b o, z.heap.get? b = some o → hh2.get? b = some o) → Q (.ref z.heap.objs.size) { z with heap := hh2, toks := tk }) :
    wpAny (model P w) A (call (.type "set") [.ref lz]) Q E z := by
  have sz1 : its.size = ns.length := by
    have q := IntsAre.length hit
    rw [Array.length_toList] at q
    exact q
  obtain ⟨c, rs, m1o⟩ := F.called_set.mro
  have mad := F.called_set.made
  have sbb := F.called_set.sub
  refine wpAny_call (codeAny_of_tree ?_)
  show wpAny _ _ (callAny (.type "set") _) _ _ _
  refine wpAny_pure ⟨Code.quiet_builtin _ (by decide +kernel), codeAny_builtin F.entry_type_call ?_⟩
  rw [Around.under_plain (weight_type_call_type "set" [.ref lz] []) rfl]
  have q1 := F.called_set.notType
  have q2 := F.called_set.canCreate
  have ct1 := F.typeCall_set_1 (.ref lz)
  repeat (any_goals (first | assumption | wp_step))

  refine codeAny_mono (code_set_led1 (.ref lz) (E := E) (Q₁ := fun obj z1 => obj = .ref z.heap.objs.size ∧ z1 = { z with heap := z.heap.push { cls := .type "set", dict := none, data := .set #[] 0 (.fresh 0 0 (!w.params.followText "set-order")) } }) ⟨rfl, rfl⟩) fun r z1 hq => ?_
  cases r with
  | error e => exact hq
  | ok fw =>
    cases fw with
    | ret obj =>
      obtain ⟨rfl, rfl⟩ := hq
      have kS : (z.heap.push { cls := .type "set", dict := none, data := .set #[] 0 (.fresh 0 0 (!w.params.followText "set-order")) }).get? z.heap.objs.size = some { cls := .type "set", dict := none, data := .set #[] 0 (.fresh 0 0 (!w.params.followText "set-order")) } := Heap.get?_push_size _ rfl
      have kT : Shared.TypeIs { z with heap := z.heap.push { cls := .type "set", dict := none, data := .set #[] 0 (.fresh 0 0 (!w.params.followText "set-order")) } } (.ref z.heap.objs.size) "set" := ⟨_, kS, rfl⟩
      have li1 := F.called_set.init.lookup
      have bi1 := F.called_set.init.bind (.ref z.heap.objs.size)
      repeat (any_goals (first | assumption | wp_step))

      refine codeAny_mono (codeAny_call_builtin (R := wants (fun r zz => r = .none ∧ ∃ hh2 tk c, zz = { z with heap := hh2, toks := tk } ∧ SetR w hh2 z.heap.objs.size (fun j => decide (j ∈ ns)) c ∧ c ≤ ns.length ∧
          (∀ b o, z.heap.get? b = some o → hh2.get? b = some o)) E) F.called_set.init.plain F.entry_set_init (check_set_init_1 kT ?_)) fun rr zz hrr => ?_
      · obtain ⟨o1, ho1, hc1, n1, hd1⟩ := hl
        obtain ⟨oc, od, oa, os1⟩ := o1
        simp only at hc1 hd1
        subst hc1; subst hd1
        have ho2 : (z.heap.push { cls := .type "set", dict := none, data := .set #[] 0 (.fresh 0 0 (!w.params.followText "set-order")) }).get? lz = some { cls := .type "list", dict := od, data := .seq its n1, slots := os1 } := Heap.get?_push_of_some _ ho1
        have su1 := F.sub_list_set
        have su2 := F.sub_list_frozenset
        have ne1 : (Value.type "list" == Value.type "dict") = false := by decide
        have hz1 : (z.heap.push { cls := .type "set", dict := none, data := .set #[] 0 (.fresh 0 0 (!w.params.followText "set-order")) }).IsList lz its := ⟨_, ho2, rfl, n1, rfl⟩
        unfold Builtin.«set.__init__» noKeywords Builtin.Frozenset.updateFrom
        generalize hPI : pyIter = PI
        wp_walk
        subst hPI

        refine wpAny_pyIter_list hz1 ?_
        refine wpAny_bind (wpAny_runValue ?_)
        have lt1 : lz < z.heap.objs.size := Heap.lt_size ho1
        have hh0 : A.in1.in1.in1.handled = none := by simp [hh]
        have zz1 : (z.heap.push { cls := .type "set", dict := none, data := .set #[] 0 (.fresh 0 0 (!w.params.followText "set-order")) }).objs.size = z.heap.objs.size + 1 := Heap.size_push ..
        have neI : lz ≠ (z.heap.push { cls := .type "set", dict := none, data := .set #[] 0 (.fresh 0 0 (!w.params.followText "set-order")) }).objs.size := by
          rw [Heap.size_push]; exact Nat.ne_of_lt (Nat.lt_succ_of_lt lt1)
        have nSf : z.heap.objs.size ∉ [(z.heap.push { cls := .type "set", dict := none, data := .set #[] 0 (.fresh 0 0 (!w.params.followText "set-order")) }).objs.size, lz] := by
          rw [Heap.size_push]; simp only [List.mem_cons, List.mem_singleton, List.not_mem_nil, or_false, not_or]
          exact ⟨Nat.ne_of_lt (Nat.lt_succ_self _), Nat.ne_of_gt lt1⟩
        have vl1 : ∀ (i : Nat) (v : Value), its[i]? = some v → ∃ k t, ns[i]? = some k ∧ v = .int k t := fun i v hv => by
          have hy : i < ns.length := by rw [← sz1]; exact (Array.getElem?_eq_some_iff.mp hv).1
          obtain ⟨t, e⟩ := PyProof.Rows.IntsAre.int_at hit i v (by rw [Array.getElem?_toList]; exact hv)
          refine ⟨ns[i], t, List.getElem?_eq_getElem hy, ?_⟩
          rw [e, List.getD_eq_getElem?_getD, List.getElem?_eq_getElem hy] <;> rfl
        refine set_update_ints ((Walks.list hh0 _ lz neI its).toS) z.heap.objs.size
          nSf ns sz1 hb vl1 (its.size - 0) 0 _ (by omega) (Nat.zero_le _)
          ⟨⟨_, Heap.get?_push_size _ rfl, rfl, rfl⟩, (hz1.push _)⟩ ?hS0 ?hR
        case hS0 =>
          have gt1 : ((z.heap.push { cls := .type "set", dict := none, data := .set #[] 0 (.fresh 0 0 (!w.params.followText "set-order")) }).push { cls := .type "list_iterator", data := .fields #[.ref lz, .int 0 0] }).get? z.heap.objs.size
              = some { cls := .type "set", dict := none, data := .set #[] 0 (.fresh 0 0 (!w.params.followText "set-order")) } := Heap.get?_push_of_some _ kS
          exact ⟨0, Nat.le_refl 0, setR_new_at gt1⟩
        case hR =>
          intro z' c' mv hcc kS'
          obtain ⟨hh2, g2, dd, tk2, oss⟩ := z'
          have eg1 : g2 = z.gens := mv.gens
          have ed1 : dd = z.drawn := mv.drawn
          have eo1 : oss = z.os := mv.os
          subst eg1; subst ed1; subst eo1
          show wpAny _ _ _ _ _ _
          refine wpAny_pure ?_
          show wpAny _ _ (ret Value.none) _ _ _
          rw [sz1] at hcc
          refine wpAny_pure ⟨rfl, hh2, tk2, c', rfl, kS', hcc, fun b o e => ?_⟩
          have hb8 : b < z.heap.objs.size := Heap.lt_size e
          have hb5 : b ≠ z.heap.objs.size := Nat.ne_of_lt hb8
          have hb6 : b ≠ (z.heap.push { cls := .type "set", dict := none, data := .set #[] 0 (.fresh 0 0 (!w.params.followText "set-order")) }).objs.size := by
            rw [Heap.size_push]; exact Nat.ne_of_lt (Nat.lt_succ_of_lt hb8)
          exact mv.heap b o (by simp only [List.mem_cons, List.mem_singleton, List.not_mem_nil, or_false, not_or]; exact ⟨hb5, hb6⟩) (Heap.get?_push_of_some _ (Heap.get?_push_of_some _ e))

      · cases rr with
        | error e => exact hrr
        | ok fv =>
          cases fv with
          | ret r =>
            obtain ⟨rfl, hh2, tk, c', rfl, kS', hcc, hkk⟩ := hrr
            repeat (any_goals (first | assumption | wp_step))
            exact h _ _ _ kS' hcc hkk
          | _ => exact hrr.elim
    | _ => exact hq.elim

end
end Dn
end

section
set_option Elab.async false
set_option linter.all false
namespace Dn
open PySem PySem.Spec PyProof.Rows L2
/-! ### set(list of ints), set(text) by the heap -/
def rSetI (K : PySem.W.Frag) (w : World) : List V → Hp → VK → Prop := fun xs H Q => ∃ (a : Addr) (ns : List Int), xs = [V.ref a] ∧ SqL K H a (ns.map V.int) ∧ ns.length < 64 ∧ ∀ (p : Addr) (c : Nat), H p = none → c ≤ ns.length → Q (.ref p) (upd H p (SetO w p (fun j => decide (j ∈ ns)) c))
theorem ints_of_vals : ∀ {ns : List Int} {us : List Value}, Vals (ns.map V.int) us → PyProof.Rows.IntsAre us ns
  | [], _, .nil => .nil
  | n :: ns, _, .cons r t => by
    obtain ⟨k, rfl⟩ := r
    exact .cons n k (ints_of_vals t)
section
variable {X : Cx} {W : WX} {pos : Pos}
theorem cr_setI (hc : X.calm = true) : CallR X (.type "set") (rSetI X.K X.w) := by
  intro pins s σ H xs us Q I r h
  obtain ⟨a, ns, rfl, hq, hl, q⟩ := h
  rw [Vals.ref1 r]
  obtain ⟨its, ri, pl, hz⟩ := I.list hq
  refine set_of_ints ns (I.ok.hd hc) pl.isList (by simpa using ints_of_vals ri) (by unfold scanBound; omega) fun h' tk c hS hle hk => ?_
  exact ⟨.ref _, upd H s.heap.objs.size (SetO X.w s.heap.objs.size (fun j => decide (j ∈ ns)) c), I.laid (t' := tk) (fun b u e => hk b u e) (Nat.le_refl _) (setO_new hS), rfl, q _ c (I.hok.fresh (Nat.le_refl _)) hle⟩
/-! ### sorted(set(e)) -/
def dedI (ns : List Int) : List Int := ns.foldr (fun x acc => if x ∈ acc then acc else x :: acc) []
theorem dedI_mem (k : Int) : ∀ ns : List Int, k ∈ dedI ns ↔ k ∈ ns
  | [] => Iff.rfl
  | n :: ns => by
    have ih := dedI_mem k ns
    show k ∈ (if n ∈ dedI ns then dedI ns else n :: dedI ns) ↔ _
    split
    · next q => rw [ih, List.mem_cons]; exact ⟨.inr, fun h => h.elim (fun e => e ▸ (dedI_mem n ns).mp q) id⟩
    · rw [List.mem_cons, List.mem_cons, ih]
theorem dedI_nodup : ∀ ns : List Int, (dedI ns).Nodup
  | [] => .nil
  | n :: ns => by
    show (if n ∈ dedI ns then dedI ns else n :: dedI ns).Nodup
    split
    · exact dedI_nodup ns
    · next q => exact List.nodup_cons.mpr ⟨q, dedI_nodup ns⟩
theorem dedI_uniq {ns out : List Int} (h : out.Pairwise (· < ·)) (m : ∀ k : Int, k ∈ out ↔ decide (k ∈ ns) = true) : out = isortI (dedI ns) := by
  refine isortI_uniq ?_ (h.imp fun h => Int.le_of_lt h)
  refine (List.perm_ext_iff_of_nodup (h.imp fun h => Int.ne_of_lt h) (dedI_nodup ns)).mpr fun k => ?_
  rw [m k, dedI_mem, decide_eq_true_iff]
def gSoSet : D → List D → R (List D)
  | .lst ds, p => match allOf D.int? ds with
    | some ns => if ns.length < 64 then .ok ((isortI (dedI ns)).map .int) p else .stuck
    | none => .stuck
  | _, _ => .stuck
def fSoSet (f : FE) : FL := fun ρ p => (f ρ p).bnd gSoSet
theorem dl_soSet {e : Expr} {f : FE} {p1 p2 p3 : Pos} (hc : X.calm = true) (hm1 : X.mg "sorted" = none) (hm2 : X.mg "set" = none) (he : DE X W e f) (hg1 : Gl X "sorted" := by rfl) (hg2 : Gl X "set" := by rfl)
    (hv1 : bootBuiltins "sorted" = some (.builtin "sorted") := by decide +kernel) (hv2 : bootBuiltins "set" = some (.type "set") := by decide +kernel)
    (hs : starEach [e] X.env = (false, eval e X.env) :: starEach [] X.env := by rfl) (hp : (backTo p3 (starEach [] X.env)).any (·.1) = false := by rfl)
    (hs1 : starEach [.Call (.Name "set" p2) [e] [] p3] X.env = (false, eval (.Call (.Name "set" p2) [e] [] p3) X.env) :: starEach [] X.env := by rfl) (hp1 : (backTo pos (starEach [] X.env)).any (·.1) = false := by rfl) :
    DL X W (.Call (.Name "sorted" p1) [.Call (.Name "set" p2) [e] [] p3] [] pos) (fSoSet f) :=
  (pe_callB (cr_sortedSet hc) hg1 hm1 hv1 (pa_cons (pe_callTy (cr_setI hc) hg2 hm2 hv2 (pa_cons he pa_nil hs) (by decide) (by decide) hs hp) pa_nil hs1) (by decide) (by decide) hs1 hp1).imp fun σ H Q h => by
    obtain ⟨pa, Av, ρ, p, r, h⟩ := h
    refine seqE (Z := fun H r => PL1 X.K X.mg pa Av W σ H Q r) r (fun _ _ _ _ h => h) id h fun d u1 v H1 e1 hd r1 h1 => ?_
    have h1 := PL1.later e1 r1.pen.live h1
    unfold gSoSet at h1
    split at h1
    · split at h1
      · next ns e =>
        obtain ⟨q, h1⟩ := D.ite_ok (Z := PL1 X.K X.mg pa Av W σ H1 Q) id h1
        cases hd with
        | lst k1 n1 q1 =>
          rw [allInt e] at q1
          refine ⟨_, ns, rfl, .of (by rw [← q1.ints]; exact k1), q, fun a c ha hle => ?_⟩
          have r2 := r1.step (Ext.new (o := SetO X.w a (fun j => decide (j ∈ ns)) c) ha) (r1.pen.new r1.base ha)
          refine ⟨a, _, c, rfl, upd_same, by omega, fun out l hs hm _ hl => ?_⟩
          rw [dedI_uniq hs hm]
          exact ans_lst r2.base r2.pen (DRs.ofInts _) (PL1.later (Ext.new ha) r2.pen.live h1) l hl
      · exact h1.elim
    · exact h1.elim
end
end Dn
end

section
set_option Elab.async false
set_option linter.all false
set_option maxRecDepth 100000
set_option maxHeartbeats 4000000
namespace Lw
open PySem PySem.Spec PyProof.Rows L2 Dn LamX
def topS (i : Nat) : Stmt := PySem.Challenge.pw_sevensights_k25_sums_of_names.main.body.getD i (.Pass ⟨0, 0, 0, 0⟩)
abbrev s_is_integer : Stmt := topS 5
abbrev s_is_within : Stmt := topS 6
abbrev s_is_listed : Stmt := topS 7
abbrev s_signs_in : Stmt := topS 11
abbrev s_names_listed : Stmt := topS 12
abbrev s_is_name : Stmt := topS 13
abbrev s_sum_told : Stmt := topS 19
abbrev s_added : Stmt := topS 20
abbrev s_sum_in : Stmt := topS 21
abbrev s_pairs_in : Stmt := topS 22
abbrev s_threes_in : Stmt := topS 23
abbrev s_is_root : Stmt := topS 24
abbrev s_root_told : Stmt := topS 25
abbrev s_sum_of : Stmt := topS 26
abbrev s_all_roots : Stmt := topS 27
abbrev s_pairs_of : Stmt := topS 28
abbrev s_many_ordered : Stmt := topS 29
abbrev s__law_pen : Stmt := topS 31
abbrev s__law_draw : Stmt := topS 32
abbrev s__law_pick : Stmt := topS 33
abbrev s__law_pairs : Stmt := topS 34
abbrev s__law_threes : Stmt := topS 35
abbrev s__law_names : Stmt := topS 36
abbrev s__law_mask : Stmt := topS 37
abbrev s__law_told : Stmt := topS 38
abbrev s__law_roots : Stmt := topS 39
abbrev s__law_heard : Stmt := topS 40
abbrev s__law_refused_right : Stmt := topS 41
abbrev s_law : Stmt := topS 42
def v_LAST : D := .int 7
def v_NAMES : D := .tup [.str "01", .str "02", .str "03", .str "04", .str "05", .str "06", .str "07", .str "12", .str "13", .str "14", .str "15", .str "16", .str "17", .str "23", .str "24", .str "25", .str "26", .str "27", .str "34", .str "35", .str "36", .str "37", .str "45", .str "46", .str "47", .str "56", .str "57", .str "67"]
def v_MANY : D := .int 8
def v_HALF : D := .int 4
def v_WHOLE : D := .int 7
def v_ORDERED : D := .tup [.int 1, .int 28, .int 756, .int 12096, .int 120960, .int 725760, .int 2177280, .int 1451520]
def knownX : List Str := ["BadNumber", "BadNames"]
def tb_BadNames : List (Str × Bool) := [("BadNumber", false), ("BadNames", true)]
def tb_BadNumber : List (Str × Bool) := [("BadNumber", true), ("BadNames", false)]
structure Ad where
  a_is_integer : Addr
  d_is_integer : FuncData
  a_is_within : Addr
  d_is_within : FuncData
  a_is_listed : Addr
  d_is_listed : FuncData
  a_signs_in : Addr
  d_signs_in : FuncData
  a_names_listed : Addr
  d_names_listed : FuncData
  a_is_name : Addr
  d_is_name : FuncData
  a_sum_told : Addr
  d_sum_told : FuncData
  a_added : Addr
  d_added : FuncData
  a_sum_in : Addr
  d_sum_in : FuncData
  a_pairs_in : Addr
  d_pairs_in : FuncData
  a_threes_in : Addr
  d_threes_in : FuncData
  a_is_root : Addr
  d_is_root : FuncData
  a_root_told : Addr
  d_root_told : FuncData
  a_sum_of : Addr
  d_sum_of : FuncData
  a_all_roots : Addr
  d_all_roots : FuncData
  a_pairs_of : Addr
  d_pairs_of : FuncData
  a_many_ordered : Addr
  d_many_ordered : FuncData
  a__law_pen : Addr
  d__law_pen : FuncData
  a__law_draw : Addr
  d__law_draw : FuncData
  a__law_pick : Addr
  d__law_pick : FuncData
  a__law_pairs : Addr
  d__law_pairs : FuncData
  a__law_threes : Addr
  d__law_threes : FuncData
  a__law_names : Addr
  d__law_names : FuncData
  a__law_mask : Addr
  d__law_mask : FuncData
  a__law_told : Addr
  d__law_told : FuncData
  a__law_roots : Addr
  d__law_roots : FuncData
  a__law_heard : Addr
  d__law_heard : FuncData
  a__law_refused_right : Addr
  d__law_refused_right : FuncData
  a_law : Addr
  d_law : FuncData
  C_SightError : Addr
  C_BadNumber : Addr
  C_BadNames : Addr
  I_BadNumber : Addr
  q_BadNumber : Arguments
  w_BadNumber : Scope
  I_BadNames : Addr
  q_BadNames : Arguments
  w_BadNames : Scope
  k__law_refused_right : Addr
  t__law_refused_right : Addr
structure Txt (P : Program) (base : Heap) (K : PySem.W.Frag) (mg : Str → Option Value) (Z : Ad) : Prop where
  f_is_integer : Fun K "is_integer" "is_integer" s_is_integer Z.a_is_integer Z.d_is_integer
  g_is_integer : mg "is_integer" = some (.ref Z.a_is_integer)
  f_is_within : Fun K "is_within" "is_within" s_is_within Z.a_is_within Z.d_is_within
  g_is_within : mg "is_within" = some (.ref Z.a_is_within)
  f_is_listed : Fun K "is_listed" "is_listed" s_is_listed Z.a_is_listed Z.d_is_listed
  g_is_listed : mg "is_listed" = some (.ref Z.a_is_listed)
  f_signs_in : Fun K "signs_in" "signs_in" s_signs_in Z.a_signs_in Z.d_signs_in
  g_signs_in : mg "signs_in" = some (.ref Z.a_signs_in)
  f_names_listed : Fun K "names_listed" "names_listed" s_names_listed Z.a_names_listed Z.d_names_listed
  g_names_listed : mg "names_listed" = some (.ref Z.a_names_listed)
  f_is_name : Fun K "is_name" "is_name" s_is_name Z.a_is_name Z.d_is_name
  g_is_name : mg "is_name" = some (.ref Z.a_is_name)
  f_sum_told : Fun K "sum_told" "sum_told" s_sum_told Z.a_sum_told Z.d_sum_told
  g_sum_told : mg "sum_told" = some (.ref Z.a_sum_told)
  f_added : Fun K "added" "added" s_added Z.a_added Z.d_added
  g_added : mg "added" = some (.ref Z.a_added)
  f_sum_in : Fun K "sum_in" "sum_in" s_sum_in Z.a_sum_in Z.d_sum_in
  g_sum_in : mg "sum_in" = some (.ref Z.a_sum_in)
  f_pairs_in : Fun K "pairs_in" "pairs_in" s_pairs_in Z.a_pairs_in Z.d_pairs_in
  g_pairs_in : mg "pairs_in" = some (.ref Z.a_pairs_in)
  f_threes_in : Fun K "threes_in" "threes_in" s_threes_in Z.a_threes_in Z.d_threes_in
  g_threes_in : mg "threes_in" = some (.ref Z.a_threes_in)
  f_is_root : Fun K "is_root" "is_root" s_is_root Z.a_is_root Z.d_is_root
  g_is_root : mg "is_root" = some (.ref Z.a_is_root)
  f_root_told : Fun K "root_told" "root_told" s_root_told Z.a_root_told Z.d_root_told
  g_root_told : mg "root_told" = some (.ref Z.a_root_told)
  f_sum_of : Fun K "sum_of" "sum_of" s_sum_of Z.a_sum_of Z.d_sum_of
  g_sum_of : mg "sum_of" = some (.ref Z.a_sum_of)
  f_all_roots : Fun K "all_roots" "all_roots" s_all_roots Z.a_all_roots Z.d_all_roots
  g_all_roots : mg "all_roots" = some (.ref Z.a_all_roots)
  f_pairs_of : Fun K "pairs_of" "pairs_of" s_pairs_of Z.a_pairs_of Z.d_pairs_of
  g_pairs_of : mg "pairs_of" = some (.ref Z.a_pairs_of)
  f_many_ordered : Fun K "many_ordered" "many_ordered" s_many_ordered Z.a_many_ordered Z.d_many_ordered
  g_many_ordered : mg "many_ordered" = some (.ref Z.a_many_ordered)
  f__law_pen : Fun K "_law_pen" "_law_pen" s__law_pen Z.a__law_pen Z.d__law_pen
  g__law_pen : mg "_law_pen" = some (.ref Z.a__law_pen)
  f__law_draw : Fun K "_law_draw" "_law_draw" s__law_draw Z.a__law_draw Z.d__law_draw
  g__law_draw : mg "_law_draw" = some (.ref Z.a__law_draw)
  f__law_pick : Fun K "_law_pick" "_law_pick" s__law_pick Z.a__law_pick Z.d__law_pick
  g__law_pick : mg "_law_pick" = some (.ref Z.a__law_pick)
  f__law_pairs : Fun K "_law_pairs" "_law_pairs" s__law_pairs Z.a__law_pairs Z.d__law_pairs
  g__law_pairs : mg "_law_pairs" = some (.ref Z.a__law_pairs)
  f__law_threes : Fun K "_law_threes" "_law_threes" s__law_threes Z.a__law_threes Z.d__law_threes
  g__law_threes : mg "_law_threes" = some (.ref Z.a__law_threes)
  f__law_names : Fun K "_law_names" "_law_names" s__law_names Z.a__law_names Z.d__law_names
  g__law_names : mg "_law_names" = some (.ref Z.a__law_names)
  f__law_mask : Fun K "_law_mask" "_law_mask" s__law_mask Z.a__law_mask Z.d__law_mask
  g__law_mask : mg "_law_mask" = some (.ref Z.a__law_mask)
  f__law_told : Fun K "_law_told" "_law_told" s__law_told Z.a__law_told Z.d__law_told
  g__law_told : mg "_law_told" = some (.ref Z.a__law_told)
  f__law_roots : Fun K "_law_roots" "_law_roots" s__law_roots Z.a__law_roots Z.d__law_roots
  g__law_roots : mg "_law_roots" = some (.ref Z.a__law_roots)
  f__law_heard : Fun K "_law_heard" "_law_heard" s__law_heard Z.a__law_heard Z.d__law_heard
  g__law_heard : mg "_law_heard" = some (.ref Z.a__law_heard)
  f__law_refused_right : Fun K "_law_refused_right" "_law_refused_right" s__law_refused_right Z.a__law_refused_right Z.d__law_refused_right
  g__law_refused_right : mg "_law_refused_right" = some (.ref Z.a__law_refused_right)
  f_law : Fun K "law" "law" s_law Z.a_law Z.d_law
  g_law : mg "law" = some (.ref Z.a_law)
  c_LAST : GV K mg "LAST" v_LAST
  c_NAMES : GV K mg "NAMES" v_NAMES
  c_MANY : GV K mg "MANY" v_MANY
  c_HALF : GV K mg "HALF" v_HALF
  c_WHOLE : GV K mg "WHOLE" v_WHOLE
  c_ORDERED : GV K mg "ORDERED" v_ORDERED
  m_SightError : mg "SightError" = some (.ref Z.C_SightError)
  m_BadNumber : mg "BadNumber" = some (.ref Z.C_BadNumber)
  m_BadNames : mg "BadNames" = some (.ref Z.C_BadNames)
  z_BadNumber : RzC K P Z.C_BadNumber Z.I_BadNumber Z.q_BadNumber Z.w_BadNumber "no right number" "part"
  x_BadNumber : L2.ExcC K Z.C_BadNumber
  e_BadNumber_SightError : PySem.W.exmOne K (.ref Z.C_BadNumber) (.ref Z.C_SightError) = some true
  k_BadNumber_BadNames : PySem.W.kitOne K (.ref Z.C_BadNumber) (.ref Z.C_BadNames) = some false
  k_BadNumber_BadNumber : PySem.W.kitOne K (.ref Z.C_BadNumber) (.ref Z.C_BadNumber) = some true
  z_BadNames : RzC K P Z.C_BadNames Z.I_BadNames Z.q_BadNames Z.w_BadNames "no right names" "part"
  x_BadNames : L2.ExcC K Z.C_BadNames
  e_BadNames_SightError : PySem.W.exmOne K (.ref Z.C_BadNames) (.ref Z.C_SightError) = some true
  k_BadNames_BadNames : PySem.W.kitOne K (.ref Z.C_BadNames) (.ref Z.C_BadNames) = some true
  k_BadNames_BadNumber : PySem.W.kitOne K (.ref Z.C_BadNames) (.ref Z.C_BadNumber) = some false
  n_abs : mg "abs" = none
  n_all : mg "all" = none
  n_bool : mg "bool" = none
  n_enumerate : mg "enumerate" = none
  n_int : mg "int" = none
  n_isinstance : mg "isinstance" = none
  n_len : mg "len" = none
  n_list : mg "list" = none
  n_min : mg "min" = none
  n_range : mg "range" = none
  n_repr : mg "repr" = none
  n_set : mg "set" = none
  n_sorted : mg "sorted" = none
  n_str : mg "str" = none
  n_sum : mg "sum" = none
  n_super : mg "super" = none
  n_tuple : mg "tuple" = none
  n_zip : mg "zip" = none
  l__law_refused_right : Z.d__law_refused_right.code = .ref Z.k__law_refused_right
  tb__law_refused_right : TabB base mg Z.k__law_refused_right Z.t__law_refused_right
  tm__law_refused_right : (Z.t__law_refused_right, ("_law_refused_right" : Str) ++ (".<locals>." : Str) ++ ("<lambda>" : Str)) ∈ tabsOf K mg
  tu__law_refused_right : ∀ p ∈ tabsOf K mg, p.1 = Z.t__law_refused_right → p.2 = ("_law_refused_right" : Str) ++ (".<locals>." : Str) ++ ("<lambda>" : Str)
section
variable {K : PySem.W.Frag} {mg : Str → Option Value} {Z : Ad} {P : Program} {w : World} {base : Heap}
theorem exkn (T : Txt P base K mg Z) : ExKn K mg knownX := by
  intro c hc C hm
  simp only [knownX, List.mem_cons, List.not_mem_nil, or_false] at hc
  rcases hc with rfl | rfl
  · rw [T.m_BadNumber] at hm; cases hm; exact T.x_BadNumber
  · rw [T.m_BadNames] at hm; cases hm; exact T.x_BadNames
theorem exno (T : Txt P base K mg Z) : ∀ c ∈ knownX, ∀ C, mg c = some (.ref C) → PySem.W.findIn K (.ref C) "part" = some none := by
  intro c hc C hm
  simp only [knownX, List.mem_cons, List.not_mem_nil, or_false] at hc
  rcases hc with rfl | rfl
  · rw [T.m_BadNumber] at hm; cases hm; exact T.z_BadNumber.noF
  · rw [T.m_BadNames] at hm; cases hm; exact T.z_BadNames.noF
theorem catch_SightError (T : Txt P base K mg Z) : Catch K mg knownX (.ref Z.C_SightError) := by
  intro c hc C hm
  simp only [knownX, List.mem_cons, List.not_mem_nil, or_false] at hc
  rcases hc with rfl | rfl
  · rw [T.m_BadNumber] at hm; cases hm; exact T.e_BadNumber_SightError
  · rw [T.m_BadNames] at hm; cases hm; exact T.e_BadNames_SightError
theorem tab_BadNames (T : Txt P base K mg Z) : ∀ c b, tb_BadNames.lookup c = some b → ∀ C, mg c = some (.ref C) → L2.ExcC K C ∧ PySem.W.kitOne K (.ref C) (.ref Z.C_BadNames) = some b := by
  intro c b h C hm
  unfold tb_BadNames at h
  rcases look_cases h with ⟨rfl, rfl⟩ | h
  · rw [T.m_BadNumber] at hm; cases hm; exact ⟨T.x_BadNumber, T.k_BadNumber_BadNames⟩
  rcases look_cases h with ⟨rfl, rfl⟩ | h
  · rw [T.m_BadNames] at hm; cases hm; exact ⟨T.x_BadNames, T.k_BadNames_BadNames⟩
  cases h
theorem tab_BadNumber (T : Txt P base K mg Z) : ∀ c b, tb_BadNumber.lookup c = some b → ∀ C, mg c = some (.ref C) → L2.ExcC K C ∧ PySem.W.kitOne K (.ref C) (.ref Z.C_BadNumber) = some b := by
  intro c b h C hm
  unfold tb_BadNumber at h
  rcases look_cases h with ⟨rfl, rfl⟩ | h
  · rw [T.m_BadNumber] at hm; cases hm; exact ⟨T.x_BadNumber, T.k_BadNumber_BadNumber⟩
  rcases look_cases h with ⟨rfl, rfl⟩ | h
  · rw [T.m_BadNames] at hm; cases hm; exact ⟨T.x_BadNames, T.k_BadNames_BadNumber⟩
  cases h
theorem bd_is_integer (T : Txt P base K mg Z) : Binds K Z.d_is_integer ["value"] [] := T.f_is_integer.binds (ps := ["value"]) fun _ _ _ _ _ _ us hl => match us, hl with | [_], _ => rfl
theorem bd_is_within (T : Txt P base K mg Z) : Binds K Z.d_is_within ["value", "least", "most"] [] := T.f_is_within.binds (ps := ["value", "least", "most"]) fun _ _ _ _ _ _ us hl => match us, hl with | [_, _, _], _ => rfl
theorem bd_is_listed (T : Txt P base K mg Z) : Binds K Z.d_is_listed ["value"] [] := T.f_is_listed.binds (ps := ["value"]) fun _ _ _ _ _ _ us hl => match us, hl with | [_], _ => rfl
theorem bd_signs_in (T : Txt P base K mg Z) : Binds K Z.d_signs_in ["name"] [] := T.f_signs_in.binds (ps := ["name"]) fun _ _ _ _ _ _ us hl => match us, hl with | [_], _ => rfl
theorem bd_names_listed (T : Txt P base K mg Z) : Binds K Z.d_names_listed [] [] := T.f_names_listed.binds (ps := []) fun _ _ _ _ _ _ us hl => match us, hl with | [], _ => rfl
theorem bd_is_name (T : Txt P base K mg Z) : Binds K Z.d_is_name ["value"] [] := T.f_is_name.binds (ps := ["value"]) fun _ _ _ _ _ _ us hl => match us, hl with | [_], _ => rfl
theorem bd_sum_told (T : Txt P base K mg Z) : Binds K Z.d_sum_told ["signs"] [] := T.f_sum_told.binds (ps := ["signs"]) fun _ _ _ _ _ _ us hl => match us, hl with | [_], _ => rfl
theorem bd_added (T : Txt P base K mg Z) : Binds K Z.d_added ["lots"] [] := T.f_added.binds (ps := ["lots"]) fun _ _ _ _ _ _ us hl => match us, hl with | [_], _ => rfl
theorem bd_sum_in (T : Txt P base K mg Z) : Binds K Z.d_sum_in ["names"] [] := T.f_sum_in.binds (ps := ["names"]) fun _ _ _ _ _ _ us hl => match us, hl with | [_], _ => rfl
theorem bd_pairs_in (T : Txt P base K mg Z) : Binds K Z.d_pairs_in ["names"] [] := T.f_pairs_in.binds (ps := ["names"]) fun _ _ _ _ _ _ us hl => match us, hl with | [_], _ => rfl
theorem bd_threes_in (T : Txt P base K mg Z) : Binds K Z.d_threes_in ["names"] [] := T.f_threes_in.binds (ps := ["names"]) fun _ _ _ _ _ _ us hl => match us, hl with | [_], _ => rfl
theorem bd_is_root (T : Txt P base K mg Z) : Binds K Z.d_is_root ["value"] [] := T.f_is_root.binds (ps := ["value"]) fun _ _ _ _ _ _ us hl => match us, hl with | [_], _ => rfl
theorem bd_root_told (T : Txt P base K mg Z) : Binds K Z.d_root_told ["value", "part"] [] := T.f_root_told.binds (ps := ["value", "part"]) fun _ _ _ _ _ _ us hl => match us, hl with | [_, _], _ => rfl
theorem bd_sum_of (T : Txt P base K mg Z) : Binds K Z.d_sum_of ["names"] [] := T.f_sum_of.binds (ps := ["names"]) fun _ _ _ _ _ _ us hl => match us, hl with | [_], _ => rfl
theorem bd_all_roots (T : Txt P base K mg Z) : Binds K Z.d_all_roots [] [] := T.f_all_roots.binds (ps := []) fun _ _ _ _ _ _ us hl => match us, hl with | [], _ => rfl
theorem bd_pairs_of (T : Txt P base K mg Z) : Binds K Z.d_pairs_of ["root"] [] := T.f_pairs_of.binds (ps := ["root"]) fun _ _ _ _ _ _ us hl => match us, hl with | [_], _ => rfl
theorem bd_many_ordered (T : Txt P base K mg Z) : Binds K Z.d_many_ordered ["many"] [] := T.f_many_ordered.binds (ps := ["many"]) fun _ _ _ _ _ _ us hl => match us, hl with | [_], _ => rfl
theorem bd__law_pen (T : Txt P base K mg Z) : Binds K Z.d__law_pen ["script"] [] := T.f__law_pen.binds (ps := ["script"]) fun _ _ _ _ _ _ us hl => match us, hl with | [_], _ => rfl
theorem bd__law_draw (T : Txt P base K mg Z) : Binds K Z.d__law_draw ["pen", "many"] [] := T.f__law_draw.binds (ps := ["pen", "many"]) fun _ _ _ _ _ _ us hl => match us, hl with | [_, _], _ => rfl
theorem bd__law_pick (T : Txt P base K mg Z) : Binds K Z.d__law_pick ["pen", "some"] [] := T.f__law_pick.binds (ps := ["pen", "some"]) fun _ _ _ _ _ _ us hl => match us, hl with | [_, _], _ => rfl
theorem bd__law_pairs (T : Txt P base K mg Z) : Binds K Z.d__law_pairs ["some"] [] := T.f__law_pairs.binds (ps := ["some"]) fun _ _ _ _ _ _ us hl => match us, hl with | [_], _ => rfl
theorem bd__law_threes (T : Txt P base K mg Z) : Binds K Z.d__law_threes ["some"] [] := T.f__law_threes.binds (ps := ["some"]) fun _ _ _ _ _ _ us hl => match us, hl with | [_], _ => rfl
theorem bd__law_names (T : Txt P base K mg Z) : Binds K Z.d__law_names [] [] := T.f__law_names.binds (ps := []) fun _ _ _ _ _ _ us hl => match us, hl with | [], _ => rfl
theorem bd__law_mask (T : Txt P base K mg Z) : Binds K Z.d__law_mask ["names"] [] := T.f__law_mask.binds (ps := ["names"]) fun _ _ _ _ _ _ us hl => match us, hl with | [_], _ => rfl
theorem bd__law_told (T : Txt P base K mg Z) : Binds K Z.d__law_told ["mask"] [] := T.f__law_told.binds (ps := ["mask"]) fun _ _ _ _ _ _ us hl => match us, hl with | [_], _ => rfl
theorem bd__law_roots (T : Txt P base K mg Z) : Binds K Z.d__law_roots [] [] := T.f__law_roots.binds (ps := []) fun _ _ _ _ _ _ us hl => match us, hl with | [], _ => rfl
theorem bd__law_heard (T : Txt P base K mg Z) : Binds K Z.d__law_heard ["ask"] [] := T.f__law_heard.binds (ps := ["ask"]) fun _ _ _ _ _ _ us hl => match us, hl with | [_], _ => rfl
theorem bd__law_refused_right (T : Txt P base K mg Z) : Binds K Z.d__law_refused_right ["pen"] [] := T.f__law_refused_right.binds (ps := ["pen"]) fun _ _ _ _ _ _ us hl => match us, hl with | [_], _ => rfl
theorem bd_law (T : Txt P base K mg Z) : Binds K Z.d_law ["script"] [] := T.f_law.binds (ps := ["script"]) fun _ _ _ _ _ _ us hl => match us, hl with | [_], _ => rfl
def fs_is_integer : FS := (sRet (fAnd (fIsTy "int" (fVar 0)) (fNot (fIsTy "bool" (fVar 0)))))
def F_is_integer : List D → List D → R D := runF ["value"] fs_is_integer
theorem ok_is_integer (T : Txt P base K mg Z) : FnG P w K mg base 1 Z.a_is_integer Z.d_is_integer ["value"] (spF K mg 1 F_is_integer) := by
  have sc : FnScope ["value"] ["value"] (defScope s_is_integer) := ⟨rfl, rfl, rfl, by decide +kernel, rfl, by decide +kernel, by decide +kernel⟩
  have nd := sc.nd
  refine fnD T.f_is_integer sc (fs := fs_is_integer) fun cdv A outer s H E hr hcd tk => ?_
  exact (dss_one (ds_ret (de_and (de_isTy (de_var 0) T.n_isinstance T.n_int) (de_one (de_not (de_isTy (de_var 0) T.n_isinstance T.n_bool))))))
def fs_is_within : FS := (sRet (fAnd (fCall F_is_integer (fCons (fVar 0) fNil)) (fAnd (fOr (f2 gIs (fVar 1) (fC .non)) (f2 gGe (fVar 0) (fVar 1))) (fOr (f2 gIs (fVar 2) (fC .non)) (f2 gLe (fVar 0) (fVar 2))))))
def F_is_within : List D → List D → R D := runF ["value", "least", "most"] fs_is_within
theorem ok_is_within (T : Txt P base K mg Z) : FnG P w K mg base 2 Z.a_is_within Z.d_is_within ["value", "least", "most"] (spF K mg 3 F_is_within) := by
  have sc : FnScope ["value", "least", "most"] ["value", "least", "most"] (defScope s_is_within) := ⟨rfl, rfl, rfl, by decide +kernel, rfl, by decide +kernel, by decide +kernel⟩
  have nd := sc.nd
  refine fnD T.f_is_within sc (fs := fs_is_within) fun cdv A outer s H E hr hcd tk => ?_
  exact (dss_one (ds_ret (de_and (de_call (ok_is_integer T) (hr.mono (by decide)) T.g_is_integer T.f_is_integer.kp (bd_is_integer T) tk (da_cons (de_var 0) da_nil) (hlen := (ln_cons ln_nil))) (de_and (de_or (de_cmp op_isC is_d (de_var 1) de_non (nomark _)) (de_one (de_cmp op_geA ge_d (de_var 0) (de_var 1) (nomark _)))) (de_one (de_or (de_cmp op_isC is_d (de_var 2) de_non (nomark _)) (de_one (de_cmp op_leA le_d (de_var 0) (de_var 2) (nomark _)))))))))
def fs_is_listed : FS := (sRet (fIsTys ["list", "tuple"] (fVar 0)))
def F_is_listed : List D → List D → R D := runF ["value"] fs_is_listed
theorem ok_is_listed (T : Txt P base K mg Z) : FnG P w K mg base 1 Z.a_is_listed Z.d_is_listed ["value"] (spF K mg 1 F_is_listed) := by
  have sc : FnScope ["value"] ["value"] (defScope s_is_listed) := ⟨rfl, rfl, rfl, by decide +kernel, rfl, by decide +kernel, by decide +kernel⟩
  have nd := sc.nd
  refine fnD T.f_is_listed sc (fs := fs_is_listed) fun cdv A outer s H E hr hcd tk => ?_
  exact (dss_one (ds_ret (de_isTy2 (de_var 0) T.n_isinstance T.n_list T.n_tuple)))
def fs_signs_in : FS := (sRet (fTup (fCons (fCall gInt (fCons (f2 (gIx []) (fVar 0) (fC (.int 0))) fNil)) (fCons (fCall gInt (fCons (f2 (gIx []) (fVar 0) (fC (.int 1))) fNil)) fNil))))
def F_signs_in : List D → List D → R D := runF ["name"] fs_signs_in
theorem ok_signs_in (T : Txt P base K mg Z) : FnG P w K mg base 1 Z.a_signs_in Z.d_signs_in ["name"] (spF K mg 1 F_signs_in) := by
  have sc : FnScope ["name"] ["name"] (defScope s_signs_in) := ⟨rfl, rfl, rfl, by decide +kernel, rfl, by decide +kernel, by decide +kernel⟩
  have nd := sc.nd
  refine fnD T.f_signs_in sc (fs := fs_signs_in) fun cdv A outer s H E hr hcd tk => ?_
  exact (dss_one (ds_ret (de_tup (da_cons (de_callT call_intA int_d T.n_int (da_cons (de_ix (de_var 0) de_int) da_nil)) (da_cons (de_callT call_intA int_d T.n_int (da_cons (de_ix (de_var 0) de_int) da_nil)) da_nil)))))
def fs_names_listed : FS := (sRet (fL (fCallL gList (fCons (fC v_NAMES) fNil))))
def F_names_listed : List D → List D → R D := runF [] fs_names_listed
theorem ok_names_listed (T : Txt P base K mg Z) : FnG P w K mg base 1 Z.a_names_listed Z.d_names_listed [] (spF K mg 0 F_names_listed) := by
  have sc : FnScope [] [] (defScope s_names_listed) := ⟨rfl, rfl, rfl, by decide +kernel, rfl, by decide +kernel, by decide +kernel⟩
  have nd := sc.nd
  refine fnD T.f_names_listed sc (fs := fs_names_listed) fun cdv A outer s H E hr hcd tk => ?_
  exact (dss_one (ds_ret (de_l (dl_callT call_list_of list_d T.n_list (da_cons (de_glob T.c_NAMES) da_nil)))))
def fs_is_name : FS := (sRet (fAnd (fIsTy "str" (fVar 0)) (f2 (gIn false) (fVar 0) (fC v_NAMES))))
def F_is_name : List D → List D → R D := runF ["value"] fs_is_name
theorem ok_is_name (T : Txt P base K mg Z) : FnG P w K mg base 1 Z.a_is_name Z.d_is_name ["value"] (spF K mg 1 F_is_name) := by
  have sc : FnScope ["value"] ["value"] (defScope s_is_name) := ⟨rfl, rfl, rfl, by decide +kernel, rfl, by decide +kernel, by decide +kernel⟩
  have nd := sc.nd
  refine fnD T.f_is_name sc (fs := fs_is_name) fun cdv A outer s H E hr hcd tk => ?_
  exact (dss_one (ds_ret (de_and (de_isTy (de_var 0) T.n_isinstance T.n_str) (de_one (de_cmp (op_inA (hu65 hr)) in_d (de_var 0) (de_glob T.c_NAMES) (by rfl))))))
def fs_sum_told : FS := (sSeq (sSet 1 (fCall gTuple (fCons (fL (fLc (fItR (fC v_MANY)) (hName 2) (fTst (f2 (gIn true) (fVar 2) (fVar 0))) (fVar 2) [2])) fNil)))
  (sSeq (sIf (fOrB (fTst (f2 gGt (fCall gLen (fCons (fVar 0) fNil)) (fC v_HALF))) (fAndB (fTst (f2 gEq (fCall gLen (fCons (fVar 0) fNil)) (fC v_HALF))) (fTst (f2 (gIn true) (fC (.int 0)) (fVar 0))))) (sRet (fVar 1)) sNil)
  (sRet (fCall gTuple (fCons (fL (fCallL gSorted (fCons (fVar 0) fNil))) fNil)))))
def F_sum_told : List D → List D → R D := runF ["signs", "rest", "sign"] fs_sum_told
theorem ok_sum_told (T : Txt P base K mg Z) : FnG P w K mg base 1 Z.a_sum_told Z.d_sum_told ["signs"] (spF K mg 1 F_sum_told) := by
  have sc : FnScope ["signs", "rest", "sign"] ["signs"] (defScope s_sum_told) := ⟨rfl, rfl, rfl, by decide +kernel, rfl, by decide +kernel, by decide +kernel⟩
  have nd := sc.nd
  refine fnD T.f_sum_told sc (fs := fs_sum_told) fun cdv A outer s H E hr hcd tk => ?_
  exact (dss_cons (ds_set nd (de_callT call_tuple_of tuple_d T.n_tuple (da_cons (de_l (dl_lc [("sign", 2)] rfl nd (di_rg T.n_range (de_glob T.c_MANY)) (fun _ _ _ _ _ => (dg_name 2 nd)) (fun _ _ _ _ _ => (dts_one (dt_cmp (op_notInA (hu65 hr)) notin_d (de_var 2) (de_var 0) (by rfl)))) (fun _ _ _ _ _ => (de_var 2)))) da_nil)))
  (dss_cons (ds_if (dt_w (dw_or (dt_cmp op_gtA gt_d (de_callB call_lenA len_d T.n_len (da_cons (de_var 0) da_nil)) (de_glob T.c_HALF) (nomark _)) (dw_or1 (dt_w (dw_and (dt_cmp (op_eqD (hu64 hr)) eq_d (de_callB call_lenA len_d T.n_len (da_cons (de_var 0) da_nil)) (de_glob T.c_HALF) (nomark _)) (dw_and1 (dt_cmp (op_notInA (hu65 hr)) notin_d de_int (de_var 0) (by rfl)))))))) (dss_one (ds_ret (de_var 1))) dss_nil)
  (dss_one (ds_ret (de_callT call_tuple_of tuple_d T.n_tuple (da_cons (de_l (dl_callB cr_sortedI sorted_d T.n_sorted (da_cons (de_var 0) da_nil))) da_nil))))))
def fs_added : FS := (sSeq (sSet 1 (fL (fLst fNil)))
  (sSeq (sFor (fIt (fVar 0)) (hName 2)
  (sFor (fIt (fVar 2)) (hName 3)
  (sSet 1 (fIf (fTst (f2 (gIn false) (fVar 3) (fVar 1))) (fL (fLc (fIt (fVar 1)) (hName 4) (fTst (f2 gNe (fVar 4) (fVar 3))) (fVar 4) [4])) (f2 gAdd (fVar 1) (fL (fLst (fCons (fVar 3) fNil))))))))
  (sRet (fCall F_sum_told (fCons (fVar 1) fNil)))))
def F_added : List D → List D → R D := runF ["lots", "odd", "lot", "sign", "one"] fs_added
theorem ok_added (T : Txt P base K mg Z) : FnG P w K mg base 2 Z.a_added Z.d_added ["lots"] (spF K mg 1 F_added) := by
  have sc : FnScope ["lots", "odd", "lot", "sign", "one"] ["lots"] (defScope s_added) := ⟨rfl, rfl, rfl, by decide +kernel, rfl, by decide +kernel, by decide +kernel⟩
  have nd := sc.nd
  refine fnD T.f_added sc (fs := fs_added) fun cdv A outer s H E hr hcd tk => ?_
  exact (dss_cons (ds_set nd (de_l (dl_lst da_nil)))
  (dss_cons (ds_for (passes_of rfl) rfl (di_any (de_var 0)) (dg_name 2 nd)
  (dss_one (ds_for (passes_of rfl) rfl (di_any (de_var 2)) (dg_name 3 nd)
  (dss_one (ds_set nd (de_if (dt_cmp (op_inA (hu65 hr)) in_d (de_var 3) (de_var 1) (by rfl)) (de_l (dl_lc [("one", 4)] rfl nd (di_any (de_var 1)) (fun _ _ _ _ _ => (dg_name 4 nd)) (fun _ _ _ _ _ => (dts_one (dt_cmp (op_neD (hu64 hr)) ne_d (de_var 4) (de_var 3) (nomark _)))) (fun _ _ _ _ _ => (de_var 4)))) (de_op op_addA add_d (de_var 1) (de_l (dl_lst (da_cons (de_var 3) da_nil))))))))))
  (dss_one (ds_ret (de_call (ok_sum_told T) (hr.mono (by decide)) T.g_sum_told T.f_sum_told.kp (bd_sum_told T) tk (da_cons (de_var 1) da_nil) (hlen := (ln_cons ln_nil)))))))
def fs_sum_in : FS := (sRet (fCall F_added (fCons (fL (fLc (fIt (fVar 0)) (hName 1) fTrue (fCall F_signs_in (fCons (fVar 1) fNil)) [1])) fNil)))
def F_sum_in : List D → List D → R D := runF ["names", "name"] fs_sum_in
theorem ok_sum_in (T : Txt P base K mg Z) : FnG P w K mg base 3 Z.a_sum_in Z.d_sum_in ["names"] (spF K mg 1 F_sum_in) := by
  have sc : FnScope ["names", "name"] ["names"] (defScope s_sum_in) := ⟨rfl, rfl, rfl, by decide +kernel, rfl, by decide +kernel, by decide +kernel⟩
  have nd := sc.nd
  refine fnD T.f_sum_in sc (fs := fs_sum_in) fun cdv A outer s H E hr hcd tk => ?_
  exact (dss_one (ds_ret (de_call (ok_added T) (hr.mono (by decide)) T.g_added T.f_added.kp (bd_added T) tk (da_cons (de_l (dl_lc [("name", 1)] rfl nd (di_any (de_var 0)) (fun _ _ _ _ _ => (dg_name 1 nd)) (fun _ _ _ _ _ => dts_nil) (fun _ _ _ _ _ => (de_call (ok_signs_in T) (hr.mono (by decide)) T.g_signs_in T.f_signs_in.kp (bd_signs_in T) L2.takes0 (da_cons (de_var 1) da_nil) (hlen := (ln_cons ln_nil)))))) da_nil) (hlen := (ln_cons ln_nil)))))
def fs_pairs_in : FS := (sRet (fL (fLc2 (fEnumX (fVar 0)) (hSq 2 (hCons (hName 1) (hCons (hName 2) hNil))) fTrue (fIt (fSlT (fVar 0) (fPart (f2 gAdd (fVar 1) (fC (.int 1)))) fNoPart)) (hName 3) fTrue (fTup (fCons (fVar 2) (fCons (fVar 3) fNil))) [1, 2, 3] [3])))
def F_pairs_in : List D → List D → R D := runF ["names", "at", "one", "other"] fs_pairs_in
theorem ok_pairs_in (T : Txt P base K mg Z) : FnG P w K mg base 1 Z.a_pairs_in Z.d_pairs_in ["names"] (spF K mg 1 F_pairs_in) := by
  have sc : FnScope ["names", "at", "one", "other"] ["names"] (defScope s_pairs_in) := ⟨rfl, rfl, rfl, by decide +kernel, rfl, by decide +kernel, by decide +kernel⟩
  have nd := sc.nd
  refine fnD T.f_pairs_in sc (fs := fs_pairs_in) fun cdv A outer s H E hr hcd tk => ?_
  exact (dss_one (ds_ret (de_l (dl_lc2 [("at", 1), ("one", 2), ("other", 3)] [3] rfl nd (di_enumX T.n_enumerate (de_var 0)) (fun _ _ _ _ _ => (dg_sq rfl (dgs_cons (dg_name 1 nd) (dgs_cons (dg_name 2 nd) dgs_nil)))) (fun _ _ _ _ _ => dts_nil) (fun _ _ _ _ _ => (di_any (de_sl (de_var 0) (do_some (de_op op_addA add_d (de_var 1) de_int)) do_none))) (fun _ _ _ _ _ => (dg_name 3 nd)) (fun _ _ _ _ _ => dts_nil) (fun _ _ _ _ _ => (de_tup (da_cons (de_var 2) (da_cons (de_var 3) da_nil))))))))
def fs_threes_in : FS := (sRet (fL (fLc2 (fEnumX (fVar 0)) (hSq 2 (hCons (hName 1) (hCons (hName 2) hNil))) fTrue (fIt (fCall F_pairs_in (fCons (fSlT (fVar 0) (fPart (f2 gAdd (fVar 1) (fC (.int 1)))) fNoPart) fNil))) (hName 3) fTrue (fTup (fCons (fVar 2) (fStar (fVar 3) fNil))) [1, 2, 3] [3])))
def F_threes_in : List D → List D → R D := runF ["names", "at", "one", "pair"] fs_threes_in
theorem ok_threes_in (T : Txt P base K mg Z) : FnG P w K mg base 2 Z.a_threes_in Z.d_threes_in ["names"] (spF K mg 1 F_threes_in) := by
  have sc : FnScope ["names", "at", "one", "pair"] ["names"] (defScope s_threes_in) := ⟨rfl, rfl, rfl, by decide +kernel, rfl, by decide +kernel, by decide +kernel⟩
  have nd := sc.nd
  refine fnD T.f_threes_in sc (fs := fs_threes_in) fun cdv A outer s H E hr hcd tk => ?_
  exact (dss_one (ds_ret (de_l (dl_lc2 [("at", 1), ("one", 2), ("pair", 3)] [3] rfl nd (di_enumX T.n_enumerate (de_var 0)) (fun _ _ _ _ _ => (dg_sq rfl (dgs_cons (dg_name 1 nd) (dgs_cons (dg_name 2 nd) dgs_nil)))) (fun _ _ _ _ _ => dts_nil) (fun _ _ _ _ _ => (di_any (de_call (ok_pairs_in T) (hr.mono (by decide)) T.g_pairs_in T.f_pairs_in.kp (bd_pairs_in T) L2.takes0 (da_cons (de_sl (de_var 0) (do_some (de_op op_addA add_d (de_var 1) de_int)) do_none) da_nil) (hlen := (ln_cons ln_nil))))) (fun _ _ _ _ _ => (dg_name 3 nd)) (fun _ _ _ _ _ => dts_nil) (fun _ _ _ _ _ => (de_tup (da_cons (de_var 2) (da_star (de_var 3) da_nil))))))))
def fs_is_root : FS := (sSeq (sIf (fOrB (fNotB (fTst (fCall F_is_listed (fCons (fVar 0) fNil)))) (fOrB (fTst (f2 (gIn true) (fCall gLen (fCons (fVar 0) fNil)) (fTup (fCons (fC (.int 2)) (fCons (fC v_HALF) fNil))))) (fNotB (fTst (fCall gAll (fCons (fL (fLc (fIt (fVar 0)) (hName 2) fTrue (fCall F_is_within (fCons (fVar 2) (fCons (fC (.int 0)) (fCons (fC v_LAST) fNil)))) [2])) fNil)))))) (sRet (fC (.bl false))) sNil)
  (sSeq (sSet 1 (fL (fCallL gList (fCons (fVar 0) fNil))))
  (sRet (fAnd (f2 gEq (fVar 1) (fL (fSoSet (fVar 1)))) (fOr (f2 gEq (fCall gLen (fCons (fVar 1) fNil)) (fC (.int 2))) (f2 gEq (f2 (gIx []) (fVar 1) (fC (.int 0))) (fC (.int 0))))))))
def F_is_root : List D → List D → R D := runF ["value", "signs", "sign"] fs_is_root
theorem ok_is_root (T : Txt P base K mg Z) : FnG P w K mg base 3 Z.a_is_root Z.d_is_root ["value"] (spF K mg 1 F_is_root) := by
  have sc : FnScope ["value", "signs", "sign"] ["value"] (defScope s_is_root) := ⟨rfl, rfl, rfl, by decide +kernel, rfl, by decide +kernel, by decide +kernel⟩
  have nd := sc.nd
  refine fnD T.f_is_root sc (fs := fs_is_root) fun cdv A outer s H E hr hcd tk => ?_
  exact (dss_cons (ds_if (dt_w (dw_or (dt_not (dt_val (de_call (ok_is_listed T) (hr.mono (by decide)) T.g_is_listed T.f_is_listed.kp (bd_is_listed T) tk (da_cons (de_var 0) da_nil) (hlen := (ln_cons ln_nil))))) (dw_or (dt_cmp (op_notInA (hu65 hr)) notin_d (de_callB call_lenA len_d T.n_len (da_cons (de_var 0) da_nil)) (de_tup (da_cons de_int (da_cons (de_glob T.c_HALF) da_nil))) (by rfl)) (dw_or1 (dt_not (dt_val (de_callB (cr_all rfl) all_d T.n_all (da_cons (de_l (dl_lc [("sign", 2)] rfl nd (di_any (de_var 0)) (fun _ _ _ _ _ => (dg_name 2 nd)) (fun _ _ _ _ _ => dts_nil) (fun _ _ _ _ _ => (de_call (ok_is_within T) (hr.mono (by decide)) T.g_is_within T.f_is_within.kp (bd_is_within T) L2.takes0 (da_cons (de_var 2) (da_cons de_int (da_cons (de_glob T.c_LAST) da_nil))) (hlen := (ln_cons (ln_cons (ln_cons ln_nil)))))))) da_nil)))))))) (dss_one (ds_ret de_bl)) dss_nil)
  (dss_cons (ds_set nd (de_l (dl_callT call_list_of list_d T.n_list (da_cons (de_var 0) da_nil))))
  (dss_one (ds_ret (de_and (de_cmp (op_eqD (hu64 hr)) eq_d (de_var 1) (de_l (dl_soSet rfl T.n_sorted T.n_set (de_var 1))) (nomark _)) (de_one (de_or (de_cmp (op_eqD (hu64 hr)) eq_d (de_callB call_lenA len_d T.n_len (da_cons (de_var 1) da_nil)) de_int (nomark _)) (de_one (de_cmp (op_eqD (hu64 hr)) eq_d (de_ix (de_var 1) de_int) de_int (nomark _))))))))))
def fs_root_told : FS := (sSeq (sIf (fNotB (fTst (fCall F_is_root (fCons (fVar 0) fNil)))) (sRaise "BadNumber" "part" (fVar 1)) sNil)
  (sRet (fCall gTuple (fCons (fVar 0) fNil))))
def F_root_told : List D → List D → R D := runF ["value", "part"] fs_root_told
theorem ok_root_told (T : Txt P base K mg Z) : FnG P w K mg base 4 Z.a_root_told Z.d_root_told ["value", "part"] (spF K mg 2 F_root_told) := by
  have sc : FnScope ["value", "part"] ["value", "part"] (defScope s_root_told) := ⟨rfl, rfl, rfl, by decide +kernel, rfl, by decide +kernel, by decide +kernel⟩
  have nd := sc.nd
  refine fnD T.f_root_told sc (fs := fs_root_told) fun cdv A outer s H E hr hcd tk => ?_
  exact (dss_cons (ds_if (dt_not (dt_val (de_call (ok_is_root T) (hr.mono (by decide)) T.g_is_root T.f_is_root.kp (bd_is_root T) tk (da_cons (de_var 0) da_nil) (hlen := (ln_cons ln_nil))))) (dss_one (ds_raise (k := 0) rfl tk T.z_BadNumber (hr.mono (by decide)) T.n_super T.m_BadNumber (de_var 1))) dss_nil)
  (dss_one (ds_ret (de_callT call_tuple_of tuple_d T.n_tuple (da_cons (de_var 0) da_nil)))))
def fs_sum_of : FS := (sSeq (sIf (fOrB (fNotB (fTst (fCall F_is_listed (fCons (fVar 0) fNil)))) (fOrB (fTst (f2 gGt (fCall gLen (fCons (fVar 0) fNil)) (fC (.int 100)))) (fNotB (fTst (fCall gAll (fCons (fL (fLc (fIt (fVar 0)) (hName 1) fTrue (fCall F_is_name (fCons (fVar 1) fNil)) [1])) fNil)))))) (sRaise "BadNames" "part" (fC (.str "names"))) sNil)
  (sRet (fCall F_sum_in (fCons (fVar 0) fNil))))
def F_sum_of : List D → List D → R D := runF ["names", "name"] fs_sum_of
theorem ok_sum_of (T : Txt P base K mg Z) : FnG P w K mg base 4 Z.a_sum_of Z.d_sum_of ["names"] (spF K mg 1 F_sum_of) := by
  have sc : FnScope ["names", "name"] ["names"] (defScope s_sum_of) := ⟨rfl, rfl, rfl, by decide +kernel, rfl, by decide +kernel, by decide +kernel⟩
  have nd := sc.nd
  refine fnD T.f_sum_of sc (fs := fs_sum_of) fun cdv A outer s H E hr hcd tk => ?_
  exact (dss_cons (ds_if (dt_w (dw_or (dt_not (dt_val (de_call (ok_is_listed T) (hr.mono (by decide)) T.g_is_listed T.f_is_listed.kp (bd_is_listed T) tk (da_cons (de_var 0) da_nil) (hlen := (ln_cons ln_nil))))) (dw_or (dt_cmp op_gtA gt_d (de_callB call_lenA len_d T.n_len (da_cons (de_var 0) da_nil)) de_int (nomark _)) (dw_or1 (dt_not (dt_val (de_callB (cr_all rfl) all_d T.n_all (da_cons (de_l (dl_lc [("name", 1)] rfl nd (di_any (de_var 0)) (fun _ _ _ _ _ => (dg_name 1 nd)) (fun _ _ _ _ _ => dts_nil) (fun _ _ _ _ _ => (de_call (ok_is_name T) (hr.mono (by decide)) T.g_is_name T.f_is_name.kp (bd_is_name T) L2.takes0 (da_cons (de_var 1) da_nil) (hlen := (ln_cons ln_nil)))))) da_nil)))))))) (dss_one (ds_raise (k := 0) rfl tk T.z_BadNames (hr.mono (by decide)) T.n_super T.m_BadNames de_str)) dss_nil)
  (dss_one (ds_ret (de_call (ok_sum_in T) (hr.mono (by decide)) T.g_sum_in T.f_sum_in.kp (bd_sum_in T) tk (da_cons (de_var 0) da_nil) (hlen := (ln_cons ln_nil))))))
def fs_all_roots : FS := (sSeq (sSet 0 (fL (fRgL (fC v_MANY))))
  (sRet (fCall gTuple (fCons (f2 gAdd (fCall F_pairs_in (fCons (fVar 0) fNil)) (fL (fLc (fIt (fCall F_threes_in (fCons (fSlT (fVar 0) (fPart (fC (.int 1))) fNoPart) fNil))) (hName 1) fTrue (fTup (fCons (fC (.int 0)) (fStar (fVar 1) fNil))) [1]))) fNil))))
def F_all_roots : List D → List D → R D := runF ["signs", "three"] fs_all_roots
theorem ok_all_roots (T : Txt P base K mg Z) : FnG P w K mg base 3 Z.a_all_roots Z.d_all_roots [] (spF K mg 0 F_all_roots) := by
  have sc : FnScope ["signs", "three"] [] (defScope s_all_roots) := ⟨rfl, rfl, rfl, by decide +kernel, rfl, by decide +kernel, by decide +kernel⟩
  have nd := sc.nd
  refine fnD T.f_all_roots sc (fs := fs_all_roots) fun cdv A outer s H E hr hcd tk => ?_
  exact (dss_cons (ds_set nd (de_l (dl_listRange rfl T.n_list T.n_range (de_glob T.c_MANY))))
  (dss_one (ds_ret (de_callT call_tuple_of tuple_d T.n_tuple (da_cons (de_op op_addA add_d (de_call (ok_pairs_in T) (hr.mono (by decide)) T.g_pairs_in T.f_pairs_in.kp (bd_pairs_in T) tk (da_cons (de_var 0) da_nil) (hlen := (ln_cons ln_nil))) (de_l (dl_lc [("three", 1)] rfl nd (di_any (de_call (ok_threes_in T) (hr.mono (by decide)) T.g_threes_in T.f_threes_in.kp (bd_threes_in T) tk (da_cons (de_sl (de_var 0) (do_some de_int) do_none) da_nil) (hlen := (ln_cons ln_nil)))) (fun _ _ _ _ _ => (dg_name 1 nd)) (fun _ _ _ _ _ => dts_nil) (fun _ _ _ _ _ => (de_tup (da_cons de_int (da_star (de_var 1) da_nil))))))) da_nil)))))
def fs_pairs_of : FS := (sSeq (sSet 1 (fCall F_root_told (fCons (fVar 0) (fCons (fC (.str "root")) fNil))))
  (sRet (fCall gTuple (fCons (fL (fLc (fIt (fCall F_pairs_in (fCons (fCall0 F_names_listed) fNil))) (hName 2) (fTst (f2 gEq (fCall F_sum_in (fCons (fVar 2) fNil)) (fVar 1))) (fVar 2) [2])) fNil))))
def F_pairs_of : List D → List D → R D := runF ["root", "told", "pair"] fs_pairs_of
theorem ok_pairs_of (T : Txt P base K mg Z) : FnG P w K mg base 5 Z.a_pairs_of Z.d_pairs_of ["root"] (spF K mg 1 F_pairs_of) := by
  have sc : FnScope ["root", "told", "pair"] ["root"] (defScope s_pairs_of) := ⟨rfl, rfl, rfl, by decide +kernel, rfl, by decide +kernel, by decide +kernel⟩
  have nd := sc.nd
  refine fnD T.f_pairs_of sc (fs := fs_pairs_of) fun cdv A outer s H E hr hcd tk => ?_
  exact (dss_cons (ds_set nd (de_call (ok_root_told T) (hr.mono (by decide)) T.g_root_told T.f_root_told.kp (bd_root_told T) tk (da_cons (de_var 0) (da_cons de_str da_nil)) (hlen := (ln_cons (ln_cons ln_nil)))))
  (dss_one (ds_ret (de_callT call_tuple_of tuple_d T.n_tuple (da_cons (de_l (dl_lc [("pair", 2)] rfl nd (di_any (de_call (ok_pairs_in T) (hr.mono (by decide)) T.g_pairs_in T.f_pairs_in.kp (bd_pairs_in T) tk (da_cons (de_call0 (ok_names_listed T) (hr.mono (by decide)) T.g_names_listed T.f_names_listed.kp (bd_names_listed T) tk) da_nil) (hlen := (ln_cons ln_nil)))) (fun _ _ _ _ _ => (dg_name 2 nd)) (fun _ _ _ _ _ => (dts_one (dt_cmp (op_eqD (hu64 hr)) eq_d (de_call (ok_sum_in T) (hr.mono (by decide)) T.g_sum_in T.f_sum_in.kp (bd_sum_in T) L2.takes0 (da_cons (de_var 2) da_nil) (hlen := (ln_cons ln_nil))) (de_var 1) (nomark _)))) (fun _ _ _ _ _ => (de_var 2)))) da_nil)))))
def fs_many_ordered : FS := (sSeq (sIf (fNotB (fTst (fCall F_is_within (fCons (fVar 0) (fCons (fC (.int 0)) (fCons (fC v_WHOLE) fNil)))))) (sRaise "BadNumber" "part" (fC (.str "many"))) sNil)
  (sRet (f2 (gIx []) (fC v_ORDERED) (fVar 0))))
def F_many_ordered : List D → List D → R D := runF ["many"] fs_many_ordered
theorem ok_many_ordered (T : Txt P base K mg Z) : FnG P w K mg base 3 Z.a_many_ordered Z.d_many_ordered ["many"] (spF K mg 1 F_many_ordered) := by
  have sc : FnScope ["many"] ["many"] (defScope s_many_ordered) := ⟨rfl, rfl, rfl, by decide +kernel, rfl, by decide +kernel, by decide +kernel⟩
  have nd := sc.nd
  refine fnD T.f_many_ordered sc (fs := fs_many_ordered) fun cdv A outer s H E hr hcd tk => ?_
  exact (dss_cons (ds_if (dt_not (dt_val (de_call (ok_is_within T) (hr.mono (by decide)) T.g_is_within T.f_is_within.kp (bd_is_within T) tk (da_cons (de_var 0) (da_cons de_int (da_cons (de_glob T.c_WHOLE) da_nil))) (hlen := (ln_cons (ln_cons (ln_cons ln_nil))))))) (dss_one (ds_raise (k := 0) rfl tk T.z_BadNumber (hr.mono (by decide)) T.n_super T.m_BadNumber de_str)) dss_nil)
  (dss_one (ds_ret (de_ix (de_glob T.c_ORDERED) (de_var 0)))))
theorem ok__law_pen (T : Txt P base K mg Z) : FnG P w K mg base 1 Z.a__law_pen Z.d__law_pen ["script"] (spPen K) := by
  have sc : FnScope ["script", "cell"] ["script"] (defScope s__law_pen) := ⟨rfl, rfl, rfl, by decide +kernel, rfl, by decide +kernel, by decide +kernel⟩
  refine fnRaw T.f__law_pen sc spPen_len fun cdv A outer s H vs Q E hr hcd tk sp => ?_
  obtain ⟨a, ns, rfl, hS, hn, q⟩ := sp
  exact ⟨_, pss_one (ps_ret (pen_comp (n := 63) rfl rfl T.n_int (by decide))), a, none, ns, rfl, hS, hn, q⟩
def fs__law_draw : FS := (sSeq (sIf (fTst (f2 gGt (f2 (gIx []) (fVar 0) (fC (.int 2))) (fC (.int 0)))) (sSeq (sSet 2 (f2 gMod (fCall gInt (fCons (f2 (gIx []) (fVar 0) (fC (.int 2))) fNil)) (fVar 1)))
  (sSeq (sPen (fVar 0) (f2 gDiv (fCall gInt (fCons (f2 (gIx []) (fVar 0) (fC (.int 2))) fNil)) (fVar 1)) (fC (.int 2)))
  (sRet (fVar 2)))) sNil)
  (sSeq (sSet 3 (f2 (gIx []) (fVar 0) (fC (.int 1))))
  (sSeq (sPen (fVar 0) (f2 gAdd (fVar 3) (fC (.int 1))) (fC (.int 1)))
  (sSeq (sSet 4 (f2 gAdd (f2 gMul (fC (.int 40009)) (fVar 3)) (fC (.int 251))))
  (sSeq (sIf (fTst (f2 gNe (f2 (gIx []) (fVar 0) (fC (.int 0))) (fL (fLst fNil)))) (sSet 4 (f2 (gIx []) (f2 (gIx []) (fVar 0) (fC (.int 0))) (f2 gMod (fCall gInt (fCons (fVar 3) fNil)) (fCall gLen (fCons (f2 (gIx []) (fVar 0) (fC (.int 0))) fNil))))) sNil)
  (sSeq (sIf (fAndB (fTst (f2 gLt (fVar 3) (fCall gLen (fCons (f2 (gIx []) (fVar 0) (fC (.int 0))) fNil)))) (fTst (f2 gGe (fCall gAbs (fCons (fVar 4) fNil)) (f2 gPow (fC (.int 10)) (fC (.int 18)))))) (sSeq (sSet 5 (f2 gAdd (f2 gMul (fC (.int 2)) (f2 gSub (fCall gAbs (fCons (fVar 4) fNil)) (f2 gPow (fC (.int 10)) (fC (.int 18))))) (fCall gInt (fCons (f2 gLt (fVar 4) (fC (.int 0))) fNil))))
  (sSeq (sPen (fVar 0) (f2 gDiv (fCall gInt (fCons (fVar 5) fNil)) (fVar 1)) (fC (.int 2)))
  (sRet (f2 gMod (fCall gInt (fCons (fVar 5) fNil)) (fVar 1))))) sNil)
  (sSeq (sSet 6 (f2 gMod (fCall gInt (fCons (f2 gPow (f2 gAdd (f2 gAdd (f2 gMod (fCall gInt (fCons (fVar 4) fNil)) (fC (.int 2147483563))) (f2 gMul (fC (.int 40009)) (fVar 3))) (fC (.int 67))) (fC (.int 5))) fNil)) (fC (.int 2147483587))))
  (sSeq (sSet 6 (f2 gMod (fCall gInt (fCons (f2 gPow (f2 gAdd (f2 gAdd (f2 gMul (fVar 6) (f2 gAdd (f2 gMul (fC (.int 2)) (fVar 3)) (fC (.int 251)))) (f2 gMul (f2 gMul (fC (.int 67)) (fVar 3)) (fVar 3))) (fC (.int 40009))) (fC (.int 3))) fNil)) (fC (.int 2147483549))))
  (sRet (f2 gMod (fCall gInt (fCons (f2 gDiv (fVar 6) (fC (.int 32))) fNil)) (fVar 1)))))))))))
def F__law_draw : List D → List D → R D := runF ["pen", "many", "digit", "at", "cell", "great", "mixed"] fs__law_draw
theorem ok__law_draw (T : Txt P base K mg Z) : FnG P w K mg base 1 Z.a__law_draw Z.d__law_draw ["pen", "many"] (spF K mg 2 F__law_draw) := by
  have sc : FnScope ["pen", "many", "digit", "at", "cell", "great", "mixed"] ["pen", "many"] (defScope s__law_draw) := ⟨rfl, rfl, rfl, by decide +kernel, rfl, by decide +kernel, by decide +kernel⟩
  have nd := sc.nd
  refine fnD T.f__law_draw sc (fs := fs__law_draw) fun cdv A outer s H E hr hcd tk => ?_
  exact (dss_cons (ds_if (dt_cmp op_gtA gt_d (de_ix (de_var 0) de_int) de_int (nomark _)) (dss_cons (ds_set nd (de_op op_modN mod_d (de_callT call_intA int_d T.n_int (da_cons (de_ix (de_var 0) de_int) da_nil)) (de_var 1)))
  (dss_cons (ds_pen (ps_asg (de_op op_divA div_d (de_callT call_intA int_d T.n_int (da_cons (de_ix (de_var 0) de_int) da_nil)) (de_var 1)) (pg_sub (de_var 0) de_int set_list)))
  (dss_one (ds_ret (de_var 2))))) dss_nil)
  (dss_cons (ds_set nd (de_ix (de_var 0) de_int))
  (dss_cons (ds_pen (ps_asg (de_op op_addA add_d (de_var 3) de_int) (pg_sub (de_var 0) de_int set_list)))
  (dss_cons (ds_set nd (de_op op_addA add_d (de_op op_mulA mul_d de_int (de_var 3)) de_int))
  (dss_cons (ds_if (dt_cmp (op_neD (hu64 hr)) ne_d (de_ix (de_var 0) de_int) (de_l (dl_lst da_nil)) (nomark _)) (dss_one (ds_set nd (de_ix (de_ix (de_var 0) de_int) (de_op op_modN mod_d (de_callT call_intA int_d T.n_int (da_cons (de_var 3) da_nil)) (de_callB call_lenA len_d T.n_len (da_cons (de_ix (de_var 0) de_int) da_nil)))))) dss_nil)
  (dss_cons (ds_if (dt_w (dw_and (dt_cmp op_ltA lt_d (de_var 3) (de_callB call_lenA len_d T.n_len (da_cons (de_ix (de_var 0) de_int) da_nil)) (nomark _)) (dw_and1 (dt_cmp op_geA ge_d (de_callB call_abs abs_d T.n_abs (da_cons (de_var 4) da_nil)) (de_op op_pow pow_d de_int de_int) (nomark _))))) (dss_cons (ds_set nd (de_op op_addA add_d (de_op op_mulA mul_d de_int (de_op op_sub sub_d (de_callB call_abs abs_d T.n_abs (da_cons (de_var 4) da_nil)) (de_op op_pow pow_d de_int de_int))) (de_callT call_intA int_d T.n_int (da_cons (de_cmp op_ltA lt_d (de_var 4) de_int (nomark _)) da_nil))))
  (dss_cons (ds_pen (ps_asg (de_op op_divA div_d (de_callT call_intA int_d T.n_int (da_cons (de_var 5) da_nil)) (de_var 1)) (pg_sub (de_var 0) de_int set_list)))
  (dss_one (ds_ret (de_op op_modN mod_d (de_callT call_intA int_d T.n_int (da_cons (de_var 5) da_nil)) (de_var 1)))))) dss_nil)
  (dss_cons (ds_set nd (de_op op_modN mod_d (de_callT call_intA int_d T.n_int (da_cons (de_op op_pow pow_d (de_op op_addA add_d (de_op op_addA add_d (de_op op_modN mod_d (de_callT call_intA int_d T.n_int (da_cons (de_var 4) da_nil)) de_int) (de_op op_mulA mul_d de_int (de_var 3))) de_int) de_int) da_nil)) de_int))
  (dss_cons (ds_set nd (de_op op_modN mod_d (de_callT call_intA int_d T.n_int (da_cons (de_op op_pow pow_d (de_op op_addA add_d (de_op op_addA add_d (de_op op_mulA mul_d (de_var 6) (de_op op_addA add_d (de_op op_mulA mul_d de_int (de_var 3)) de_int)) (de_op op_mulA mul_d (de_op op_mulA mul_d de_int (de_var 3)) (de_var 3))) de_int) de_int) da_nil)) de_int))
  (dss_one (ds_ret (de_op op_modN mod_d (de_callT call_intA int_d T.n_int (da_cons (de_op op_divA div_d (de_var 6) de_int) da_nil)) (de_var 1))))))))))))
def fs__law_pick : FS := (sRet (f2 (gIx []) (fVar 1) (fCall F__law_draw (fCons (fVar 0) (fCons (fCall gLen (fCons (fVar 1) fNil)) fNil)))))
def F__law_pick : List D → List D → R D := runF ["pen", "some"] fs__law_pick
theorem ok__law_pick (T : Txt P base K mg Z) : FnG P w K mg base 2 Z.a__law_pick Z.d__law_pick ["pen", "some"] (spF K mg 2 F__law_pick) := by
  have sc : FnScope ["pen", "some"] ["pen", "some"] (defScope s__law_pick) := ⟨rfl, rfl, rfl, by decide +kernel, rfl, by decide +kernel, by decide +kernel⟩
  have nd := sc.nd
  refine fnD T.f__law_pick sc (fs := fs__law_pick) fun cdv A outer s H E hr hcd tk => ?_
  exact (dss_one (ds_ret (de_ix (de_var 1) (de_call (ok__law_draw T) (hr.mono (by decide)) T.g__law_draw T.f__law_draw.kp (bd__law_draw T) tk (da_cons (de_var 0) (da_cons (de_callB call_lenA len_d T.n_len (da_cons (de_var 1) da_nil)) da_nil)) (hlen := (ln_cons (ln_cons ln_nil)))))))
def fs__law_pairs : FS := (sSeq (sSetO 1 (fLst fNil))
  (sSeq (sFor (fEnumX (fVar 0)) (hSq 2 (hCons (hName 2) (hCons (hName 3) hNil)))
  (sExt 1 (fL (fLc (fIt (fSlT (fVar 0) (fPart (f2 gAdd (fVar 2) (fC (.int 1)))) fNoPart)) (hName 4) fTrue (fTup (fCons (fVar 3) (fCons (fVar 4) fNil))) [4]))))
  (sRetO 1)))
def F__law_pairs : List D → List D → R D := runF ["some", "found", "at", "one", "other"] fs__law_pairs
theorem ok__law_pairs (T : Txt P base K mg Z) : FnG P w K mg base 1 Z.a__law_pairs Z.d__law_pairs ["some"] (spF K mg 1 F__law_pairs) := by
  have sc : FnScope ["some", "found", "at", "one", "other"] ["some"] (defScope s__law_pairs) := ⟨rfl, rfl, rfl, by decide +kernel, rfl, by decide +kernel, by decide +kernel⟩
  have nd := sc.nd
  refine fnD T.f__law_pairs sc (fs := fs__law_pairs) fun cdv A outer s H E hr hcd tk => ?_
  exact (dss_cons (ds_setO nd (dl_lst da_nil))
  (dss_cons (ds_for (passes_of rfl) rfl (di_enumX T.n_enumerate (de_var 0)) (dg_sq rfl (dgs_cons (dg_name 2 nd) (dgs_cons (dg_name 3 nd) dgs_nil)))
  (dss_one (ds_ext 1 (pe_bm PySem.F.plainAttrs_list PySem.F.slot_list_extend PySem.F.type_list_extend mt_extend (pv 1) (pa_cons (de_l (dl_lc [("other", 4)] rfl nd (di_any (de_sl (de_var 0) (do_some (de_op op_addA add_d (de_var 2) de_int)) do_none)) (fun _ _ _ _ _ => (dg_name 4 nd)) (fun _ _ _ _ _ => dts_nil) (fun _ _ _ _ _ => (de_tup (da_cons (de_var 3) (da_cons (de_var 4) da_nil)))))) pa_nil)))))
  (dss_one (ds_retO 1))))
def fs__law_threes : FS := (sSeq (sSetO 1 (fLst fNil))
  (sSeq (sFor (fEnumX (fVar 0)) (hSq 2 (hCons (hName 2) (hCons (hName 3) hNil)))
  (sExt 1 (fL (fLc (fIt (fCall F__law_pairs (fCons (fSlT (fVar 0) (fPart (f2 gAdd (fVar 2) (fC (.int 1)))) fNoPart) fNil))) (hName 4) fTrue (f2 gAdd (fTup (fCons (fVar 3) fNil)) (fVar 4)) [4]))))
  (sRetO 1)))
def F__law_threes : List D → List D → R D := runF ["some", "found", "at", "one", "pair"] fs__law_threes
theorem ok__law_threes (T : Txt P base K mg Z) : FnG P w K mg base 2 Z.a__law_threes Z.d__law_threes ["some"] (spF K mg 1 F__law_threes) := by
  have sc : FnScope ["some", "found", "at", "one", "pair"] ["some"] (defScope s__law_threes) := ⟨rfl, rfl, rfl, by decide +kernel, rfl, by decide +kernel, by decide +kernel⟩
  have nd := sc.nd
  refine fnD T.f__law_threes sc (fs := fs__law_threes) fun cdv A outer s H E hr hcd tk => ?_
  exact (dss_cons (ds_setO nd (dl_lst da_nil))
  (dss_cons (ds_for (passes_of rfl) rfl (di_enumX T.n_enumerate (de_var 0)) (dg_sq rfl (dgs_cons (dg_name 2 nd) (dgs_cons (dg_name 3 nd) dgs_nil)))
  (dss_one (ds_ext 1 (pe_bm PySem.F.plainAttrs_list PySem.F.slot_list_extend PySem.F.type_list_extend mt_extend (pv 1) (pa_cons (de_l (dl_lc [("pair", 4)] rfl nd (di_any (de_call (ok__law_pairs T) (hr.mono (by decide)) T.g__law_pairs T.f__law_pairs.kp (bd__law_pairs T) tk (da_cons (de_sl (de_var 0) (do_some (de_op op_addA add_d (de_var 2) de_int)) do_none) da_nil) (hlen := (ln_cons ln_nil)))) (fun _ _ _ _ _ => (dg_name 4 nd)) (fun _ _ _ _ _ => dts_nil) (fun _ _ _ _ _ => (de_op op_addA add_d (de_tup (da_cons (de_var 3) da_nil)) (de_var 4))))) pa_nil)))))
  (dss_one (ds_retO 1))))
def fs__law_names : FS := (sRet (fL (fLc (fIt (fCall F__law_pairs (fCons (fL (fRgL (fC (.int 8)))) fNil))) (hSq 2 (hCons (hName 0) (hCons (hName 1) hNil))) fTrue (f2 gAdd (fCall gStr (fCons (fVar 0) fNil)) (fCall gStr (fCons (fVar 1) fNil))) [0, 1])))
def F__law_names : List D → List D → R D := runF ["one", "other"] fs__law_names
theorem ok__law_names (T : Txt P base K mg Z) : FnG P w K mg base 2 Z.a__law_names Z.d__law_names [] (spF K mg 0 F__law_names) := by
  have sc : FnScope ["one", "other"] [] (defScope s__law_names) := ⟨rfl, rfl, rfl, by decide +kernel, rfl, by decide +kernel, by decide +kernel⟩
  have nd := sc.nd
  refine fnD T.f__law_names sc (fs := fs__law_names) fun cdv A outer s H E hr hcd tk => ?_
  exact (dss_one (ds_ret (de_l (dl_lc [("one", 0), ("other", 1)] rfl nd (di_any (de_call (ok__law_pairs T) (hr.mono (by decide)) T.g__law_pairs T.f__law_pairs.kp (bd__law_pairs T) tk (da_cons (de_l (dl_listRange rfl T.n_list T.n_range de_int)) da_nil) (hlen := (ln_cons ln_nil)))) (fun _ _ _ _ _ => (dg_sq rfl (dgs_cons (dg_name 0 nd) (dgs_cons (dg_name 1 nd) dgs_nil)))) (fun _ _ _ _ _ => dts_nil) (fun _ _ _ _ _ => (de_op op_addA add_d (de_callT call_str_int str_d T.n_str (da_cons (de_var 0) da_nil)) (de_callT call_str_int str_d T.n_str (da_cons (de_var 1) da_nil))))))))
def fs__law_mask : FS := (sSeq (sSet 1 (fMeth gJoin (fC (.str "")) (fVar 0)))
  (sSeq (sSet 2 (fL (fLc (fItR (fC (.int 8))) (hName 4) fTrue (f2 gMod (fCall gInt (fCons (fMeth gCount (fVar 1) (fCall gStr (fCons (fVar 4) fNil))) fNil)) (fC (.int 2))) [4])))
  (sSeq (sSet 3 (fCall gSum (fCons (fL (fLc (fZipM (fVar 2) (fTup (fCons (fC (.int 1)) (fCons (fC (.int 2)) (fCons (fC (.int 4)) (fCons (fC (.int 8)) (fCons (fC (.int 16)) (fCons (fC (.int 32)) (fCons (fC (.int 64)) (fCons (fC (.int 128)) fNil)))))))))) (hSq 2 (hCons (hName 5) (hCons (hName 6) hNil))) fTrue (f2 gMul (fVar 5) (fVar 6)) [5, 6])) fNil)))
  (sRet (fCall gMin2 (fCons (fVar 3) (fCons (f2 gSub (fC (.int 255)) (fVar 3)) fNil)))))))
def F__law_mask : List D → List D → R D := runF ["names", "text", "odd", "total", "sign", "bit", "worth"] fs__law_mask
theorem ok__law_mask (T : Txt P base K mg Z) : FnG P w K mg base 1 Z.a__law_mask Z.d__law_mask ["names"] (spF K mg 1 F__law_mask) := by
  have sc : FnScope ["names", "text", "odd", "total", "sign", "bit", "worth"] ["names"] (defScope s__law_mask) := ⟨rfl, rfl, rfl, by decide +kernel, rfl, by decide +kernel, by decide +kernel⟩
  have nd := sc.nd
  refine fnD T.f__law_mask sc (fs := fs__law_mask) fun cdv A outer s H E hr hcd tk => ?_
  exact (dss_cons (ds_set nd (de_join de_str (de_var 0)))
  (dss_cons (ds_setLc [("sign", 4)] rfl nd (di_rg T.n_range de_int) (fun _ _ _ _ _ => (dg_name 4 nd)) (fun _ _ _ _ _ => dts_nil) (fun _ _ _ _ _ => (de_op op_modN mod_d (de_callT call_intA int_d T.n_int (da_cons (de_count (de_var 1) (de_callT call_str_int str_d T.n_str (da_cons (de_var 4) da_nil))) da_nil)) de_int)))
  (dss_cons (ds_set nd (de_callB (cr_sum rfl) sum_d T.n_sum (da_cons (de_l (dl_lc [("bit", 5), ("worth", 6)] rfl nd (di_zipM T.n_zip (de_var 2) (de_tup (da_cons de_int (da_cons de_int (da_cons de_int (da_cons de_int (da_cons de_int (da_cons de_int (da_cons de_int (da_cons de_int da_nil)))))))))) (fun _ _ _ _ _ => (dg_sq rfl (dgs_cons (dg_name 5 nd) (dgs_cons (dg_name 6 nd) dgs_nil)))) (fun _ _ _ _ _ => dts_nil) (fun _ _ _ _ _ => (de_op op_mulA mul_d (de_var 5) (de_var 6))))) da_nil)))
  (dss_one (ds_ret (de_callB (call_min2 rfl) min2_d T.n_min (da_cons (de_var 3) (da_cons (de_op op_sub sub_d de_int (de_var 3)) da_nil))))))))
def fs__law_told : FS := (sSeq (sSet 1 (fL (fLc (fEnumX (fTup (fCons (fC (.int 1)) (fCons (fC (.int 2)) (fCons (fC (.int 4)) (fCons (fC (.int 8)) (fCons (fC (.int 16)) (fCons (fC (.int 32)) (fCons (fC (.int 64)) (fCons (fC (.int 128)) fNil)))))))))) (hSq 2 (hCons (hName 3) (hCons (hName 4) hNil))) (fTst (f2 gEq (f2 gMod (fCall gInt (fCons (f2 gDiv (fVar 0) (fVar 4)) fNil)) (fC (.int 2))) (fC (.int 1)))) (fVar 3) [3, 4])))
  (sSeq (sSet 2 (fL (fLc (fItR (fC (.int 8))) (hName 3) (fTst (f2 (gIn true) (fVar 3) (fVar 1))) (fVar 3) [3])))
  (sRet (fIf (fOrB (fTst (f2 gGt (fCall gLen (fCons (fVar 1) fNil)) (fC (.int 4)))) (fAndB (fTst (f2 gEq (fCall gLen (fCons (fVar 1) fNil)) (fC (.int 4)))) (fTst (f2 (gIn true) (fC (.int 0)) (fVar 1))))) (fCall gTuple (fCons (fVar 2) fNil)) (fCall gTuple (fCons (fVar 1) fNil))))))
def F__law_told : List D → List D → R D := runF ["mask", "signs", "rest", "sign", "worth"] fs__law_told
theorem ok__law_told (T : Txt P base K mg Z) : FnG P w K mg base 1 Z.a__law_told Z.d__law_told ["mask"] (spF K mg 1 F__law_told) := by
  have sc : FnScope ["mask", "signs", "rest", "sign", "worth"] ["mask"] (defScope s__law_told) := ⟨rfl, rfl, rfl, by decide +kernel, rfl, by decide +kernel, by decide +kernel⟩
  have nd := sc.nd
  refine fnD T.f__law_told sc (fs := fs__law_told) fun cdv A outer s H E hr hcd tk => ?_
  exact (dss_cons (ds_set nd (de_l (dl_lc [("sign", 3), ("worth", 4)] rfl nd (di_enumX T.n_enumerate (de_tup (da_cons de_int (da_cons de_int (da_cons de_int (da_cons de_int (da_cons de_int (da_cons de_int (da_cons de_int (da_cons de_int da_nil)))))))))) (fun _ _ _ _ _ => (dg_sq rfl (dgs_cons (dg_name 3 nd) (dgs_cons (dg_name 4 nd) dgs_nil)))) (fun _ _ _ _ _ => (dts_one (dt_cmp (op_eqD (hu64 hr)) eq_d (de_op op_modN mod_d (de_callT call_intA int_d T.n_int (da_cons (de_op op_divA div_d (de_var 0) (de_var 4)) da_nil)) de_int) de_int (nomark _)))) (fun _ _ _ _ _ => (de_var 3)))))
  (dss_cons (ds_setLc [("sign", 3)] rfl nd (di_rg T.n_range de_int) (fun _ _ _ _ _ => (dg_name 3 nd)) (fun _ _ _ _ _ => (dts_one (dt_cmp (op_notInA (hu65 hr)) notin_d (de_var 3) (de_var 1) (by rfl)))) (fun _ _ _ _ _ => (de_var 3)))
  (dss_one (ds_ret (de_if (dt_w (dw_or (dt_cmp op_gtA gt_d (de_callB call_lenA len_d T.n_len (da_cons (de_var 1) da_nil)) de_int (nomark _)) (dw_or1 (dt_w (dw_and (dt_cmp (op_eqD (hu64 hr)) eq_d (de_callB call_lenA len_d T.n_len (da_cons (de_var 1) da_nil)) de_int (nomark _)) (dw_and1 (dt_cmp (op_notInA (hu65 hr)) notin_d de_int (de_var 1) (by rfl)))))))) (de_callT call_tuple_of tuple_d T.n_tuple (da_cons (de_var 2) da_nil)) (de_callT call_tuple_of tuple_d T.n_tuple (da_cons (de_var 1) da_nil)))))))
def fs__law_roots : FS := (sRet (f2 gAdd (fCall F__law_pairs (fCons (fL (fRgL (fC (.int 8)))) fNil)) (fL (fLc (fIt (fCall F__law_threes (fCons (fL (fRgL2 (fC (.int 1)) (fC (.int 8)))) fNil))) (hName 0) fTrue (f2 gAdd (fTup (fCons (fC (.int 0)) fNil)) (fVar 0)) [0]))))
def F__law_roots : List D → List D → R D := runF ["three"] fs__law_roots
theorem ok__law_roots (T : Txt P base K mg Z) : FnG P w K mg base 3 Z.a__law_roots Z.d__law_roots [] (spF K mg 0 F__law_roots) := by
  have sc : FnScope ["three"] [] (defScope s__law_roots) := ⟨rfl, rfl, rfl, by decide +kernel, rfl, by decide +kernel, by decide +kernel⟩
  have nd := sc.nd
  refine fnD T.f__law_roots sc (fs := fs__law_roots) fun cdv A outer s H E hr hcd tk => ?_
  exact (dss_one (ds_ret (de_op op_addA add_d (de_call (ok__law_pairs T) (hr.mono (by decide)) T.g__law_pairs T.f__law_pairs.kp (bd__law_pairs T) tk (da_cons (de_l (dl_listRange rfl T.n_list T.n_range de_int)) da_nil) (hlen := (ln_cons ln_nil))) (de_l (dl_lc [("three", 0)] rfl nd (di_any (de_call (ok__law_threes T) (hr.mono (by decide)) T.g__law_threes T.f__law_threes.kp (bd__law_threes T) tk (da_cons (de_l (dl_listRange2 rfl T.n_list T.n_range de_int de_int)) da_nil) (hlen := (ln_cons ln_nil)))) (fun _ _ _ _ _ => (dg_name 0 nd)) (fun _ _ _ _ _ => dts_nil) (fun _ _ _ _ _ => (de_op op_addA add_d (de_tup (da_cons de_int da_nil)) (de_var 0))))))))
def post__law_heard : FS := (sSeq (sIf (fTst (f2 gIs (fVar 1) (fC .non))) (sRet (fL (fLst (fCons (fVar 2) fNil)))) sNil)
  (sSeq (sSet 3 (f2 gAdd (fVar 3) (f2 gMul (fL (fLst (fCons (fTup (fCons (fC (.str "names")) (fCons (fExA knownX "part" (fVar 1)) fNil))) fNil))) (fCall gInt (fCons (fIsX tb_BadNames (fVar 1)) fNil)))))
  (sSeq (sSet 3 (f2 gAdd (fVar 3) (f2 gMul (fL (fLst (fCons (fTup (fCons (fC (.str "number")) (fCons (fExA knownX "part" (fVar 1)) fNil))) fNil))) (fCall gInt (fCons (fIsX tb_BadNumber (fVar 1)) fNil)))))
  (sRet (fIf (fTst (f2 gEq (fCall gLen (fCons (fVar 3) fNil)) (fC (.int 1)))) (f2 (gIx []) (fVar 3) (fC (.int 0))) (fTup (fCons (fC (.str "odd")) fNil)))))))
def H__law_heard : (List D → R D) → List D → R D := heardF knownX 4 1 (aSet 2) ((((List.replicate 5 Sl.none).set 1 (.val .non)).set 2 (.val .non)).set 3 (.val (.lst []))) post__law_heard
theorem fsc__law_heard : FnScope ["ask", "caught", "found", "some", "error"] ["ask"] (defScope s__law_heard) := ⟨rfl, rfl, rfl, by decide +kernel, rfl, by decide +kernel, by decide +kernel⟩
theorem ok__law_heard (T : Txt P base K mg Z) (k : Nat) : HeardOk P w K mg base ["ask", "caught", "found", "some", "error"] "_law_heard" (defScope s__law_heard) Z.a__law_heard (defBody s__law_heard) "ask" k H__law_heard := by
  have nd := (fsc__law_heard).nd
  exact heard_ok (by rfl) (fun _ _ _ _ _ => pre_three (i := 1) (j := 2) (l := 3) rfl nd (by decide)) (fun _ _ _ _ _ _ _ _ _ he => try_askSet (i := 4) (j := 1) (m := 2) he rfl rfl nd ⟨rfl, by decide, .inl T.m_SightError⟩ (catch_SightError T)) (fun _ _ _ _ _ hr => (dss_cons (ds_if (dt_cmp op_isC is_d (de_var 1) de_non (nomark _)) (dss_one (ds_ret (de_l (dl_lst (da_cons (de_var 2) da_nil))))) dss_nil)
  (dss_cons (ds_set nd (de_op op_addA add_d (de_var 3) (de_op op_mulA mul_d (de_l (dl_lst (da_cons (de_tup (da_cons de_str (da_cons (de_exA (de_var 1) (exkn T) (exno T)) da_nil))) da_nil))) (de_callT call_intA int_d T.n_int (da_cons (de_isX (de_var 1) T.n_isinstance T.m_BadNames (tab_BadNames T)) da_nil)))))
  (dss_cons (ds_set nd (de_op op_addA add_d (de_var 3) (de_op op_mulA mul_d (de_l (dl_lst (da_cons (de_tup (da_cons de_str (da_cons (de_exA (de_var 1) (exkn T) (exno T)) da_nil))) da_nil))) (de_callT call_intA int_d T.n_int (da_cons (de_isX (de_var 1) T.n_isinstance T.m_BadNumber (tab_BadNumber T)) da_nil)))))
  (dss_one (ds_ret (de_if (dt_cmp (op_eqD (hu64 hr)) eq_d (de_callB call_lenA len_d T.n_len (da_cons (de_var 3) da_nil)) de_int (nomark _)) (de_ix (de_var 3) de_int) (de_tup (da_cons de_str da_nil)))))))))
def fs__law_refused_right : FS := (sSeq (sSet 1 (fCall F__law_pick (fCons (fVar 0) (fCons (fL (fLst (fCons (fC .non) (fCons (fC (.int 5)) (fCons (fC (.str "01")) (fCons (fL (fLst (fCons (fC (.str "10")) fNil))) (fCons (fL (fLst (fCons (fC (.str "00")) fNil))) (fCons (fL (fLst (fCons (fC (.str "08")) fNil))) (fCons (fL (fLst (fCons (fC (.int 1)) fNil))) (fCons (fL (fLst (fCons (fC .non) fNil))) (fCons (fL (fLst (fCons (fC (.str "01")) (fCons (fC (.str "1")) fNil)))) (fCons (fL (fLst (fCons (fC (.str "012")) fNil))) (fCons (fDisp [("01", 1)]) (fCons (f2 gMul (fL (fLst (fCons (fC (.str "01")) fNil))) (fC (.int 101))) (fCons (fL (fLst (fCons (fTup (fCons (fC (.str "0")) (fCons (fC (.str "1")) fNil))) fNil))) (fCons (fL (fLst (fCons (fL (fLst (fCons (fC (.str "01")) fNil))) fNil))) fNil)))))))))))))))) fNil))))
  (sSeq (sSet 2 (fCall F__law_pick (fCons (fVar 0) (fCons (fL (fLst (fCons (fC .non) (fCons (fC (.int 5)) (fCons (fC (.str "01")) (fCons (fTup fNil) (fCons (fTup (fCons (fC (.int 0)) fNil)) (fCons (fTup (fCons (fC (.int 1)) (fCons (fC (.int 0)) fNil))) (fCons (fTup (fCons (fC (.int 0)) (fCons (fC (.int 0)) fNil))) (fCons (fTup (fCons (fC (.int 0)) (fCons (fC (.int 8)) fNil))) (fCons (fTup (fCons (f1 gNeg (fC (.int 1))) (fCons (fC (.int 2)) fNil))) (fCons (fTup (fCons (fC (.int 1)) (fCons (fC (.int 2)) (fCons (fC (.int 3)) (fCons (fC (.int 4)) fNil))))) (fCons (fTup (fCons (fC (.int 0)) (fCons (fC (.int 2)) (fCons (fC (.int 1)) (fCons (fC (.int 3)) fNil))))) (fCons (fTup (fCons (fC (.int 0)) (fCons (fC (.int 1)) (fCons (fC (.int 2)) fNil)))) (fCons (fTup (fCons (fC (.int 0)) (fCons (fC (.int 1)) (fCons (fC (.int 2)) (fCons (fC (.int 2)) fNil))))) (fCons (fTup (fCons (fC (.int 0)) (fCons (fC (.int 1)) (fCons (fC (.int 2)) (fCons (fC (.bl true)) fNil))))) (fCons (fTup (fCons (fC (.int 0)) (fCons (fC .non) fNil))) (fCons (fTup (fCons (fC (.int 0)) (fCons (fC (.int 1)) (fCons (fC (.int 2)) (fCons (fC (.int 3)) (fCons (fC (.int 4)) (fCons (fC (.int 5)) fNil))))))) fNil)))))))))))))))))) fNil))))
  (sSeq (sSet 3 (fCall F__law_pick (fCons (fVar 0) (fCons (fL (fLst (fCons (fC .non) (fCons (f1 gNeg (fC (.int 1))) (fCons (fC (.int 8)) (fCons (fC (.bl true)) (fCons (fC (.str "3")) (fCons (fTup (fCons (fC (.int 3)) fNil)) fNil)))))))) fNil))))
  (sSeq (sSet 4 (fL (fLst (fCons (fHeard H__law_heard (fCall F_sum_of (fCons (fVar 1) fNil))) (fCons (fHeard H__law_heard (fCall F_pairs_of (fCons (fVar 2) fNil))) (fCons (fHeard H__law_heard (fCall F_many_ordered (fCons (fVar 3) fNil))) fNil))))))
  (sRet (f2 gEq (fVar 4) (fL (fLst (fCons (fTup (fCons (fC (.str "names")) (fCons (fC (.str "names")) fNil))) (fCons (fTup (fCons (fC (.str "number")) (fCons (fC (.str "root")) fNil))) (fCons (fTup (fCons (fC (.str "number")) (fCons (fC (.str "many")) fNil))) fNil)))))))))))
def F__law_refused_right : List D → List D → R D := runF ["pen", "bad", "odd", "far", "heard"] fs__law_refused_right
theorem ok__law_refused_right (T : Txt P base K mg Z) : FnG P w K mg base 8 Z.a__law_refused_right Z.d__law_refused_right ["pen"] (spF K mg 1 F__law_refused_right) := by
  have sc : FnScope ["pen", "bad", "odd", "far", "heard"] ["pen"] (defScope s__law_refused_right) := ⟨rfl, rfl, rfl, by decide +kernel, rfl, by decide +kernel, by decide +kernel⟩
  have nd := sc.nd
  refine fnD T.f__law_refused_right sc (fs := fs__law_refused_right) fun cdv A outer s H E hr hcd tk => ?_
  exact (dss_cons (ds_set nd (de_call (ok__law_pick T) (hr.mono (by decide)) T.g__law_pick T.f__law_pick.kp (bd__law_pick T) tk (da_cons (de_var 0) (da_cons (de_l (dl_lst (da_cons de_non (da_cons de_int (da_cons de_str (da_cons (de_l (dl_lst (da_cons de_str da_nil))) (da_cons (de_l (dl_lst (da_cons de_str da_nil))) (da_cons (de_l (dl_lst (da_cons de_str da_nil))) (da_cons (de_l (dl_lst (da_cons de_int da_nil))) (da_cons (de_l (dl_lst (da_cons de_non da_nil))) (da_cons (de_l (dl_lst (da_cons de_str (da_cons de_str da_nil)))) (da_cons (de_l (dl_lst (da_cons de_str da_nil))) (da_cons (de_disp (kds := [("01", 1)]) (pps_c pps_nil)) (da_cons (de_op op_mulA mul_d (de_l (dl_lst (da_cons de_str da_nil))) de_int) (da_cons (de_l (dl_lst (da_cons (de_tup (da_cons de_str (da_cons de_str da_nil))) da_nil))) (da_cons (de_l (dl_lst (da_cons (de_l (dl_lst (da_cons de_str da_nil))) da_nil))) da_nil)))))))))))))))) da_nil)) (hlen := (ln_cons (ln_cons ln_nil)))))
  (dss_cons (ds_set nd (de_call (ok__law_pick T) (hr.mono (by decide)) T.g__law_pick T.f__law_pick.kp (bd__law_pick T) tk (da_cons (de_var 0) (da_cons (de_l (dl_lst (da_cons de_non (da_cons de_int (da_cons de_str (da_cons (de_tup da_nil) (da_cons (de_tup (da_cons de_int da_nil)) (da_cons (de_tup (da_cons de_int (da_cons de_int da_nil))) (da_cons (de_tup (da_cons de_int (da_cons de_int da_nil))) (da_cons (de_tup (da_cons de_int (da_cons de_int da_nil))) (da_cons (de_tup (da_cons (de_un un_neg neg_d de_int) (da_cons de_int da_nil))) (da_cons (de_tup (da_cons de_int (da_cons de_int (da_cons de_int (da_cons de_int da_nil))))) (da_cons (de_tup (da_cons de_int (da_cons de_int (da_cons de_int (da_cons de_int da_nil))))) (da_cons (de_tup (da_cons de_int (da_cons de_int (da_cons de_int da_nil)))) (da_cons (de_tup (da_cons de_int (da_cons de_int (da_cons de_int (da_cons de_int da_nil))))) (da_cons (de_tup (da_cons de_int (da_cons de_int (da_cons de_int (da_cons de_bl da_nil))))) (da_cons (de_tup (da_cons de_int (da_cons de_non da_nil))) (da_cons (de_tup (da_cons de_int (da_cons de_int (da_cons de_int (da_cons de_int (da_cons de_int (da_cons de_int da_nil))))))) da_nil)))))))))))))))))) da_nil)) (hlen := (ln_cons (ln_cons ln_nil)))))
  (dss_cons (ds_set nd (de_call (ok__law_pick T) (hr.mono (by decide)) T.g__law_pick T.f__law_pick.kp (bd__law_pick T) tk (da_cons (de_var 0) (da_cons (de_l (dl_lst (da_cons de_non (da_cons (de_un un_neg neg_d de_int) (da_cons de_int (da_cons de_bl (da_cons de_str (da_cons (de_tup (da_cons de_int da_nil)) da_nil)))))))) da_nil)) (hlen := (ln_cons (ln_cons ln_nil)))))
  (dss_cons (ds_set nd (de_l (dl_lst (da_cons (de_heard (k := 4) T.f__law_heard (fsc__law_heard) T.g__law_heard (bd__law_heard T) (ok__law_heard T _) (hr.mono (by decide)) (.none fun _ => rfl) (lamQ_by (nm := none) (by show lamQB none ["pen", "bad", "odd", "far", "heard"] (defScope s__law_refused_right) _ = true; decide +kernel)) (lamB_none fun _ _ _ _ _ _ => rfl) T.tb__law_refused_right (hcd.symm.trans T.l__law_refused_right) T.tm__law_refused_right T.tu__law_refused_right (fun _ _ _ _ _ _ _ hr tk => (de_call (ok_sum_of T) (hr.mono (by decide)) T.g_sum_of T.f_sum_of.kp (bd_sum_of T) tk (da_cons (de_var 1) da_nil) (hlen := (ln_cons ln_nil))))) (da_cons (de_heard (k := 5) T.f__law_heard (fsc__law_heard) T.g__law_heard (bd__law_heard T) (ok__law_heard T _) (hr.mono (by decide)) (.one (x := "a1") rfl rfl) (lamQ_by (nm := (some "a1")) (by show lamQB (some "a1") ["pen", "bad", "odd", "far", "heard"] (defScope s__law_refused_right) _ = true; decide +kernel)) (lamB_dflt (x := "a1") fun _ _ _ _ _ _ _ _ _ _ e h => BindsTo.of_defaults e h rfl rfl rfl) T.tb__law_refused_right (hcd.symm.trans T.l__law_refused_right) T.tm__law_refused_right T.tu__law_refused_right (fun _ _ _ _ _ _ _ hr tk => (de_call (ok_pairs_of T) (hr.mono (by decide)) T.g_pairs_of T.f_pairs_of.kp (bd_pairs_of T) tk (da_cons (de_var 2) da_nil) (hlen := (ln_cons ln_nil))))) (da_cons (de_heard (k := 3) T.f__law_heard (fsc__law_heard) T.g__law_heard (bd__law_heard T) (ok__law_heard T _) (hr.mono (by decide)) (.one (x := "a2") rfl rfl) (lamQ_by (nm := (some "a2")) (by show lamQB (some "a2") ["pen", "bad", "odd", "far", "heard"] (defScope s__law_refused_right) _ = true; decide +kernel)) (lamB_dflt (x := "a2") fun _ _ _ _ _ _ _ _ _ _ e h => BindsTo.of_defaults e h rfl rfl rfl) T.tb__law_refused_right (hcd.symm.trans T.l__law_refused_right) T.tm__law_refused_right T.tu__law_refused_right (fun _ _ _ _ _ _ _ hr tk => (de_call (ok_many_ordered T) (hr.mono (by decide)) T.g_many_ordered T.f_many_ordered.kp (bd_many_ordered T) tk (da_cons (de_var 3) da_nil) (hlen := (ln_cons ln_nil))))) da_nil))))))
  (dss_one (ds_ret (de_cmp (op_eqD (hu64 hr)) eq_d (de_var 4) (de_l (dl_lst (da_cons (de_tup (da_cons de_str (da_cons de_str da_nil))) (da_cons (de_tup (da_cons de_str (da_cons de_str da_nil))) (da_cons (de_tup (da_cons de_str (da_cons de_str da_nil))) da_nil))))) (nomark _))))))))
def fs_law : FS := (sSeq (sFor (fItR (fC (.int 8))) (hName 2)
  (sSeq (sSet 3 (fL (fLc (fItR (fCall F__law_draw (fCons (fVar 1) (fCons (fCall F__law_pick (fCons (fVar 1) (fCons (fL (fLst (fCons (fC (.int 4)) (fCons (fC (.int 9)) (fCons (fC (.int 31)) fNil))))) fNil))) fNil)))) (hName 6) fTrue (fCall F__law_pick (fCons (fVar 1) (fCons (fCall0 F__law_names) fNil))) [6])))
  (sSeq (sSet 4 (fCall F__law_told (fCons (fCall F__law_mask (fCons (fVar 3) fNil)) fNil)))
  (sSeq (sIf (fOrB (fTst (f2 gNe (fCall gRepr (fCons (fCall F_sum_of (fCons (fVar 3) fNil)) fNil)) (fCall gRepr (fCons (fVar 4) fNil)))) (fOrB (fTst (f2 gNe (fKw F_sum_of [0] (fCons (fCall gTuple (fCons (fRevL (fVar 3)) fNil)) fNil)) (fVar 4))) (fTst (f2 gNe (fCall F_sum_of (fCons (f2 gAdd (fVar 3) (fVar 3)) fNil)) (fTup fNil))))) (sRet (fC (.bl false))) sNil)
  (sSeq (sIf (fAndB (fTst (f2 gNe (fVar 4) (fTup fNil))) (fTst (f2 (gIn true) (fVar 4) (fCall0 F__law_roots)))) (sRet (fC (.bl false))) sNil)
  (sIf (fNotB (fTst (fCall F__law_refused_right (fCons (fVar 1) fNil)))) (sRet (fC (.bl false))) sNil))))))
  (sSeq (sIf (fTst (f2 gNe (fCall gRepr (fCons (fCall0 F_all_roots) fNil)) (fCall gRepr (fCons (fCall gTuple (fCons (fCall0 F__law_roots) fNil)) fNil)))) (sRet (fC (.bl false))) sNil)
  (sSeq (sFor (fItR (fC (.int 3))) (hName 2)
  (sSeq (sSet 5 (fCall F__law_pick (fCons (fVar 1) (fCons (fCall0 F__law_roots) fNil))))
  (sSeq (sSet 4 (fCall gTuple (fCons (fL (fLc (fIt (fCall F__law_pairs (fCons (fCall0 F__law_names) fNil))) (hName 7) (fTst (f2 gEq (fCall F__law_told (fCons (fCall F__law_mask (fCons (fVar 7) fNil)) fNil)) (fVar 5))) (fVar 7) [7])) fNil)))
  (sIf (fOrB (fTst (f2 gNe (fCall gRepr (fCons (fCall F_pairs_of (fCons (fVar 5) fNil)) fNil)) (fCall gRepr (fCons (fVar 4) fNil)))) (fOrB (fTst (f2 gNe (fCall gLen (fCons (fVar 4) fNil)) (fC (.int 6)))) (fTst (f2 gNe (fKw F_pairs_of [0] (fCons (fL (fCallL gList (fCons (fVar 5) fNil))) fNil)) (fVar 4))))) (sRet (fC (.bl false))) sNil))))
  (sRet (fAnd (f2 gEq (fL (fLc (fItR (fC (.int 4))) (hName 8) fTrue (fCall F_many_ordered (fCons (fVar 8) fNil)) [8])) (fL (fLst (fCons (fC (.int 1)) (fCons (fC (.int 28)) (fCons (f2 gMul (fC (.int 28)) (fC (.int 27))) (fCons (f2 gMul (f2 gMul (fC (.int 28)) (fC (.int 27))) (fC (.int 16))) fNil))))))) (f2 gEq (fL (fLc (fIt (fTup (fCons (fC (.int 5)) (fCons (fC (.int 6)) (fCons (fC (.int 7)) fNil))))) (hName 8) fTrue (fKw F_many_ordered [0] (fCons (fVar 8) fNil)) [8])) (fL (fLst (fCons (f2 gMul (fC (.int 6048)) (fC (.int 120))) (fCons (f2 gMul (fC (.int 3024)) (fC (.int 720))) (fCons (f2 gMul (fC (.int 288)) (fC (.int 5040))) fNil)))))))))))
/-- what is left: the plain law -/
def Plain : Prop := ∀ ns : List Int, ns.length ≤ 63 → (∀ z ∈ ns, Builtin.Int.intBits z ≤ 1048576) → ∃ ρ p, fs_law (rho0 9) (pen0 ns) = .ok (.rt (.bl true), ρ) p
theorem ok_law (T : Txt P base K mg Z) (plain : Plain) : FnG P w K mg base 9 Z.a_law Z.d_law ["script"] (spLaw K mg) := by
  have sc : FnScope ["script", "pen", "turn", "names", "due", "root", "lap", "pair", "many"] ["script"] (defScope s_law) := ⟨rfl, rfl, rfl, by decide +kernel, rfl, by decide +kernel, by decide +kernel⟩
  have nd := sc.nd
  refine fnRaw T.f_law sc spLaw_len fun cdv A outer s H vs Q E hr hcd tk sp => ?_
  exact law_body nd rfl rfl (ok__law_pen T) (hr.mono (by decide)) T.g__law_pen T.f__law_pen.kp (bd__law_pen T) tk ((dss_cons (ds_for (passes_of rfl) rfl (di_rg T.n_range de_int) (dg_name 2 nd)
  (dss_cons (ds_setLc [("lap", 6)] rfl nd (di_rg T.n_range (de_call (ok__law_draw T) (hr.mono (by decide)) T.g__law_draw T.f__law_draw.kp (bd__law_draw T) tk (da_cons (de_var 1) (da_cons (de_call (ok__law_pick T) (hr.mono (by decide)) T.g__law_pick T.f__law_pick.kp (bd__law_pick T) tk (da_cons (de_var 1) (da_cons (de_l (dl_lst (da_cons de_int (da_cons de_int (da_cons de_int da_nil))))) da_nil)) (hlen := (ln_cons (ln_cons ln_nil)))) da_nil)) (hlen := (ln_cons (ln_cons ln_nil))))) (fun _ _ _ _ _ => (dg_name 6 nd)) (fun _ _ _ _ _ => dts_nil) (fun _ _ _ _ _ => (de_call (ok__law_pick T) (hr.mono (by decide)) T.g__law_pick T.f__law_pick.kp (bd__law_pick T) L2.takes0 (da_cons (de_var 1) (da_cons (de_call0 (ok__law_names T) (hr.mono (by decide)) T.g__law_names T.f__law_names.kp (bd__law_names T) L2.takes0) da_nil)) (hlen := (ln_cons (ln_cons ln_nil))))))
  (dss_cons (ds_set nd (de_call (ok__law_told T) (hr.mono (by decide)) T.g__law_told T.f__law_told.kp (bd__law_told T) tk (da_cons (de_call (ok__law_mask T) (hr.mono (by decide)) T.g__law_mask T.f__law_mask.kp (bd__law_mask T) tk (da_cons (de_var 3) da_nil) (hlen := (ln_cons ln_nil))) da_nil) (hlen := (ln_cons ln_nil))))
  (dss_cons (ds_if (dt_w (dw_or (dt_cmp (op_neD (hu64 hr)) ne_d (de_callB (call_reprD hr.g (hu65 hr)) repr_d T.n_repr (da_cons (de_call (ok_sum_of T) (hr.mono (by decide)) T.g_sum_of T.f_sum_of.kp (bd_sum_of T) tk (da_cons (de_var 3) da_nil) (hlen := (ln_cons ln_nil))) da_nil)) (de_callB (call_reprD hr.g (hu65 hr)) repr_d T.n_repr (da_cons (de_var 4) da_nil)) (nomark _)) (dw_or (dt_cmp (op_neD (hu64 hr)) ne_d (de_kw (is := [0]) (ok_sum_of T) (hr.mono (by decide)) T.g_sum_of T.f_sum_of.kp (Fun.kb (ks := ["names"]) (is := [0]) T.f_sum_of fun _ _ _ _ _ _ ws hl => match ws, hl with | [_], _ => rfl) tk (dk_cons (de_callT call_tuple_of tuple_d T.n_tuple (da_cons (de_rev (de_var 3)) da_nil)) dk_nil) (ln_cons ln_nil) (fun l hl => match l, hl with | [_], _ => rfl)) (de_var 4) (nomark _)) (dw_or1 (dt_cmp (op_neD (hu64 hr)) ne_d (de_call (ok_sum_of T) (hr.mono (by decide)) T.g_sum_of T.f_sum_of.kp (bd_sum_of T) tk (da_cons (de_op op_addA add_d (de_var 3) (de_var 3)) da_nil) (hlen := (ln_cons ln_nil))) (de_tup da_nil) (nomark _)))))) (dss_one (ds_ret de_bl)) dss_nil)
  (dss_cons (ds_if (dt_w (dw_and (dt_cmp (op_neD (hu64 hr)) ne_d (de_var 4) (de_tup da_nil) (nomark _)) (dw_and1 (dt_cmp (op_notInA (hu65 hr)) notin_d (de_var 4) (de_call0 (ok__law_roots T) (hr.mono (by decide)) T.g__law_roots T.f__law_roots.kp (bd__law_roots T) tk) (by rfl))))) (dss_one (ds_ret de_bl)) dss_nil)
  (dss_one (ds_if (dt_not (dt_val (de_call (ok__law_refused_right T) (hr.mono (by decide)) T.g__law_refused_right T.f__law_refused_right.kp (bd__law_refused_right T) tk (da_cons (de_var 1) da_nil) (hlen := (ln_cons ln_nil))))) (dss_one (ds_ret de_bl)) dss_nil)))))))
  (dss_cons (ds_if (dt_cmp (op_neD (hu64 hr)) ne_d (de_callB (call_reprD hr.g (hu65 hr)) repr_d T.n_repr (da_cons (de_call0 (ok_all_roots T) (hr.mono (by decide)) T.g_all_roots T.f_all_roots.kp (bd_all_roots T) tk) da_nil)) (de_callB (call_reprD hr.g (hu65 hr)) repr_d T.n_repr (da_cons (de_callT call_tuple_of tuple_d T.n_tuple (da_cons (de_call0 (ok__law_roots T) (hr.mono (by decide)) T.g__law_roots T.f__law_roots.kp (bd__law_roots T) tk) da_nil)) da_nil)) (nomark _)) (dss_one (ds_ret de_bl)) dss_nil)
  (dss_cons (ds_for (passes_of rfl) rfl (di_rg T.n_range de_int) (dg_name 2 nd)
  (dss_cons (ds_set nd (de_call (ok__law_pick T) (hr.mono (by decide)) T.g__law_pick T.f__law_pick.kp (bd__law_pick T) tk (da_cons (de_var 1) (da_cons (de_call0 (ok__law_roots T) (hr.mono (by decide)) T.g__law_roots T.f__law_roots.kp (bd__law_roots T) tk) da_nil)) (hlen := (ln_cons (ln_cons ln_nil)))))
  (dss_cons (ds_set nd (de_callT call_tuple_of tuple_d T.n_tuple (da_cons (de_l (dl_lc [("pair", 7)] rfl nd (di_any (de_call (ok__law_pairs T) (hr.mono (by decide)) T.g__law_pairs T.f__law_pairs.kp (bd__law_pairs T) tk (da_cons (de_call0 (ok__law_names T) (hr.mono (by decide)) T.g__law_names T.f__law_names.kp (bd__law_names T) tk) da_nil) (hlen := (ln_cons ln_nil)))) (fun _ _ _ _ _ => (dg_name 7 nd)) (fun _ _ _ _ _ => (dts_one (dt_cmp (op_eqD (hu64 hr)) eq_d (de_call (ok__law_told T) (hr.mono (by decide)) T.g__law_told T.f__law_told.kp (bd__law_told T) L2.takes0 (da_cons (de_call (ok__law_mask T) (hr.mono (by decide)) T.g__law_mask T.f__law_mask.kp (bd__law_mask T) L2.takes0 (da_cons (de_var 7) da_nil) (hlen := (ln_cons ln_nil))) da_nil) (hlen := (ln_cons ln_nil))) (de_var 5) (nomark _)))) (fun _ _ _ _ _ => (de_var 7)))) da_nil)))
  (dss_one (ds_if (dt_w (dw_or (dt_cmp (op_neD (hu64 hr)) ne_d (de_callB (call_reprD hr.g (hu65 hr)) repr_d T.n_repr (da_cons (de_call (ok_pairs_of T) (hr.mono (by decide)) T.g_pairs_of T.f_pairs_of.kp (bd_pairs_of T) tk (da_cons (de_var 5) da_nil) (hlen := (ln_cons ln_nil))) da_nil)) (de_callB (call_reprD hr.g (hu65 hr)) repr_d T.n_repr (da_cons (de_var 4) da_nil)) (nomark _)) (dw_or (dt_cmp (op_neD (hu64 hr)) ne_d (de_callB call_lenA len_d T.n_len (da_cons (de_var 4) da_nil)) de_int (nomark _)) (dw_or1 (dt_cmp (op_neD (hu64 hr)) ne_d (de_kw (is := [0]) (ok_pairs_of T) (hr.mono (by decide)) T.g_pairs_of T.f_pairs_of.kp (Fun.kb (ks := ["root"]) (is := [0]) T.f_pairs_of fun _ _ _ _ _ _ ws hl => match ws, hl with | [_], _ => rfl) tk (dk_cons (de_l (dl_callT call_list_of list_d T.n_list (da_cons (de_var 5) da_nil))) dk_nil) (ln_cons ln_nil) (fun l hl => match l, hl with | [_], _ => rfl)) (de_var 4) (nomark _)))))) (dss_one (ds_ret de_bl)) dss_nil)))))
  (dss_one (ds_ret (de_and (de_cmp (op_eqD (hu64 hr)) eq_d (de_l (dl_lc [("many", 8)] rfl nd (di_rg T.n_range de_int) (fun _ _ _ _ _ => (dg_name 8 nd)) (fun _ _ _ _ _ => dts_nil) (fun _ _ _ _ _ => (de_call (ok_many_ordered T) (hr.mono (by decide)) T.g_many_ordered T.f_many_ordered.kp (bd_many_ordered T) L2.takes0 (da_cons (de_var 8) da_nil) (hlen := (ln_cons ln_nil)))))) (de_l (dl_lst (da_cons de_int (da_cons de_int (da_cons (de_op op_mulA mul_d de_int de_int) (da_cons (de_op op_mulA mul_d (de_op op_mulA mul_d de_int de_int) de_int) da_nil)))))) (nomark _)) (de_one (de_cmp (op_eqD (hu64 hr)) eq_d (de_l (dl_lc [("many", 8)] rfl nd (di_any (de_tup (da_cons de_int (da_cons de_int (da_cons de_int da_nil))))) (fun _ _ _ _ _ => (dg_name 8 nd)) (fun _ _ _ _ _ => dts_nil) (fun _ _ _ _ _ => (de_kw (is := [0]) (ok_many_ordered T) (hr.mono (by decide)) T.g_many_ordered T.f_many_ordered.kp (Fun.kb (ks := ["many"]) (is := [0]) T.f_many_ordered fun _ _ _ _ _ _ ws hl => match ws, hl with | [_], _ => rfl) L2.takes0 (dk_cons (de_var 8) dk_nil) (ln_cons ln_nil) (fun l hl => match l, hl with | [_], _ => rfl))))) (de_l (dl_lst (da_cons (de_op op_mulA mul_d de_int de_int) (da_cons (de_op op_mulA mul_d de_int de_int) (da_cons (de_op op_mulA mul_d de_int de_int) da_nil))))) (nomark _)))))))))) sp plain
end
end Lw
end

section
set_option Elab.async false
set_option linter.all false
set_option maxRecDepth 100000
set_option maxHeartbeats 4000000
namespace Nm
open PySem PySem.Spec PyProof.Rows L2 Dn
/-! ### how often a sign stands in a text -/
theorem subAt_one (x : Str) (c i : Nat) (h : i < x.cps.size) : Builtin.Str.subAt x ⟨#[c]⟩ i = decide (x.cps[i]? = some c) := by
  unfold Builtin.Str.subAt
  have e : x.cps.extract i (i + (Str.length ⟨#[c]⟩)) = #[x.cps[i]] := by
    apply Array.ext'
    show (x.cps.extract i (i + 1)).toList = [x.cps[i]]
    rw [Array.toList_extract, List.extract_eq_drop_take, Nat.add_sub_cancel_left]
    rw [List.drop_eq_getElem_cons (by simpa using h)]
    simp
  rw [e]
  rw [Array.getElem?_eq_getElem h]
  show (#[x.cps[i]] == #[c]) = decide (some x.cps[i] = some c)
  by_cases q : x.cps[i] = c
  · rw [q]; simp
  · simp [q]
theorem occ_one (x : Str) (c lim : Nat) (hl : x.cps.size + 1 ≤ lim) : ∀ (m i : Nat) (st : Array Nat × Nat), i + m = x.cps.size + 1 → st.snd ≤ i → st.fst.size ≤ i →
    (forIn (List.range' i m) st (StrLaws.occBody x ⟨#[c]⟩ x.length lim)).run.fst.size = st.fst.size + (x.cps.toList.drop i).count c
  | 0, i, st, h1, h2, h3 => by
    have : (x.cps.toList.drop i) = [] := List.drop_eq_nil_of_le (by simp; omega)
    rw [this]
    rfl
  | m + 1, i, st, h1, h2, h3 => by
    rw [List.range'_succ, List.forIn_cons]
    unfold StrLaws.occBody
    by_cases hi : i < x.cps.size
    · have hd : x.cps.toList.drop i = x.cps[i] :: x.cps.toList.drop (i + 1) := by
        rw [List.drop_eq_getElem_cons (by simpa using hi)]
        simp
      by_cases q : x.cps[i]? = some c
      · have qc : x.cps[i] = c := by
          rw [Array.getElem?_eq_getElem hi] at q
          exact Option.some.inj q
        rw [if_pos ⟨⟨⟨by omega, h2⟩, hi⟩, by rw [subAt_one x c i hi]; exact decide_eq_true q⟩]
        have ih := occ_one x c lim hl m (i + 1) (st.fst.push i, i + 1) (by omega) (Nat.le_refl _) (by rw [Array.size_push]; show st.fst.size + 1 ≤ i + 1; omega)
        unfold StrLaws.occBody at ih
        refine ih.trans ?_
        rw [Array.size_push, hd, qc, List.count_cons_self]
        omega
      · have qc : ¬ x.cps[i] = c := fun z => q (by rw [Array.getElem?_eq_getElem hi, z])
        rw [if_neg (by rintro ⟨_, z⟩; rw [subAt_one x c i hi] at z; exact q (of_decide_eq_true z))]
        have ih := occ_one x c lim hl m (i + 1) (st.fst, st.snd) (by omega) (by show st.snd ≤ i + 1; omega) (by show st.fst.size ≤ i + 1; omega)
        unfold StrLaws.occBody at ih
        refine ih.trans ?_
        rw [hd, List.count_cons_of_ne (by simpa using qc)]
    · rw [if_neg (by rintro ⟨⟨_, z⟩, _⟩; exact hi z)]
      have e : x.cps.toList.drop i = [] := List.drop_eq_nil_of_le (by simp; omega)
      have e2 : x.cps.toList.drop (i + 1) = [] := List.drop_eq_nil_of_le (by simp; omega)
      have ih := occ_one x c lim hl m (i + 1) (st.fst, st.snd) (by omega) (by show st.snd ≤ i + 1; omega) (by show st.fst.size ≤ i + 1; omega)
      unfold StrLaws.occBody at ih
      refine ih.trans ?_
      rw [e, e2]
theorem count_one (x : Str) (c : Nat) : Txt.count x ⟨#[c]⟩ = ((x.cps.toList.count c : Nat) : Int) := by
  unfold Txt.count
  rw [StrLaws.occ_eq, Array.length_toList]
  have := occ_one x c (x.length + 1) (Nat.le_refl _) (x.length + 1 - 0) 0 (#[], 0) (by show 0 + (x.cps.size + 1 - 0) = _; omega) (Nat.le_refl _) (Nat.le_refl _)
  rw [this]
  simp
end Nm
end

section
set_option Elab.async false
set_option linter.all false
set_option maxRecDepth 100000
set_option maxHeartbeats 4000000
namespace Nm
open PySem PySem.Spec PyProof.Rows L2 Dn
theorem join_none : ∀ ys : List Str, (Txt.join Str.empty ys).cps.toList = ys.flatMap fun y => y.cps.toList
  | [] => rfl
  | y :: r => by
    show (r.foldl (fun acc p => acc ++ Str.empty.cps ++ p.cps) y.cps).toList = _
    have h : ∀ (r : List Str) (a : Array Nat), (r.foldl (fun acc p => acc ++ Str.empty.cps ++ p.cps) a).toList = a.toList ++ r.flatMap fun y => y.cps.toList := by
      intro r
      induction r with
      | nil => intro a; simp
      | cons z r ih =>
        intro a
        rw [List.foldl_cons, ih, List.flatMap_cons, Array.toList_append, Array.toList_append, List.append_assoc, List.append_assoc]
        rfl
    rw [h, List.flatMap_cons]
/-! ### names by numbers below twenty-eight -/
def nmS : List Str := ["01", "02", "03", "04", "05", "06", "07", "12", "13", "14", "15", "16", "17", "23", "24", "25", "26", "27", "34", "35", "36", "37", "45", "46", "47", "56", "57", "67"]
def nm (k : Nat) : Str := nmS.getD k Str.empty
def nD (k : Nat) : D := .str (nm k)
def iD (s : Nat) : D := .int (s : Int)
def sgI (k : Nat) : Nat := ([0,0,0,0,0,0,0,1,1,1,1,1,1,2,2,2,2,2,3,3,3,3,4,4,4,5,5,6] : List Nat).getD k 0
def sgJ (k : Nat) : Nat := ([1,2,3,4,5,6,7,2,3,4,5,6,7,3,4,5,6,7,4,5,6,7,5,6,7,6,7,7] : List Nat).getD k 0
def nb (k : Nat) : Nat := 2 ^ sgI k ^^^ 2 ^ sgJ k
def xr (ks : List Nat) : Nat := ks.foldl (fun x k => x ^^^ nb k) 0
def onS (x : Nat) : List Nat := (List.range 8).filter fun s => x.testBit s
def offS (x : Nat) : List Nat := (List.range 8).filter fun s => !x.testBit s
def told (x : Nat) : List Nat := if 4 < (onS x).length ∨ ((onS x).length = 4 ∧ x.testBit 0 = false) then offS x else onS x
def mn (x : Nat) : Nat := if 255 - x < x then 255 - x else x
theorem all28 {P : Nat → Prop} (h : ∀ k ∈ List.range 28, P k) {k : Nat} (hk : k < 28) : P k := h k (List.mem_range.mpr hk)
theorem sg_lt {k : Nat} (hk : k < 28) : sgI k < 8 ∧ sgJ k < 8 := all28 (P := fun k => sgI k < 8 ∧ sgJ k < 8) (by decide) hk
theorem nb_lt {k : Nat} (hk : k < 28) : nb k < 256 := all28 (P := fun k => nb k < 256) (by decide) hk
theorem foldl_lt : ∀ (ks : List Nat) (x : Nat), x < 256 → (∀ k ∈ ks, k < 28) → ks.foldl (fun x k => x ^^^ nb k) x < 256
  | [], x, h, _ => h
  | k :: ks, x, h, hk => foldl_lt ks (x ^^^ nb k) (Nat.xor_lt_two_pow (n := 8) h (nb_lt (hk k List.mem_cons_self))) fun z hz => hk z (List.mem_cons_of_mem _ hz)
theorem xr_lt (ks : List Nat) (h : ∀ k ∈ ks, k < 28) : xr ks < 256 := foldl_lt ks 0 (by decide) h
/-! ### turning signs -/
def tog (o : List Nat) (s : Nat) : List Nat := if s ∈ o then o.filter (fun z => z != s) else o ++ [s]
structure Od (o : List Nat) (x : Nat) : Prop where
  nd : o.Nodup
  lt : x < 256
  mem : ∀ s, s ∈ o ↔ x.testBit s = true
theorem Od.tog {o : List Nat} {x : Nat} (h : Od o x) {s : Nat} (hs : s < 8) : Od (tog o s) (x ^^^ 2 ^ s) := by
  have hx : x ^^^ 2 ^ s < 256 := Nat.xor_lt_two_pow (n := 8) h.lt (Nat.pow_lt_pow_right (by decide) hs)
  unfold Nm.tog
  by_cases q : s ∈ o
  · rw [if_pos q]
    refine ⟨h.nd.filter _, hx, fun z => ?_⟩
    rw [List.mem_filter, Nat.testBit_xor, Nat.testBit_two_pow, h.mem]
    by_cases e : z = s
    · subst e
      have := (h.mem z).mp q
      simp [this]
    · simp [e, Ne.symm e]
  · rw [if_neg q]
    refine ⟨?_, hx, fun z => ?_⟩
    · rw [List.nodup_append]
      refine ⟨h.nd, by simp, fun a ha b hb => ?_⟩
      simp only [List.mem_singleton] at hb
      subst hb
      exact fun e => q (e ▸ ha)
    · rw [List.mem_append, Nat.testBit_xor, Nat.testBit_two_pow, h.mem, List.mem_singleton]
      by_cases e : z = s
      · subst e
        have : x.testBit z = false := Bool.eq_false_iff.mpr fun t => q ((h.mem z).mpr t)
        simp [this]
      · simp [e, Ne.symm e]
theorem Od.nil : Od [] 0 := ⟨.nil, by decide, fun s => by simp⟩
theorem Od.ge {o : List Nat} {x s : Nat} (h : Od o x) (hs : s ∈ o) : s < 8 := by
  refine Nat.lt_of_not_le fun z => ?_
  have h1 := (h.mem s).mp hs
  have h2 : x.testBit s = false := Nat.testBit_lt_two_pow (Nat.lt_of_lt_of_le h.lt (by
    have := Nat.pow_le_pow_right (show 0 < 2 by decide) z
    exact this))
  rw [h2] at h1
  cases h1
theorem Od.perm {o : List Nat} {x : Nat} (h : Od o x) : o.Perm (onS x) := by
  refine (List.perm_ext_iff_of_nodup h.nd ((List.nodup_range).filter _)).mpr fun z => ?_
  rw [List.mem_filter, List.mem_range]
  exact ⟨fun q => ⟨h.ge q, (h.mem z).mp q⟩, fun q => (h.mem z).mpr q.2⟩
theorem Od.sorted {o : List Nat} {x : Nat} (h : Od o x) : isortI (o.map fun (z : Nat) => (z : Int)) = (onS x).map fun (z : Nat) => (z : Int) := by
  refine (isortI_uniq (h.perm.symm.map _) ?_).symm
  rw [List.pairwise_map]
  refine List.Pairwise.filter _ ?_
  have : (List.range 8).Pairwise (· < ·) := List.pairwise_lt_range
  exact this.imp fun q => by omega
def togN (o : List Nat) (k : Nat) : List Nat := tog (tog o (sgI k)) (sgJ k)
theorem Od.togN {o : List Nat} {x k : Nat} (h : Od o x) (hk : k < 28) : Od (Nm.togN o k) (x ^^^ nb k) := by
  have := (h.tog (sg_lt hk).1).tog (sg_lt hk).2
  rw [Nat.xor_assoc] at this
  exact this
theorem Od.fold : ∀ (ks : List Nat) {o : List Nat} {x : Nat}, Od o x → (∀ k ∈ ks, k < 28) → Od (ks.foldl Nm.togN o) (ks.foldl (fun x k => x ^^^ nb k) x)
  | [], _, _, h, _ => h
  | k :: ks, _, _, h, hk => Od.fold ks (h.togN (hk k List.mem_cons_self)) fun z hz => hk z (List.mem_cons_of_mem _ hz)
/-! ### comprehensions whose parts leave the pen -/
theorem lc_map {ι : Type} (g : ι → D) (tb : ι → Bool) (ev : ι → D) {vs : List Nat} {h : HG} {t : FT} {e : FE} {ρ : List Sl} {p : List D} : ∀ (xs : List ι), (∀ x ∈ xs, ∃ ρ1, h (g x) (wipeS ρ vs) = some ρ1 ∧ t ρ1 p = .ok (tb x) p ∧ (tb x = true → e ρ1 p = .ok (ev x) p)) → lcD vs h t e (xs.map g) ρ p = .ok ((xs.filter tb).map ev) p
  | [], _ => rfl
  | x :: xs, H => by
    obtain ⟨ρ1, h1, h2, h3⟩ := H x List.mem_cons_self
    have ih := lc_map g tb ev (vs := vs) (h := h) (t := t) (e := e) (ρ := ρ) (p := p) xs fun z hz => H z (List.mem_cons_of_mem _ hz)
    rw [List.map_cons]
    unfold lcD
    rw [h1]
    simp only [h2, noX_ok, bnd_ok]
    cases q : tb x with
    | true =>
      rw [List.filter_cons_of_pos q, List.map_cons]
      simp only [if_true, h3 q, noX_ok, bnd_ok, ih]
    | false =>
      rw [List.filter_cons_of_neg (by rw [q]; decide)]
      simp only [Bool.false_eq_true, if_false, ih]
theorem fLc_map {ι : Type} (g : ι → D) (tb : ι → Bool) (ev : ι → D) (xs : List ι) {f : FL} {vs : List Nat} {h : HG} {t : FT} {e : FE} {ρ : List Sl} {p q : List D} (hf : f ρ q = .ok (xs.map g) p) (hl : xs.length ≤ 16777216)
    (H : ∀ x ∈ xs, ∃ ρ1, h (g x) (wipeS ρ vs) = some ρ1 ∧ t ρ1 p = .ok (tb x) p ∧ (tb x = true → e ρ1 p = .ok (ev x) p)) : fLc f h t e vs ρ q = .ok ((xs.filter tb).map ev) p := by
  unfold fLc
  rw [hf, bnd_ok, lc_map g tb ev xs H]
  unfold chk
  rw [bnd_ok, if_pos]
  rw [List.length_map]
  exact Nat.le_trans (List.length_filter_le _ _) hl
theorem filt_true {α : Type} (xs : List α) : xs.filter (fun _ => true) = xs := List.filter_eq_self.mpr fun _ _ => rfl
/-! ### lists of integers, of names -/
theorem fines_iD : ∀ o : List Nat, fines (o.map iD) = true
  | [] => rfl
  | z :: o => by
    show ((iD z).fine && fines (o.map iD)) = true
    rw [fines_iD o]
    rfl
theorem deps_iD : ∀ o : List Nat, deps (o.map iD) = 0
  | [] => rfl
  | z :: o => by
    show max (iD z).dep (deps (o.map iD)) = 0
    rw [deps_iD o]
    rfl
theorem ok_iDs (o : List Nat) : (D.lst (o.map iD)).ok = true := by
  simp only [D.ok, D.fine, D.dep, fines_iD, deps_iD]
  rfl
theorem ok_iDt (o : List Nat) : (D.tup (o.map iD)).ok = true := by
  simp only [D.ok, D.fine, D.dep, fines_iD, deps_iD]
  rfl
theorem eq_iD (a b : Nat) : (iD a).eq (iD b) = decide (a = b) := by
  show ((a : Int) == (b : Int)) = _
  by_cases h : a = b
  · subst h; simp
  · simp [h]; omega
theorem any_iD (o : List Nat) (s : Nat) : ((o.map iD).any fun z => z.eq (iD s)) = decide (s ∈ o) := by
  induction o with
  | nil => rfl
  | cons a o ih =>
    rw [List.map_cons, List.any_cons, ih, eq_iD]
    by_cases h : a = s
    · subst h; simp
    · simp [h, Ne.symm h]
theorem gIn_iD (neg : Bool) (o : List Nat) (s : Nat) (p : List D) : gIn neg (iD s) (.lst (o.map iD)) p = .ok (.bl (xor neg (decide (s ∈ o)))) p := by
  unfold gIn
  simp only [ok_iDs, any_iD, show (iD s).ok = true from rfl, Bool.and_self, if_true]
theorem fine_nm (k : Nat) : (nD k).fine = true := by
  by_cases h : k < 28
  · exact all28 (P := fun k => (nD k).fine = true) (by decide +kernel) h
  · show PyData.strOk (nm k) = true
    have : nm k = Str.empty := by
      unfold nm
      rw [List.getD_eq_getElem?_getD, List.getElem?_eq_none (by show 28 ≤ k; omega)]
      rfl
    rw [this]
    decide +kernel
theorem fines_nD : ∀ ks : List Nat, fines (ks.map nD) = true
  | [] => rfl
  | z :: o => by
    show ((nD z).fine && fines (o.map nD)) = true
    rw [fines_nD o, fine_nm]
    rfl
theorem deps_nD : ∀ o : List Nat, deps (o.map nD) = 0
  | [] => rfl
  | z :: o => by
    show max (nD z).dep (deps (o.map nD)) = 0
    rw [deps_nD o]
    rfl
theorem eq_nD {a b : Nat} (ha : a < 28) (hb : b < 28) : (nD a).eq (nD b) = decide (a = b) := 
  all28 (P := fun b => (nD a).eq (nD b) = decide (a = b)) (fun b hb => all28 (P := fun a => ∀ b ∈ List.range 28, (nD a).eq (nD b) = decide (a = b)) (by decide +kernel) ha b hb) hb
theorem lt_nD {a b : Nat} (ha : a < 28) (hb : b < 28) : decide ((nm a).cps.toList < (nm b).cps.toList) = decide (a < b) :=
  all28 (P := fun b => decide ((nm a).cps.toList < (nm b).cps.toList) = decide (a < b)) (fun b hb => all28 (P := fun a => ∀ b ∈ List.range 28, decide ((nm a).cps.toList < (nm b).cps.toList) = decide (a < b)) (by decide +kernel) ha b hb) hb
theorem any_nD {s : Nat} (hs : s < 28) : ∀ (o : List Nat), (∀ k ∈ o, k < 28) → ((o.map nD).any fun z => z.eq (nD s)) = decide (s ∈ o)
  | [], _ => rfl
  | a :: o, h => by
    rw [List.map_cons, List.any_cons, any_nD hs o fun z hz => h z (List.mem_cons_of_mem _ hz), eq_nD (h a List.mem_cons_self) hs]
    by_cases e : a = s
    · subst e; simp
    · simp [e, Ne.symm e]
theorem ok_nDs (o : List Nat) : (D.lst (o.map nD)).ok = true := by
  simp only [D.ok, D.fine, D.dep, fines_nD, deps_nD]
  rfl
theorem ok_nDt (o : List Nat) : (D.tup (o.map nD)).ok = true := by
  simp only [D.ok, D.fine, D.dep, fines_nD, deps_nD]
  rfl
theorem ok_nD (k : Nat) : (nD k).ok = true := by
  unfold D.ok
  rw [fine_nm]
  rfl
theorem gIn_nD (neg : Bool) {o : List Nat} {s : Nat} (hs : s < 28) (ho : ∀ k ∈ o, k < 28) (p : List D) : gIn neg (nD s) (.lst (o.map nD)) p = .ok (.bl (xor neg (decide (s ∈ o)))) p := by
  unfold gIn
  simp only [ok_nDs, any_nD hs o ho, ok_nD, Bool.and_self, if_true]
theorem eqs_nD : ∀ {a b : List Nat}, (∀ k ∈ a, k < 28) → (∀ k ∈ b, k < 28) → eqs (a.map nD) (b.map nD) = decide (a = b)
  | [], [], _, _ => rfl
  | [], _ :: _, _, _ => rfl
  | _ :: _, [], _, _ => rfl
  | x :: a, y :: b, h1, h2 => by
    show ((nD x).eq (nD y) && eqs (a.map nD) (b.map nD)) = _
    rw [eq_nD (h1 x List.mem_cons_self) (h2 y List.mem_cons_self), eqs_nD (fun z hz => h1 z (List.mem_cons_of_mem _ hz)) fun z hz => h2 z (List.mem_cons_of_mem _ hz)]
    by_cases q1 : x = y <;> by_cases q2 : a = b <;> simp [q1, q2]
theorem eqs_iD : ∀ {a b : List Nat}, eqs (a.map iD) (b.map iD) = decide (a = b)
  | [], [] => rfl
  | [], _ :: _ => rfl
  | _ :: _, [] => rfl
  | x :: a, y :: b => by
    show ((iD x).eq (iD y) && eqs (a.map iD) (b.map iD)) = _
    rw [eq_iD, eqs_iD]
    by_cases q1 : x = y <;> by_cases q2 : a = b <;> simp [q1, q2]
theorem xr_perm {a b : List Nat} (h : a.Perm b) : xr a = xr b := h.foldl_eq' (fun x _ y _ z => by rw [Nat.xor_assoc, Nat.xor_assoc, Nat.xor_comm (nb x)]) 0
theorem foldl_xor (ks : List Nat) (x : Nat) : ks.foldl (fun x k => x ^^^ nb k) x = x ^^^ xr ks := by
  unfold xr
  induction ks generalizing x with
  | nil => simp
  | cons k ks ih => rw [List.foldl_cons, List.foldl_cons, ih, ih (0 ^^^ nb k), Nat.zero_xor, Nat.xor_assoc]
theorem xr_app (a b : List Nat) : xr (a ++ b) = xr a ^^^ xr b := by
  have := foldl_xor b (xr a)
  rw [← this]
  exact List.foldl_append
theorem xr_cons (k : Nat) (b : List Nat) : xr (k :: b) = nb k ^^^ xr b := by
  rw [show k :: b = [k] ++ b from rfl, xr_app]
  show (0 ^^^ nb k) ^^^ _ = _
  rw [Nat.zero_xor]
theorem xr_nil : xr [] = 0 := rfl
def oL : Option Nat → List Nat
  | some k => [k]
  | none => []
def fth (x : Nat) : Option Nat := (List.range 28).find? fun k => nb k == x || nb k == 255 - x
theorem fil_fth {x : Nat} (h : x < 256) : ((List.range 28).filter fun k => mn (x ^^^ nb k) == 0) = oL (fth x) := by
  have : ∀ x ∈ List.range 256, ((List.range 28).filter fun k => mn (x ^^^ nb k) == 0) = oL (fth x) := by decide +kernel
  exact this x (List.mem_range.mpr h)
theorem two_mn {a b : Nat} (ha : a < 28) (hb : b < 28) (h : a ≠ b) : mn (nb a ^^^ nb b) ≠ 0 ∧ mn (255 ^^^ (nb a ^^^ nb b)) ≠ 0 := by
  have := all28 (P := fun a => ∀ b ∈ List.range 28, a ≠ b → mn (nb a ^^^ nb b) ≠ 0 ∧ mn (255 ^^^ (nb a ^^^ nb b)) ≠ 0) (by decide +kernel) ha
  exact this b (List.mem_range.mpr hb) h
theorem fth_one {j : Nat} (h : j < 28) : fth (nb j) = some j ∧ fth (255 ^^^ nb j) = some j := all28 (P := fun j => fth (nb j) = some j ∧ fth (255 ^^^ nb j) = some j) (by decide +kernel) h
theorem fth_lt {x k : Nat} (h : fth x = some k) : k < 28 := List.mem_range.mp (List.mem_of_find?_eq_some h)
theorem mn_zero {x : Nat} (h : x < 256) : mn x = 0 ↔ x = 0 ∨ x = 255 := by
  unfold mn
  split <;> omega
theorem told_nil {x : Nat} (h : x < 256) : told x = [] ↔ mn x = 0 := by
  have : ∀ x ∈ List.range 256, decide (told x = []) = decide (mn x = 0) := by decide +kernel
  have h := this x (List.mem_range.mpr h)
  by_cases q : mn x = 0
  · rw [decide_eq_true q] at h
    exact ⟨fun _ => q, fun _ => of_decide_eq_true h⟩
  · rw [decide_eq_false q] at h
    exact ⟨fun z => absurd z (of_decide_eq_false h), fun z => absurd z q⟩
end Nm
end

section
set_option Elab.async false
set_option linter.all false
namespace Nm
open PySem PySem.Spec PyProof.Rows L2 Dn
/-! ### statements one by one, told by equations -/
theorem seq_nx {f g : FS} {ρ ρ' : List Sl} {p p' : List D} (h : f ρ p = .ok (.nx, ρ') p') : sSeq f g ρ p = g ρ' p' := by
  unfold sSeq
  rw [h]
  rfl
theorem seq_rt {f g : FS} {ρ ρ' : List Sl} {p p' : List D} {d : D} (h : f ρ p = .ok (.rt d, ρ') p') : sSeq f g ρ p = .ok (.rt d, ρ') p' := by
  unfold sSeq
  rw [h]
  rfl
theorem for_eq {f : FL} {h : HG} {b : FS} {ρ : List Sl} {p q : List D} {ds : List D} (e : f ρ p = .ok ds q) : sFor f h b ρ p = forD h b ds ρ q := by
  unfold sFor
  rw [e]
  rfl
theorem run_rt {N : List Str} {fs : FS} {ds : List D} {p q : List D} {d : D} {ρ : List Sl} (h : fs (startS N ds) p = .ok (.rt d, ρ) q) : runF N fs ds p = .ok d q := by
  unfold runF
  rw [h]
  rfl
theorem run_nx {N : List Str} {fs : FS} {ds : List D} {p q : List D} {ρ : List Sl} (h : fs (startS N ds) p = .ok (.nx, ρ) q) : runF N fs ds p = .ok .non q := by
  unfold runF
  rw [h]
  rfl
theorem set_eq {f : FE} {i : Nat} {ρ : List Sl} {p q : List D} {d : D} (h : f ρ p = .ok d q) : sSet i f ρ p = .ok (.nx, ρ.set i (.val d)) q := by
  unfold sSet
  rw [h]
  rfl
theorem ret_eq {f : FE} {ρ : List Sl} {p q : List D} {d : D} (h : f ρ p = .ok d q) : sRet f ρ p = .ok (.rt d, ρ) q := by
  unfold sRet
  rw [h]
  rfl
theorem if_f {c : FT} {f : FS} {g : FS} {ρ : List Sl} {p q : List D} (h : c ρ p = .ok false q) : sIf c f g ρ p = g ρ q := by
  unfold sIf
  rw [h]
  rfl
theorem if_t {c : FT} {f : FS} {g : FS} {ρ : List Sl} {p q : List D} (h : c ρ p = .ok true q) : sIf c f g ρ p = f ρ q := by
  unfold sIf
  rw [h]
  rfl
theorem call_eq {g : List D → List D → R D} {f : FL} {ρ : List Sl} {p q r : List D} {ds : List D} {d : D} (h : f ρ p = .ok ds q) (hg : g ds q = .ok d r) : fCall g f ρ p = .ok d r := by
  unfold fCall
  rw [h, bnd_ok, hg]
theorem fL_eq {f : FL} {ρ : List Sl} {p q : List D} {ds : List D} (h : f ρ p = .ok ds q) : fL f ρ p = .ok (.lst ds) q := by
  unfold fL
  rw [h]
  rfl
theorem tst_eq {f : FE} {ρ : List Sl} {p q : List D} {b : Bool} (h : f ρ p = .ok (.bl b) q) : fTst f ρ p = .ok b q := by
  unfold fTst
  rw [h]
  rfl
theorem f2_eq {g : D → D → List D → R D} {f1 f2 : FE} {ρ : List Sl} {p q r s : List D} {x y d : D} (h1 : f1 ρ p = .ok x q) (h2 : f2 ρ q = .ok y r) (hg : g x y r = .ok d s) : Dn.f2 g f1 f2 ρ p = .ok d s := by
  unfold Dn.f2
  rw [h1, bnd_ok, h2, bnd_ok, hg]
theorem or_ff {c d : FT} {ρ : List Sl} {p q : List D} (h : c ρ p = .ok false q) : fOrB c d ρ p = d ρ q := by
  unfold fOrB
  rw [h]
  rfl
theorem cons_eq {f : FE} {g : FL} {ρ : List Sl} {p q r : List D} {d : D} {ds : List D} (h : f ρ p = .ok d q) (hg : g ρ q = .ok ds r) : fCons f g ρ p = .ok (d :: ds) r := by
  unfold fCons
  rw [h, bnd_ok, hg]
  rfl
theorem not_eq {f : FT} {ρ : List Sl} {p q : List D} {b : Bool} (h : f ρ p = .ok b q) : fNotB f ρ p = .ok (!b) q := by
  unfold fNotB
  rw [h]
  rfl
theorem itR_eq {f : FE} {ρ : List Sl} {p p1 : List D} {n : Int} (h : f ρ p = .ok (.int n) p1) (c : -(2 ^ 62) ≤ n ∧ n < 2 ^ 62) : fItR f ρ p = .ok ((List.range n.toNat).map fun i => D.int (0 + (i : Nat))) p1 := by
  unfold fItR
  rw [h, bnd_ok]
  dsimp only
  rw [if_pos c]
theorem appPop_eq {i j : Nat} {f : FE} {ρ : List Sl} {p p1 : List D} {ds es : List D} {k : Int} {n : Nat} {d : D} (h1 : ρ[i]? = some (.own ds)) (h2 : ρ[j]? = some (.own es)) (hij : i ≠ j) (h3 : f ρ p = .ok (.int k) p1) (c1 : -(2 ^ 63) ≤ k ∧ k < 2 ^ 63) (c2 : seqIndex? k es.length = some n) (g1 : es[n]? = some d) (c3 : ds.length < 16777216) :
    sAppPop i j f ρ p = .ok (.nx, (ρ.set j (.own (es.eraseIdx n))).set i (.own (ds ++ [d]))) p1 := by
  unfold sAppPop
  rw [h1, h2]
  dsimp only
  rw [if_pos hij, h3, bnd_ok]
  dsimp only
  rw [if_pos c1, c2]
  dsimp only
  rw [g1]
  dsimp only
  rw [if_pos c3]
end Nm
namespace Nm
open PySem PySem.Spec PyProof.Rows L2 Dn
theorem for_step {h : HG} {b : FS} {d : D} {ds : List D} {ρ ρ1 ρ2 : List Sl} {p q : List D} (h1 : h d ρ = some ρ1) (h2 : b ρ1 p = .ok (.nx, ρ2) q) : forD h b (d :: ds) ρ p = forD h b ds ρ2 q := by
  rw [forD, h1]
  dsimp only
  rw [h2]
  rfl
end Nm
namespace Nm
open PySem PySem.Spec PyProof.Rows L2 Dn
theorem call0_eq {F : List D → List D → R D} {ρ : List Sl} {p q : List D} {d : D} (h : F [] p = .ok d q) : fCall0 F ρ p = .ok d q := h
end Nm
end

section
set_option Elab.async false
set_option linter.all false
set_option maxRecDepth 100000
set_option maxHeartbeats 4000000
namespace Lw
open PySem PySem.Spec PyProof.Rows L2 Dn Nm
theorem cases28 {k : Nat} (h : k < 28) : k = 0 ∨ k = 1 ∨ k = 2 ∨ k = 3 ∨ k = 4 ∨ k = 5 ∨ k = 6 ∨ k = 7 ∨ k = 8 ∨ k = 9 ∨ k = 10 ∨ k = 11 ∨ k = 12 ∨ k = 13 ∨ k = 14 ∨ k = 15 ∨ k = 16 ∨ k = 17 ∨ k = 18 ∨ k = 19 ∨ k = 20 ∨ k = 21 ∨ k = 22 ∨ k = 23 ∨ k = 24 ∨ k = 25 ∨ k = 26 ∨ k = 27 := by omega
theorem r_signs_in {k : Nat} (h : k < 28) (p : List D) : F_signs_in [nD k] p = .ok (.tup [iD (sgI k), iD (sgJ k)]) p := by
  rcases cases28 h with rfl | rfl | rfl | rfl | rfl | rfl | rfl | rfl | rfl | rfl | rfl | rfl | rfl | rfl | rfl | rfl | rfl | rfl | rfl | rfl | rfl | rfl | rfl | rfl | rfl | rfl | rfl | rfl <;> kernel_rfl
theorem r_is_name {k : Nat} (h : k < 28) (p : List D) : F_is_name [nD k] p = .ok (.bl true) p := by
  rcases cases28 h with rfl | rfl | rfl | rfl | rfl | rfl | rfl | rfl | rfl | rfl | rfl | rfl | rfl | rfl | rfl | rfl | rfl | rfl | rfl | rfl | rfl | rfl | rfl | rfl | rfl | rfl | rfl | rfl <;> kernel_rfl
theorem r_is_listed (x : D) (ds : List D) (p : List D) (h : items x = some ds) : F_is_listed [x] p = .ok (.bl true) p := by
  cases x <;> simp [items] at h <;> simp [F_is_listed, fs_is_listed, setAll, runF, startS, sSeq, sNil, sDrop, sRet, sRetN, sIf, sSet, sSetO, sRetO, sFree, sAsg, sFor, sCont, sBrk, sApp, sExt, sAppPop, sSub, sPen, sPar, pNil, pVal, pOwn, fVar, fC, f1, f2, fTst, fAndB, fOrB, fNotB, fBool, fIf, fAnd, fOr, fNot, fNil, fCons, fStar, fTup, fLst, fL, fCall, fCallL, fCall0, fIsTy, fIsTys, D.ty, tyIs, fTru, D.tru, fIxO, fLenO, fTupO, fRevL, fIt, fItR, fItR2, items, hName, hTup, hSq, hCons, hNil, fTrue, wipeS, noX_ok, bnd_ok, bnd_exc, bnd_stuck, sRaise, List.map_cons, List.map_nil, List.length_cons, List.length_nil, List.cons_append, List.nil_append, List.replicate_succ, List.replicate_zero, List.getElem?_cons_zero, List.getElem?_cons_succ, List.getElem?_nil, List.set_cons_zero, List.set_cons_succ, Nat.reduceAdd, Nat.reduceSub, Nat.zero_add, Nat.add_zero]
theorem len_items (x : D) (ds : List D) (p : List D) (h : items x = some ds) : gLen [x] p = .ok (.int ds.length) p := by
  cases x <;> simp [items] at h <;> simp [gLen, h]
theorem tup_items (x : D) (ds : List D) (p : List D) (h : items x = some ds) : gTuple [x] p = .ok (.tup ds) p := by
  cases x <;> simp [items] at h <;> simp [gTuple, h]
theorem fIt_items {f : FE} {ρ : List Sl} {p q : List D} {x : D} {ds : List D} (hf : f ρ p = .ok x q) (h : items x = some ds) : fIt f ρ p = .ok ds q := by
  unfold fIt
  rw [hf, bnd_ok]
  cases x <;> simp [items] at h <;> simp [items, h]
/-! ### a sum told -/
theorem onS_len (x : Nat) : (onS x).length ≤ 8 := by
  unfold onS
  exact Nat.le_trans (List.length_filter_le _ _) (by simp)
theorem r_sum_told {o : List Nat} {x : Nat} (h : Od o x) (p : List D) : F_sum_told [.lst (o.map iD)] p = .ok (.tup ((told x).map iD)) p := by
  have hlen : o.length = (onS x).length := h.perm.length_eq
  have e1 : ∀ (x1 x2 : Sl) (p : List D), fLc (fItR (fC v_MANY)) (hName 2) (fTst (f2 (gIn true) (fVar 2) (fVar 0))) (fVar 2) [2] [.val (.lst (o.map iD)), x1, x2] p = .ok ((offS x).map iD) p := fun x1 x2 p => by
    have hh := fLc_map (g := fun i : Nat => D.int (0 + (i : Int))) (tb := fun i => !x.testBit i) (ev := iD) (List.range 8) (f := fItR (fC v_MANY)) (vs := [2]) (h := hName 2) (t := fTst (f2 (gIn true) (fVar 2) (fVar 0))) (e := fVar 2) (ρ := [.val (.lst (o.map iD)), x1, x2]) (p := p) (q := p) rfl (by decide) fun i hi => by
      refine ⟨[.val (.lst (o.map iD)), x1, .val (iD i)], ?_, ?_, fun _ => rfl⟩
      · show some [Sl.val (.lst (o.map iD)), x1, .val (.int (0 + (i : Int)))] = _
        rw [Int.zero_add]
        rfl
      · have := gIn_iD true o i p
        simp only [setAll, runF, startS, sSeq, sNil, sDrop, sRet, sRetN, sIf, sSet, sSetO, sRetO, sFree, sAsg, sFor, sCont, sBrk, sApp, sExt, sAppPop, sSub, sPen, sPar, pNil, pVal, pOwn, fVar, fC, f1, f2, fTst, fAndB, fOrB, fNotB, fBool, fIf, fAnd, fOr, fNot, fNil, fCons, fStar, fTup, fLst, fL, fCall, fCallL, fCall0, fIsTy, fIsTys, D.ty, tyIs, fTru, D.tru, fIxO, fLenO, fTupO, fRevL, fIt, fItR, fItR2, items, hName, hTup, hSq, hCons, hNil, fTrue, wipeS, noX_ok, bnd_ok, bnd_exc, bnd_stuck, sRaise, List.map_cons, List.map_nil, List.length_cons, List.length_nil, List.cons_append, List.nil_append, List.replicate_succ, List.replicate_zero, List.getElem?_cons_zero, List.getElem?_cons_succ, List.getElem?_nil, List.set_cons_zero, List.set_cons_succ, Nat.reduceAdd, Nat.reduceSub, Nat.zero_add, Nat.add_zero, this]
        have hm : decide (i ∈ o) = x.testBit i := by
          cases q : x.testBit i
          · exact decide_eq_false fun z => by rw [(h.mem i).mp z] at q; cases q
          · exact decide_eq_true ((h.mem i).mpr q)
        rw [hm]
        simp
    exact hh
  have e2 : ∀ p, gIn true (.int 0) (.lst (o.map iD)) p = .ok (.bl (!x.testBit 0)) p := fun p => by
    have := gIn_iD true o 0 p
    refine this.trans ?_
    have hm : decide (0 ∈ o) = x.testBit 0 := by
      cases q : x.testBit 0
      · exact decide_eq_false fun z => by rw [(h.mem 0).mp z] at q; cases q
      · exact decide_eq_true ((h.mem 0).mpr q)
    rw [hm]
    simp
  have e3 : ∀ p, gSorted [.lst (o.map iD)] p = .ok ((onS x).map iD) p := fun p => by
    have hi : allOf D.int? (o.map iD) = some (o.map fun (z : Nat) => (z : Int)) := by
      clear hlen e1 e2 h
      induction o with
      | nil => rfl
      | cons a o ih =>
        simp only [List.map_cons, allOf, ih]
        rfl
    unfold gSorted
    simp only [hi, h.sorted, List.map_map]
    rfl
  have e4 : ∀ p, gLen [.lst (o.map iD)] p = .ok (.int ((onS x).length : Nat)) p := fun p => by rw [len_items _ _ _ rfl, List.length_map, hlen]
  have hb := onS_len x
  unfold told
  by_cases q1 : 4 < (onS x).length
  · have c1 : (4 : Int) < ((onS x).length : Nat) := by omega
    rw [if_pos (.inl q1)]
    simp [F_sum_told, fs_sum_told, setAll, runF, startS, sSeq, sNil, sDrop, sRet, sRetN, sIf, sSet, sSetO, sRetO, sFree, sAsg, sFor, sCont, sBrk, sApp, sExt, sAppPop, sSub, sPen, sPar, pNil, pVal, pOwn, fVar, fC, f1, f2, fTst, fAndB, fOrB, fNotB, fBool, fIf, fAnd, fOr, fNot, fNil, fCons, fStar, fTup, fLst, fL, fCall, fCallL, fCall0, fIsTy, fIsTys, D.ty, tyIs, fTru, D.tru, fIxO, fLenO, fTupO, fRevL, fIt, fItR, fItR2, hName, hTup, hSq, hCons, hNil, fTrue, wipeS, noX_ok, bnd_ok, bnd_exc, bnd_stuck, sRaise, gAdd, Dn.gSub, gMod, gDiv, gNeg, gEq, gNe, gLt, gLe, gGt, gGe, gIs, gIsNot, D.isC, D.isB, D.ok, D.fine, D.dep, D.eq, gInt, gAbs, gIx, gGcd, List.map_cons, List.map_nil, List.length_cons, List.length_nil, List.cons_append, List.nil_append, List.replicate_succ, List.replicate_zero, List.getElem?_cons_zero, List.getElem?_cons_succ, List.getElem?_nil, List.set_cons_zero, List.set_cons_succ, Nat.reduceAdd, Nat.reduceSub, Nat.zero_add, Nat.add_zero, e1, e4, c1, v_HALF, tup_items, items, gTuple]
  · have c1 : ¬ (4 : Int) < ((onS x).length : Nat) := by omega
    by_cases q2 : (onS x).length = 4
    · have c2 : (((onS x).length : Nat) : Int) = 4 := by omega
      cases q3 : x.testBit 0 with
      | true =>
        rw [if_neg (fun z => z.elim q1 fun z => by cases z.2)]
        simp [F_sum_told, fs_sum_told, setAll, runF, startS, sSeq, sNil, sDrop, sRet, sRetN, sIf, sSet, sSetO, sRetO, sFree, sAsg, sFor, sCont, sBrk, sApp, sExt, sAppPop, sSub, sPen, sPar, pNil, pVal, pOwn, fVar, fC, f1, f2, fTst, fAndB, fOrB, fNotB, fBool, fIf, fAnd, fOr, fNot, fNil, fCons, fStar, fTup, fLst, fL, fCall, fCallL, fCall0, fIsTy, fIsTys, D.ty, tyIs, fTru, D.tru, fIxO, fLenO, fTupO, fRevL, fIt, fItR, fItR2, hName, hTup, hSq, hCons, hNil, fTrue, wipeS, noX_ok, bnd_ok, bnd_exc, bnd_stuck, sRaise, gAdd, Dn.gSub, gMod, gDiv, gNeg, gEq, gNe, gLt, gLe, gGt, gGe, gIs, gIsNot, D.isC, D.isB, D.ok, D.fine, D.dep, D.eq, gInt, gAbs, gIx, gGcd, List.map_cons, List.map_nil, List.length_cons, List.length_nil, List.cons_append, List.nil_append, List.replicate_succ, List.replicate_zero, List.getElem?_cons_zero, List.getElem?_cons_succ, List.getElem?_nil, List.set_cons_zero, List.set_cons_succ, Nat.reduceAdd, Nat.reduceSub, Nat.zero_add, Nat.add_zero, e1, e2, e3, e4, c1, c2, q3, v_HALF, tup_items, items, gTuple]
      | false =>
        rw [if_pos (.inr ⟨q2, rfl⟩)]
        simp [F_sum_told, fs_sum_told, setAll, runF, startS, sSeq, sNil, sDrop, sRet, sRetN, sIf, sSet, sSetO, sRetO, sFree, sAsg, sFor, sCont, sBrk, sApp, sExt, sAppPop, sSub, sPen, sPar, pNil, pVal, pOwn, fVar, fC, f1, f2, fTst, fAndB, fOrB, fNotB, fBool, fIf, fAnd, fOr, fNot, fNil, fCons, fStar, fTup, fLst, fL, fCall, fCallL, fCall0, fIsTy, fIsTys, D.ty, tyIs, fTru, D.tru, fIxO, fLenO, fTupO, fRevL, fIt, fItR, fItR2, hName, hTup, hSq, hCons, hNil, fTrue, wipeS, noX_ok, bnd_ok, bnd_exc, bnd_stuck, sRaise, gAdd, Dn.gSub, gMod, gDiv, gNeg, gEq, gNe, gLt, gLe, gGt, gGe, gIs, gIsNot, D.isC, D.isB, D.ok, D.fine, D.dep, D.eq, gInt, gAbs, gIx, gGcd, List.map_cons, List.map_nil, List.length_cons, List.length_nil, List.cons_append, List.nil_append, List.replicate_succ, List.replicate_zero, List.getElem?_cons_zero, List.getElem?_cons_succ, List.getElem?_nil, List.set_cons_zero, List.set_cons_succ, Nat.reduceAdd, Nat.reduceSub, Nat.zero_add, Nat.add_zero, e1, e2, e3, e4, c1, c2, q3, v_HALF, tup_items, items, gTuple]
    · have c2 : ¬ (((onS x).length : Nat) : Int) = 4 := by omega
      rw [if_neg (fun z => z.elim q1 fun z => q2 z.1)]
      simp [F_sum_told, fs_sum_told, setAll, runF, startS, sSeq, sNil, sDrop, sRet, sRetN, sIf, sSet, sSetO, sRetO, sFree, sAsg, sFor, sCont, sBrk, sApp, sExt, sAppPop, sSub, sPen, sPar, pNil, pVal, pOwn, fVar, fC, f1, f2, fTst, fAndB, fOrB, fNotB, fBool, fIf, fAnd, fOr, fNot, fNil, fCons, fStar, fTup, fLst, fL, fCall, fCallL, fCall0, fIsTy, fIsTys, D.ty, tyIs, fTru, D.tru, fIxO, fLenO, fTupO, fRevL, fIt, fItR, fItR2, hName, hTup, hSq, hCons, hNil, fTrue, wipeS, noX_ok, bnd_ok, bnd_exc, bnd_stuck, sRaise, gAdd, Dn.gSub, gMod, gDiv, gNeg, gEq, gNe, gLt, gLe, gGt, gGe, gIs, gIsNot, D.isC, D.isB, D.ok, D.fine, D.dep, D.eq, gInt, gAbs, gIx, gGcd, List.map_cons, List.map_nil, List.length_cons, List.length_nil, List.cons_append, List.nil_append, List.replicate_succ, List.replicate_zero, List.getElem?_cons_zero, List.getElem?_cons_succ, List.getElem?_nil, List.set_cons_zero, List.set_cons_succ, Nat.reduceAdd, Nat.reduceSub, Nat.zero_add, Nat.add_zero, e1, e2, e3, e4, c1, c2, v_HALF, tup_items, items, gTuple]
end Lw
end

section
set_option Elab.async false
set_option linter.all false
set_option maxRecDepth 100000
set_option maxHeartbeats 4000000
namespace Lw
open PySem PySem.Spec PyProof.Rows L2 Dn Nm
def togB : FS := (sSet 1 (fIf (fTst (f2 (gIn false) (fVar 3) (fVar 1))) (fL (fLc (fIt (fVar 1)) (hName 4) (fTst (f2 gNe (fVar 4) (fVar 3))) (fVar 4) [4])) (f2 gAdd (fVar 1) (fL (fLst (fCons (fVar 3) fNil))))))
theorem r_togB (o : List Nat) (s : Nat) (x0 x2 x4 : Sl) (p : List D) (hl : o.length ≤ 1000) : togB [x0, .val (.lst (o.map iD)), x2, .val (iD s), x4] p = .ok (.nx, [x0, .val (.lst ((tog o s).map iD)), x2, .val (iD s), x4]) p := by
  have e1 : ∀ p, gIn false (iD s) (.lst (o.map iD)) p = .ok (.bl (decide (s ∈ o))) p := fun p => by rw [gIn_iD]; simp
  have e2 : fLc (fIt (fVar 1)) (hName 4) (fTst (f2 gNe (fVar 4) (fVar 3))) (fVar 4) [4] [x0, .val (.lst (o.map iD)), x2, .val (iD s), x4] p = .ok ((o.filter (fun z => z != s)).map iD) p :=
    fLc_map (g := iD) (tb := fun z => z != s) (ev := iD) o (fIt_items (ds := o.map iD) rfl rfl) (by omega) fun z hz => by
      refine ⟨[x0, .val (.lst (o.map iD)), x2, .val (iD s), .val (iD z)], rfl, ?_, fun _ => rfl⟩
      have : gNe (iD z) (iD s) p = .ok (.bl (z != s)) p := by
        unfold gNe
        rw [eq_iD, show (iD z).ok = true from rfl, show (iD s).ok = true from rfl]
        simp only [Bool.and_self, if_true]
        congr 2
      simp only [setAll, runF, startS, sSeq, sNil, sDrop, sRet, sRetN, sIf, sSet, sSetO, sRetO, sFree, sAsg, sFor, sCont, sBrk, sApp, sExt, sAppPop, sSub, sPen, sPar, pNil, pVal, pOwn, fVar, fC, f1, f2, fTst, fAndB, fOrB, fNotB, fBool, fIf, fAnd, fOr, fNot, fNil, fCons, fStar, fTup, fLst, fL, fCall, fCallL, fCall0, fIsTy, fIsTys, D.ty, tyIs, fTru, D.tru, fIxO, fLenO, fTupO, fRevL, fIt, fItR, fItR2, items, hName, hTup, hSq, hCons, hNil, fTrue, wipeS, noX_ok, bnd_ok, bnd_exc, bnd_stuck, sRaise, List.map_cons, List.map_nil, List.length_cons, List.length_nil, List.cons_append, List.nil_append, List.replicate_succ, List.replicate_zero, List.getElem?_cons_zero, List.getElem?_cons_succ, List.getElem?_nil, List.set_cons_zero, List.set_cons_succ, Nat.reduceAdd, Nat.reduceSub, Nat.zero_add, Nat.add_zero, this]
  unfold Nm.tog
  by_cases q : s ∈ o
  · rw [if_pos q]
    simp [togB, setAll, runF, startS, sSeq, sNil, sDrop, sRet, sRetN, sIf, sSet, sSetO, sRetO, sFree, sAsg, sFor, sCont, sBrk, sApp, sExt, sAppPop, sSub, sPen, sPar, pNil, pVal, pOwn, fVar, fC, f1, f2, fTst, fAndB, fOrB, fNotB, fBool, fIf, fAnd, fOr, fNot, fNil, fCons, fStar, fTup, fLst, fL, fCall, fCallL, fCall0, fIsTy, fIsTys, D.ty, tyIs, fTru, D.tru, fIxO, fLenO, fTupO, fRevL, fIt, fItR, fItR2, items, hName, hTup, hSq, hCons, hNil, fTrue, wipeS, noX_ok, bnd_ok, bnd_exc, bnd_stuck, sRaise, gAdd, Dn.gSub, gMod, gDiv, gNeg, gEq, gNe, gLt, gLe, gGt, gGe, gIs, gIsNot, D.isC, D.isB, D.ok, D.fine, D.dep, D.eq, gInt, gAbs, gLen, gIx, gGcd, List.map_cons, List.map_nil, List.length_cons, List.length_nil, List.cons_append, List.nil_append, List.replicate_succ, List.replicate_zero, List.getElem?_cons_zero, List.getElem?_cons_succ, List.getElem?_nil, List.set_cons_zero, List.set_cons_succ, Nat.reduceAdd, Nat.reduceSub, Nat.zero_add, Nat.add_zero, e1, e2, q]
  · rw [if_neg q]
    have l2 : o.length ≤ 16777215 := by omega
    simp [togB, setAll, runF, startS, sSeq, sNil, sDrop, sRet, sRetN, sIf, sSet, sSetO, sRetO, sFree, sAsg, sFor, sCont, sBrk, sApp, sExt, sAppPop, sSub, sPen, sPar, pNil, pVal, pOwn, fVar, fC, f1, f2, fTst, fAndB, fOrB, fNotB, fBool, fIf, fAnd, fOr, fNot, fNil, fCons, fStar, fTup, fLst, fL, fCall, fCallL, fCall0, fIsTy, fIsTys, D.ty, tyIs, fTru, D.tru, fIxO, fLenO, fTupO, fRevL, fIt, fItR, fItR2, items, hName, hTup, hSq, hCons, hNil, fTrue, wipeS, noX_ok, bnd_ok, bnd_exc, bnd_stuck, sRaise, gAdd, Dn.gSub, gMod, gDiv, gNeg, gEq, gNe, gLt, gLe, gGt, gGe, gIs, gIsNot, D.isC, D.isB, D.ok, D.fine, D.dep, D.eq, gInt, gAbs, gLen, gIx, gGcd, List.map_cons, List.map_nil, List.length_cons, List.length_nil, List.cons_append, List.nil_append, List.replicate_succ, List.replicate_zero, List.getElem?_cons_zero, List.getElem?_cons_succ, List.getElem?_nil, List.set_cons_zero, List.set_cons_succ, Nat.reduceAdd, Nat.reduceSub, Nat.zero_add, Nat.add_zero, e1, q, l2]
theorem tog_len (o : List Nat) (s : Nat) : (tog o s).length ≤ o.length + 1 := by
  unfold Nm.tog
  split
  · have := List.length_filter_le (fun z => z != s) o
    omega
  · simp
def sgT (k : Nat) : D := .tup [iD (sgI k), iD (sgJ k)]
theorem r_lots : ∀ (ks : List Nat) (o : List Nat) (x0 x2 x3 x4 : Sl) (p : List D), o.length + 2 * ks.length ≤ 900 →
    ∃ y2 y3, forD (hName 2) (sFor (fIt (fVar 2)) (hName 3) togB) (ks.map sgT) [x0, .val (.lst (o.map iD)), x2, x3, x4] p = .ok (.nx, [x0, .val (.lst ((ks.foldl togN o).map iD)), y2, y3, x4]) p
  | [], o, x0, x2, x3, x4, p, _ => ⟨x2, x3, rfl⟩
  | k :: ks, o, x0, x2, x3, x4, p, hl => by
    rw [List.length_cons] at hl
    have l1 := tog_len o (sgI k)
    have l2 := tog_len (tog o (sgI k)) (sgJ k)
    have e1 := r_togB o (sgI k) x0 (.val (sgT k)) x4 p (by omega)
    have e2 := r_togB (tog o (sgI k)) (sgJ k) x0 (.val (sgT k)) x4 p (by omega)
    obtain ⟨y2, y3, e3⟩ := r_lots ks (togN o k) x0 (.val (sgT k)) (.val (iD (sgJ k))) x4 p (by unfold togN; omega)
    refine ⟨y2, y3, ?_⟩
    rw [List.map_cons]
    unfold forD
    simp only [sgT] at e1 e2 e3
    simp only [sgT, setAll, runF, startS, sSeq, sNil, sDrop, sRet, sRetN, sIf, sSet, sSetO, sRetO, sFree, sAsg, sFor, sCont, sBrk, sApp, sExt, sAppPop, sSub, sPen, sPar, pNil, pVal, pOwn, fVar, fC, f1, f2, fTst, fAndB, fOrB, fNotB, fBool, fIf, fAnd, fOr, fNot, fNil, fCons, fStar, fTup, fLst, fL, fCall, fCallL, fCall0, fIsTy, fIsTys, D.ty, tyIs, fTru, D.tru, fIxO, fLenO, fTupO, fRevL, fIt, fItR, fItR2, items, hName, hTup, hSq, hCons, hNil, fTrue, wipeS, noX_ok, bnd_ok, bnd_exc, bnd_stuck, sRaise, List.map_cons, List.map_nil, List.length_cons, List.length_nil, List.cons_append, List.nil_append, List.replicate_succ, List.replicate_zero, List.getElem?_cons_zero, List.getElem?_cons_succ, List.getElem?_nil, List.set_cons_zero, List.set_cons_succ, Nat.reduceAdd, Nat.reduceSub, Nat.zero_add, Nat.add_zero, forD, e1, e2]
    exact e3
theorem r_added (ks : List Nat) (hk : ∀ k ∈ ks, k < 28) (hl : ks.length ≤ 400) (p : List D) : F_added [.lst (ks.map sgT)] p = .ok (.tup ((told (xr ks)).map iD)) p := by
  obtain ⟨y2, y3, e⟩ := r_lots ks [] (.val (.lst (ks.map sgT))) .none .none .none p (by simp; omega)
  have e2 := fun p => r_sum_told (Od.fold ks Od.nil hk) p
  simp only [togB, List.map_nil, setAll, runF, startS, sSeq, sNil, sDrop, sRet, sRetN, sIf, sSet, sSetO, sRetO, sFree, sAsg, sFor, sCont, sBrk, sApp, sExt, sAppPop, sSub, sPen, sPar, pNil, pVal, pOwn, fVar, fC, f1, f2, fTst, fAndB, fOrB, fNotB, fBool, fIf, fAnd, fOr, fNot, fNil, fCons, fStar, fTup, fLst, fL, fCall, fCallL, fCall0, fIsTy, fIsTys, D.ty, tyIs, fTru, D.tru, fIxO, fLenO, fTupO, fRevL, fIt, fItR, fItR2, hName, hTup, hSq, hCons, hNil, fTrue, wipeS, noX_ok, bnd_ok, bnd_exc, bnd_stuck, sRaise] at e
  simp [F_added, fs_added, setAll, runF, startS, sSeq, sNil, sDrop, sRet, sRetN, sIf, sSet, sSetO, sRetO, sFree, sAsg, sFor, sCont, sBrk, sApp, sExt, sAppPop, sSub, sPen, sPar, pNil, pVal, pOwn, fVar, fC, f1, f2, fTst, fAndB, fOrB, fNotB, fBool, fIf, fAnd, fOr, fNot, fNil, fCons, fStar, fTup, fLst, fL, fCall, fCallL, fCall0, fIsTy, fIsTys, D.ty, tyIs, fTru, D.tru, fIxO, fLenO, fTupO, fRevL, fIt, fItR, fItR2, hName, hTup, hSq, hCons, hNil, fTrue, wipeS, noX_ok, bnd_ok, bnd_exc, bnd_stuck, sRaise, List.map_cons, List.map_nil, List.length_cons, List.length_nil, List.cons_append, List.nil_append, List.replicate_succ, List.replicate_zero, List.getElem?_cons_zero, List.getElem?_cons_succ, List.getElem?_nil, List.set_cons_zero, List.set_cons_succ, Nat.reduceAdd, Nat.reduceSub, Nat.zero_add, Nat.add_zero, items, e, e2, xr]
theorem r_sum_in (x : D) (ks : List Nat) (h : items x = some (ks.map nD)) (hk : ∀ k ∈ ks, k < 28) (hl : ks.length ≤ 400) (p : List D) : F_sum_in [x] p = .ok (.tup ((told (xr ks)).map iD)) p := by
  have e1 : fLc (fIt (fVar 0)) (hName 1) fTrue (fCall F_signs_in (fCons (fVar 1) fNil)) [1] [.val x, .none] p = .ok (ks.map sgT) p := by
    have := fLc_map (g := nD) (tb := fun _ => true) (ev := sgT) ks (f := fIt (fVar 0)) (vs := [1]) (h := hName 1) (t := fTrue) (e := fCall F_signs_in (fCons (fVar 1) fNil)) (ρ := [.val x, .none]) (q := p) (p := p) (fIt_items rfl h) (by omega) fun z hz => by
      refine ⟨[.val x, .val (nD z)], rfl, rfl, fun _ => ?_⟩
      simp only [setAll, runF, startS, sSeq, sNil, sDrop, sRet, sRetN, sIf, sSet, sSetO, sRetO, sFree, sAsg, sFor, sCont, sBrk, sApp, sExt, sAppPop, sSub, sPen, sPar, pNil, pVal, pOwn, fVar, fC, f1, f2, fTst, fAndB, fOrB, fNotB, fBool, fIf, fAnd, fOr, fNot, fNil, fCons, fStar, fTup, fLst, fL, fCall, fCallL, fCall0, fIsTy, fIsTys, D.ty, tyIs, fTru, D.tru, fIxO, fLenO, fTupO, fRevL, fIt, fItR, fItR2, items, hName, hTup, hSq, hCons, hNil, fTrue, wipeS, noX_ok, bnd_ok, bnd_exc, bnd_stuck, sRaise, List.map_cons, List.map_nil, List.length_cons, List.length_nil, List.cons_append, List.nil_append, List.replicate_succ, List.replicate_zero, List.getElem?_cons_zero, List.getElem?_cons_succ, List.getElem?_nil, List.set_cons_zero, List.set_cons_succ, Nat.reduceAdd, Nat.reduceSub, Nat.zero_add, Nat.add_zero, r_signs_in (hk z hz)]
      rfl
    rwa [filt_true] at this
  simp only [F_sum_in, fs_sum_in, setAll, runF, startS, sSeq, sNil, sDrop, sRet, sRetN, sIf, sSet, sSetO, sRetO, sFree, sAsg, sFor, sCont, sBrk, sApp, sExt, sAppPop, sSub, sPen, sPar, pNil, pVal, pOwn, fVar, fC, f1, f2, fTst, fAndB, fOrB, fNotB, fBool, fIf, fAnd, fOr, fNot, fNil, fCons, fStar, fTup, fLst, fL, fCall, fCallL, fCall0, fIsTy, fIsTys, D.ty, tyIs, fTru, D.tru, fIxO, fLenO, fTupO, fRevL, fIt, fItR, fItR2, items, hName, hTup, hSq, hCons, hNil, fTrue, wipeS, noX_ok, bnd_ok, bnd_exc, bnd_stuck, sRaise, List.map_cons, List.map_nil, List.length_cons, List.length_nil, List.cons_append, List.nil_append, List.replicate_succ, List.replicate_zero, List.getElem?_cons_zero, List.getElem?_cons_succ, List.getElem?_nil, List.set_cons_zero, List.set_cons_succ, Nat.reduceAdd, Nat.reduceSub, Nat.zero_add, Nat.add_zero, e1, r_added ks hk hl]
end Lw
end

section
set_option Elab.async false
set_option linter.all false
set_option maxRecDepth 100000
set_option maxHeartbeats 4000000
namespace Lw
open PySem PySem.Spec PyProof.Rows L2 Dn
/-! ### what comes, told -/
def Ok {α : Type} (r : R α) (Q : α → List D → Prop) : Prop := ∃ a p, r = .ok a p ∧ Q a p
theorem Ok.mk {α : Type} {a : α} {p : List D} {Q : α → List D → Prop} (h : Q a p) : Ok (.ok a p) Q := ⟨a, p, rfl, h⟩
theorem Ok.bnd {α β : Type} {r : R α} {k : α → List D → R β} {Q : β → List D → Prop} {S : α → List D → Prop} (h : Ok r S) (hk : ∀ a p, S a p → Ok (k a p) Q) : Ok (r.bnd k) Q := by
  obtain ⟨a, p, rfl, s⟩ := h
  exact hk a p s
theorem Ok.imp {α : Type} {r : R α} {Q S : α → List D → Prop} (h : Ok r S) (hk : ∀ a p, S a p → Q a p) : Ok r Q := by
  obtain ⟨a, p, e, s⟩ := h
  exact ⟨a, p, e, hk a p s⟩
@[simp] theorem bnd_ite {α β : Type} {c : Prop} [Decidable c] (a b : R α) (k : α → List D → R β) : (if c then a else b).bnd k = if c then a.bnd k else b.bnd k := by split <;> rfl
@[simp] theorem at3_0 (a b c : D) : atI [a, b, c] 0 = some a := rfl
@[simp] theorem at3_1 (a b c : D) : atI [a, b, c] 1 = some b := rfl
@[simp] theorem at3_2 (a b c : D) : atI [a, b, c] 2 = some c := rfl
@[simp] theorem ix3_0 : ixN 3 0 = some 0 := rfl
@[simp] theorem ix3_1 : ixN 3 1 = some 1 := rfl
@[simp] theorem ix3_2 : ixN 3 2 = some 2 := rfl
/-- the pen: its cells, the number of draws, what is left of a great one -/
def PenI (k : Nat) (p : List D) : Prop := ∃ (ns : List Int) (a g : Int), p = [.lst (ns.map .int), .int a, .int g] ∧ (∀ z ∈ ns, z.natAbs.log2 ≤ 2000000) ∧ 0 ≤ a ∧ a ≤ k ∧ 0 ≤ g
theorem PenI.mono {j k : Nat} {p : List D} (h : PenI j p) (l : j ≤ k) : PenI k p := by
  obtain ⟨ns, a, g, e, h1, h2, h3, h4⟩ := h
  exact ⟨ns, a, g, e, h1, h2, by omega, h4⟩
theorem at_cells (ns : List Int) (i : Nat) (h : i < ns.length) : atI (ns.map D.int) (i : Int) = some (.int ns[i]) := by
  refine atI_nat (j := i) ?_
  rw [List.getElem?_map, List.getElem?_eq_getElem h]
  rfl
theorem fines_ints : ∀ ns : List Int, fines (ns.map D.int) = true
  | [] => rfl
  | n :: ns => by simp [fines, D.fine, fines_ints ns]
theorem deps_ints : ∀ ns : List Int, deps (ns.map D.int) = 0
  | [] => rfl
  | n :: ns => by simp [deps, D.dep, deps_ints ns]
theorem log_mono {a b : Nat} (h : a ≤ b) : a.log2 ≤ b.log2 := by
  by_cases z : a = 0
  · rw [z]
    exact Nat.zero_le _
  · exact (Nat.le_log2 (by omega)).mpr (Nat.le_trans (Nat.log2_self_le z) h)
theorem log_lt {x : Int} {k : Nat} (h : x.natAbs < 2 ^ k) (hk : 0 < k) : x.natAbs.log2 < k := by
  by_cases z : x.natAbs = 0
  · rw [z]
    simpa using hk
  · exact (Nat.log2_lt z).mpr h
theorem mul64 (i j : Int) (p : List D) (h1 : i.natAbs < 18446744073709551616) (h2 : j.natAbs < 18446744073709551616) : gMul (.int i) (.int j) p = .ok (.int (i * j)) p := by
  have e1 := log_lt (k := 64) h1 (by decide)
  have e2 := log_lt (k := 64) h2 (by decide)
  show (if i.natAbs.log2 + j.natAbs.log2 < 100000000 then R.ok (D.int (i * j)) p else R.stuck) = _
  rw [if_pos (by omega)]
theorem pow64 (i : Int) (j : Nat) (p : List D) (h1 : i.natAbs < 18446744073709551616) (h2 : j ≤ 1000000) : gPow (.int i) (.int (j : Int)) p = .ok (.int (i ^ j)) p := by
  show (if 0 ≤ (j : Int) ∧ (j : Int) ≤ 1000000 ∧ i.natAbs < 2 ^ 64 then R.ok (D.int (i ^ (j : Int).toNat)) p else R.stuck) = _
  rw [if_pos ⟨by omega, by omega, h1⟩]
  rfl
theorem sq_lt {a : Int} {b : Int} (h0 : 0 ≤ a) (h : a ≤ 100000) (hb : 0 ≤ b) (hb2 : b ≤ 2147483648) : 0 ≤ b * (2 * a + 251) ∧ b * (2 * a + 251) ≤ 2147483648 * 200251 ∧ 0 ≤ 67 * a * a ∧ 67 * a * a ≤ 67 * 100000 * 100000 := by
  refine ⟨Int.mul_nonneg hb (by omega), Int.mul_le_mul hb2 (by omega) (by omega) (by omega), Int.mul_nonneg (by omega) h0, Int.mul_le_mul (by omega) h h0 (by omega)⟩
theorem r_draw {k : Nat} {p : List D} (n : Int) (h : PenI k p) (hk : k ≤ 100000) (hn : 0 < n) (hl : n.natAbs.log2 < 9000) : Ok (F__law_draw [.pen, .int n] p) fun d p' => (∃ m : Int, d = .int m ∧ 0 ≤ m ∧ m < n) ∧ PenI (k + 1) p' := by
  obtain ⟨ns, a, g, rfl, h1, h2, h3, h4⟩ := h
  have nz : n ≠ 0 := by omega
  by_cases hg : 0 < g
  · refine ⟨.int (g.fmod n), [.lst (ns.map .int), .int a, .int (g / n)], ?_, ⟨_, rfl, Int.fmod_nonneg_of_pos _ hn, Int.fmod_lt_of_pos _ hn⟩, ns, a, g / n, rfl, h1, h2, by omega, Int.ediv_nonneg h4 (by omega)⟩
    simp [F__law_draw, fs__law_draw, setAll, runF, startS, sSeq, sNil, sDrop, sRet, sRetN, sIf, sSet, sSetO, sRetO, sFree, sAsg, sFor, sCont, sBrk, sApp, sExt, sAppPop, sSub, sPen, sPar, pNil, pVal, pOwn, fVar, fC, f1, f2, fTst, fAndB, fOrB, fNotB, fBool, fIf, fAnd, fOr, fNot, fNil, fCons, fStar, fTup, fLst, fL, fCall, fCallL, fCall0, fIsTy, fIsTys, D.ty, tyIs, fTru, D.tru, fIxO, fLenO, fTupO, fRevL, fIt, fItR, fItR2, items, hName, hTup, hSq, hCons, hNil, fTrue, wipeS, noX_ok, bnd_ok, bnd_exc, bnd_stuck, sRaise, gAdd, Dn.gSub, gMul, gMod, gDiv, gPow, gNeg, gEq, gNe, gLt, gLe, gGt, gGe, gIs, gIsNot, D.isC, D.isB, D.ok, D.fine, D.dep, D.eq, gInt, gAbs, gLen, gIx, gGcd, List.map_cons, List.map_nil, List.length_cons, List.length_nil, List.cons_append, List.nil_append, List.replicate_succ, List.replicate_zero, List.getElem?_cons_zero, List.getElem?_cons_succ, List.getElem?_nil, List.set_cons_zero, List.set_cons_succ, Nat.reduceAdd, Nat.reduceSub, Nat.zero_add, Nat.add_zero, hg, hn, hl, nz]
  · have g0 : g = 0 := by omega
    subst g0
    have ha : a ≤ 100000 := by omega
    have m1 : ∀ p, gMul (.int 40009) (.int a) p = .ok (.int (40009 * a)) p := fun p => mul64 _ _ p (by omega) (by omega)
    have m2 : ∀ p, gMul (.int 2) (.int a) p = .ok (.int (2 * a)) p := fun p => mul64 _ _ p (by omega) (by omega)
    have m3 : ∀ p, gMul (.int 67) (.int a) p = .ok (.int (67 * a)) p := fun p => mul64 _ _ p (by omega) (by omega)
    have m4 : ∀ p, gMul (.int (67 * a)) (.int a) p = .ok (.int (67 * a * a)) p := fun p => mul64 _ _ p (by omega) (by omega)
    have m5 : ∀ (x : Int) p, gMul (.int (x.fmod 2147483587)) (.int (2 * a + 251)) p = .ok (.int (x.fmod 2147483587 * (2 * a + 251))) p := fun x p => by
      have := Int.fmod_nonneg_of_pos x (b := 2147483587) (by decide)
      have := Int.fmod_lt_of_pos x (b := 2147483587) (by decide)
      exact mul64 _ _ p (by omega) (by omega)
    have p1 : ∀ (c : Int) p, gPow (.int (c.fmod 2147483563 + 40009 * a + 67)) (.int 5) p = .ok (.int ((c.fmod 2147483563 + 40009 * a + 67) ^ 5)) p := fun c p => by
      have := Int.fmod_nonneg_of_pos c (b := 2147483563) (by decide)
      have := Int.fmod_lt_of_pos c (b := 2147483563) (by decide)
      exact pow64 _ 5 p (by omega) (by omega)
    have p2 : ∀ (x : Int) p, gPow (.int (x.fmod 2147483587 * (2 * a + 251) + 67 * a * a + 40009)) (.int 3) p = .ok (.int ((x.fmod 2147483587 * (2 * a + 251) + 67 * a * a + 40009) ^ 3)) p := fun x p => by
      have u1 := Int.fmod_nonneg_of_pos x (b := 2147483587) (by decide)
      have u2 := Int.fmod_lt_of_pos x (b := 2147483587) (by decide)
      obtain ⟨q1, q2, q3, q4⟩ := sq_lt h2 ha u1 (by omega)
      exact pow64 _ 3 p (by omega) (by omega)
    have p3 : ∀ p, gPow (.int 10) (.int 18) p = .ok (.int 1000000000000000000) p := fun p => pow64 _ 18 p (by decide) (by decide)
    have l16 : Nat.log2 32 < 9000 := by decide
    by_cases hz : ns = []
    · subst hz
      have na : ¬ a < 0 := by omega
      simp [F__law_draw, fs__law_draw, setAll, runF, startS, sSeq, sNil, sDrop, sRet, sRetN, sIf, sSet, sSetO, sRetO, sFree, sAsg, sFor, sCont, sBrk, sApp, sExt, sAppPop, sSub, sPen, sPar, pNil, pVal, pOwn, fVar, fC, f1, f2, fTst, fAndB, fOrB, fNotB, fBool, fIf, fAnd, fOr, fNot, fNil, fCons, fStar, fTup, fLst, fL, fCall, fCallL, fCall0, fIsTy, fIsTys, D.ty, tyIs, fTru, D.tru, fIxO, fLenO, fTupO, fRevL, fIt, fItR, fItR2, items, hName, hTup, hSq, hCons, hNil, fTrue, wipeS, noX_ok, bnd_ok, bnd_exc, bnd_stuck, sRaise, gAdd, Dn.gSub, gMod, gDiv, gNeg, gEq, gNe, gLt, gLe, gGt, gGe, gIs, gIsNot, D.isC, D.isB, D.ok, D.fine, D.dep, D.eq, gInt, gAbs, gLen, gIx, gGcd, List.map_cons, List.map_nil, List.length_cons, List.length_nil, List.cons_append, List.nil_append, List.replicate_succ, List.replicate_zero, List.getElem?_cons_zero, List.getElem?_cons_succ, List.getElem?_nil, List.set_cons_zero, List.set_cons_succ, Nat.reduceAdd, Nat.reduceSub, Nat.zero_add, Nat.add_zero, hn, hl, nz, m1, m2, m3, m4, m5, p1, p2, p3, fines, deps, eqs, na, l16]
      exact ⟨_, _, rfl, ⟨_, rfl, Int.fmod_nonneg_of_pos _ hn, Int.fmod_lt_of_pos _ hn⟩, [], a + 1, 0, rfl, h1, by omega, by omega, by omega⟩
    · have hlen : 0 < ns.length := List.length_pos_iff.mpr hz
      have lz : (ns.length : Int) ≠ 0 := by omega
      have hmod : a.toNat % ns.length < ns.length := Nat.mod_lt _ hlen
      have ef : a.fmod (ns.length : Int) = ((a.toNat % ns.length : Nat) : Int) := by
        rw [Int.fmod_eq_emod_of_nonneg a (by omega), Int.natCast_emod, Int.toNat_of_nonneg h2]
      obtain ⟨c, hc, hix⟩ : ∃ c ∈ ns, atI (ns.map D.int) (a.fmod (ns.length : Int)) = some (.int c) := ⟨_, List.getElem_mem hmod, by rw [ef]; exact at_cells ns _ hmod⟩
      have e1 : ∀ p, gNe (.lst (ns.map D.int)) (.lst []) p = .ok (.bl true) p := fun p => by
        obtain ⟨x, t, rfl⟩ := List.exists_cons_of_ne_nil hz
        show (if D.ok _ && D.ok _ then R.ok (D.bl (!D.eq _ _)) p else R.stuck) = _
        rw [show D.ok (.lst ((x :: t).map D.int)) = true from by simp only [D.ok, D.fine, D.dep, fines_ints, deps_ints]; rfl, show D.ok (.lst []) = true from rfl]
        rfl
      by_cases hb1 : a < ns.length
      · by_cases hb2 : (1000000000000000000 : Int) ≤ (if c < 0 then -c else c)
        · have m6 : ∀ p, gMul (.int 2) (.int ((if c < 0 then -c else c) - 1000000000000000000)) p = .ok (.int (2 * ((if c < 0 then -c else c) - 1000000000000000000))) p := fun p => by
            show (if _ then R.ok _ p else R.stuck) = _
            have hl1 : ((if c < 0 then -c else c) - 1000000000000000000).natAbs ≤ c.natAbs := by split <;> omega
            have hl2 := log_mono hl1
            have hl3 := h1 c hc
            rw [if_pos (by have : (2 : Int).natAbs.log2 = 1 := by decide
                           omega)]
          have q0 : 0 ≤ 2 * ((if c < 0 then -c else c) - 1000000000000000000) + (if c < 0 then 1 else 0) := by split <;> omega
          simp [F__law_draw, fs__law_draw, setAll, runF, startS, sSeq, sNil, sDrop, sRet, sRetN, sIf, sSet, sSetO, sRetO, sFree, sAsg, sFor, sCont, sBrk, sApp, sExt, sAppPop, sSub, sPen, sPar, pNil, pVal, pOwn, fVar, fC, f1, f2, fTst, fAndB, fOrB, fNotB, fBool, fIf, fAnd, fOr, fNot, fNil, fCons, fStar, fTup, fLst, fL, fCall, fCallL, fCall0, fIsTy, fIsTys, D.ty, tyIs, fTru, D.tru, fIxO, fLenO, fTupO, fRevL, fIt, fItR, fItR2, items, hName, hTup, hSq, hCons, hNil, fTrue, wipeS, noX_ok, bnd_ok, bnd_exc, bnd_stuck, sRaise, gAdd, Dn.gSub, gMod, gDiv, gNeg, gLt, gLe, gGt, gGe, gIs, gIsNot, D.isC, D.isB, gInt, gAbs, gLen, gIx, gGcd, List.map_cons, List.map_nil, List.length_cons, List.length_nil, List.cons_append, List.nil_append, List.replicate_succ, List.replicate_zero, List.getElem?_cons_zero, List.getElem?_cons_succ, List.getElem?_nil, List.set_cons_zero, List.set_cons_succ, Nat.reduceAdd, Nat.reduceSub, Nat.zero_add, Nat.add_zero, hn, hl, nz, hz, m1, m2, m3, m4, m5, m6, p1, p2, p3, e1, hix, lz, hb1, hb2, l16]
          exact ⟨_, _, rfl, ⟨_, rfl, Int.fmod_nonneg_of_pos _ hn, Int.fmod_lt_of_pos _ hn⟩, ns, a + 1, _, rfl, h1, by omega, by omega, Int.ediv_nonneg q0 (by omega)⟩
        · simp [F__law_draw, fs__law_draw, setAll, runF, startS, sSeq, sNil, sDrop, sRet, sRetN, sIf, sSet, sSetO, sRetO, sFree, sAsg, sFor, sCont, sBrk, sApp, sExt, sAppPop, sSub, sPen, sPar, pNil, pVal, pOwn, fVar, fC, f1, f2, fTst, fAndB, fOrB, fNotB, fBool, fIf, fAnd, fOr, fNot, fNil, fCons, fStar, fTup, fLst, fL, fCall, fCallL, fCall0, fIsTy, fIsTys, D.ty, tyIs, fTru, D.tru, fIxO, fLenO, fTupO, fRevL, fIt, fItR, fItR2, items, hName, hTup, hSq, hCons, hNil, fTrue, wipeS, noX_ok, bnd_ok, bnd_exc, bnd_stuck, sRaise, gAdd, Dn.gSub, gMod, gDiv, gNeg, gLt, gLe, gGt, gGe, gIs, gIsNot, D.isC, D.isB, gInt, gAbs, gLen, gIx, gGcd, List.map_cons, List.map_nil, List.length_cons, List.length_nil, List.cons_append, List.nil_append, List.replicate_succ, List.replicate_zero, List.getElem?_cons_zero, List.getElem?_cons_succ, List.getElem?_nil, List.set_cons_zero, List.set_cons_succ, Nat.reduceAdd, Nat.reduceSub, Nat.zero_add, Nat.add_zero, hn, hl, nz, hz, m1, m2, m3, m4, m5, p1, p2, p3, e1, hix, lz, hb1, hb2, l16]
          exact ⟨_, _, rfl, ⟨_, rfl, Int.fmod_nonneg_of_pos _ hn, Int.fmod_lt_of_pos _ hn⟩, ns, a + 1, 0, rfl, h1, by omega, by omega, by omega⟩
      · simp [F__law_draw, fs__law_draw, setAll, runF, startS, sSeq, sNil, sDrop, sRet, sRetN, sIf, sSet, sSetO, sRetO, sFree, sAsg, sFor, sCont, sBrk, sApp, sExt, sAppPop, sSub, sPen, sPar, pNil, pVal, pOwn, fVar, fC, f1, f2, fTst, fAndB, fOrB, fNotB, fBool, fIf, fAnd, fOr, fNot, fNil, fCons, fStar, fTup, fLst, fL, fCall, fCallL, fCall0, fIsTy, fIsTys, D.ty, tyIs, fTru, D.tru, fIxO, fLenO, fTupO, fRevL, fIt, fItR, fItR2, items, hName, hTup, hSq, hCons, hNil, fTrue, wipeS, noX_ok, bnd_ok, bnd_exc, bnd_stuck, sRaise, gAdd, Dn.gSub, gMod, gDiv, gNeg, gLt, gLe, gGt, gGe, gIs, gIsNot, D.isC, D.isB, gInt, gAbs, gLen, gIx, gGcd, List.map_cons, List.map_nil, List.length_cons, List.length_nil, List.cons_append, List.nil_append, List.replicate_succ, List.replicate_zero, List.getElem?_cons_zero, List.getElem?_cons_succ, List.getElem?_nil, List.set_cons_zero, List.set_cons_succ, Nat.reduceAdd, Nat.reduceSub, Nat.zero_add, Nat.add_zero, hn, hl, nz, hz, m1, m2, m3, m4, m5, p1, p2, p3, e1, hix, lz, hb1, l16]
        exact ⟨_, _, rfl, ⟨_, rfl, Int.fmod_nonneg_of_pos _ hn, Int.fmod_lt_of_pos _ hn⟩, ns, a + 1, 0, rfl, h1, by omega, by omega, by omega⟩
end Lw
end

section
set_option Elab.async false
set_option linter.all false
set_option maxRecDepth 100000
set_option maxHeartbeats 4000000
namespace Nm
open PySem PySem.Spec PyProof.Rows L2 Dn
def prs : List Nat → List (Nat × Nat)
  | [] => []
  | x :: r => r.map (fun y => (x, y)) ++ prs r
def trs : List Nat → List (Nat × Nat × Nat)
  | [] => []
  | x :: r => (prs r).map (fun y => (x, y)) ++ trs r
def T3 : List (Nat × Nat × Nat) := trs (List.range 28)
def t3 (t : Nat × Nat × Nat) : List Nat := [t.1, t.2.1, t.2.2]
def closes (t : Nat × Nat × Nat) : List Nat := (List.range 28).filter fun k => decide (t.2.2 < k) && (mn (nb t.1 ^^^ nb t.2.1 ^^^ nb t.2.2 ^^^ nb k) == 0)
def F4n : List (List Nat) := [
  [0, 1, 8, 13], [0, 1, 9, 14], [0, 1, 10, 15], [0, 1, 11, 16], [0, 1, 12, 17], [0, 2, 7, 13], [0, 2, 9, 18], [0, 2, 10, 19], [0, 2, 11, 20], [0, 2, 12, 21], [0, 3, 7, 14], [0, 3, 8, 18], [0, 3, 10, 22], [0, 3, 11, 23], [0, 3, 12, 24],
  [0, 4, 7, 15], [0, 4, 8, 19], [0, 4, 9, 22], [0, 4, 11, 25], [0, 4, 12, 26], [0, 5, 7, 16], [0, 5, 8, 20], [0, 5, 9, 23], [0, 5, 10, 25], [0, 5, 12, 27], [0, 6, 7, 17], [0, 6, 8, 21], [0, 6, 9, 24], [0, 6, 10, 26], [0, 6, 11, 27],
  [0, 13, 22, 27], [0, 13, 23, 26], [0, 13, 24, 25], [0, 14, 19, 27], [0, 14, 20, 26], [0, 14, 21, 25], [0, 15, 18, 27], [0, 15, 20, 24], [0, 15, 21, 23], [0, 16, 18, 26], [0, 16, 19, 24], [0, 16, 21, 22], [0, 17, 18, 25], [0, 17, 19, 23], [0, 17, 20, 22],
  [1, 2, 7, 8], [1, 2, 14, 18], [1, 2, 15, 19], [1, 2, 16, 20], [1, 2, 17, 21], [1, 3, 7, 9], [1, 3, 13, 18], [1, 3, 15, 22], [1, 3, 16, 23], [1, 3, 17, 24], [1, 4, 7, 10], [1, 4, 13, 19], [1, 4, 14, 22], [1, 4, 16, 25], [1, 4, 17, 26],
  [1, 5, 7, 11], [1, 5, 13, 20], [1, 5, 14, 23], [1, 5, 15, 25], [1, 5, 17, 27], [1, 6, 7, 12], [1, 6, 13, 21], [1, 6, 14, 24], [1, 6, 15, 26], [1, 6, 16, 27], [1, 8, 22, 27], [1, 8, 23, 26], [1, 8, 24, 25], [1, 9, 19, 27], [1, 9, 20, 26],
  [1, 9, 21, 25], [1, 10, 18, 27], [1, 10, 20, 24], [1, 10, 21, 23], [1, 11, 18, 26], [1, 11, 19, 24], [1, 11, 21, 22], [1, 12, 18, 25], [1, 12, 19, 23], [1, 12, 20, 22], [2, 3, 8, 9], [2, 3, 13, 14], [2, 3, 19, 22], [2, 3, 20, 23], [2, 3, 21, 24],
  [2, 4, 8, 10], [2, 4, 13, 15], [2, 4, 18, 22], [2, 4, 20, 25], [2, 4, 21, 26], [2, 5, 8, 11], [2, 5, 13, 16], [2, 5, 18, 23], [2, 5, 19, 25], [2, 5, 21, 27], [2, 6, 8, 12], [2, 6, 13, 17], [2, 6, 18, 24], [2, 6, 19, 26], [2, 6, 20, 27],
  [2, 7, 22, 27], [2, 7, 23, 26], [2, 7, 24, 25], [2, 9, 15, 27], [2, 9, 16, 26], [2, 9, 17, 25], [2, 10, 14, 27], [2, 10, 16, 24], [2, 10, 17, 23], [2, 11, 14, 26], [2, 11, 15, 24], [2, 11, 17, 22], [2, 12, 14, 25], [2, 12, 15, 23], [2, 12, 16, 22],
  [3, 4, 9, 10], [3, 4, 14, 15], [3, 4, 18, 19], [3, 4, 23, 25], [3, 4, 24, 26], [3, 5, 9, 11], [3, 5, 14, 16], [3, 5, 18, 20], [3, 5, 22, 25], [3, 5, 24, 27], [3, 6, 9, 12], [3, 6, 14, 17], [3, 6, 18, 21], [3, 6, 22, 26], [3, 6, 23, 27],
  [3, 7, 19, 27], [3, 7, 20, 26], [3, 7, 21, 25], [3, 8, 15, 27], [3, 8, 16, 26], [3, 8, 17, 25], [3, 10, 13, 27], [3, 10, 16, 21], [3, 10, 17, 20], [3, 11, 13, 26], [3, 11, 15, 21], [3, 11, 17, 19], [3, 12, 13, 25], [3, 12, 15, 20], [3, 12, 16, 19],
  [4, 5, 10, 11], [4, 5, 15, 16], [4, 5, 19, 20], [4, 5, 22, 23], [4, 5, 26, 27], [4, 6, 10, 12], [4, 6, 15, 17], [4, 6, 19, 21], [4, 6, 22, 24], [4, 6, 25, 27], [4, 7, 18, 27], [4, 7, 20, 24], [4, 7, 21, 23], [4, 8, 14, 27], [4, 8, 16, 24],
  [4, 8, 17, 23], [4, 9, 13, 27], [4, 9, 16, 21], [4, 9, 17, 20], [4, 11, 13, 24], [4, 11, 14, 21], [4, 11, 17, 18], [4, 12, 13, 23], [4, 12, 14, 20], [4, 12, 16, 18], [5, 6, 11, 12], [5, 6, 16, 17], [5, 6, 20, 21], [5, 6, 23, 24], [5, 6, 25, 26],
  [5, 7, 18, 26], [5, 7, 19, 24], [5, 7, 21, 22], [5, 8, 14, 26], [5, 8, 15, 24], [5, 8, 17, 22], [5, 9, 13, 26], [5, 9, 15, 21], [5, 9, 17, 19], [5, 10, 13, 24], [5, 10, 14, 21], [5, 10, 17, 18], [5, 12, 13, 22], [5, 12, 14, 19], [5, 12, 15, 18],
  [6, 7, 18, 25], [6, 7, 19, 23], [6, 7, 20, 22], [6, 8, 14, 25], [6, 8, 15, 23], [6, 8, 16, 22], [6, 9, 13, 25], [6, 9, 15, 20], [6, 9, 16, 19], [6, 10, 13, 23], [6, 10, 14, 20], [6, 10, 16, 18], [6, 11, 13, 22], [6, 11, 14, 19], [6, 11, 15, 18],
  [7, 8, 14, 18], [7, 8, 15, 19], [7, 8, 16, 20], [7, 8, 17, 21], [7, 9, 13, 18], [7, 9, 15, 22], [7, 9, 16, 23], [7, 9, 17, 24], [7, 10, 13, 19], [7, 10, 14, 22], [7, 10, 16, 25], [7, 10, 17, 26], [7, 11, 13, 20], [7, 11, 14, 23], [7, 11, 15, 25],
  [7, 11, 17, 27], [7, 12, 13, 21], [7, 12, 14, 24], [7, 12, 15, 26], [7, 12, 16, 27], [8, 9, 13, 14], [8, 9, 19, 22], [8, 9, 20, 23], [8, 9, 21, 24], [8, 10, 13, 15], [8, 10, 18, 22], [8, 10, 20, 25], [8, 10, 21, 26], [8, 11, 13, 16], [8, 11, 18, 23],
  [8, 11, 19, 25], [8, 11, 21, 27], [8, 12, 13, 17], [8, 12, 18, 24], [8, 12, 19, 26], [8, 12, 20, 27], [9, 10, 14, 15], [9, 10, 18, 19], [9, 10, 23, 25], [9, 10, 24, 26], [9, 11, 14, 16], [9, 11, 18, 20], [9, 11, 22, 25], [9, 11, 24, 27], [9, 12, 14, 17],
  [9, 12, 18, 21], [9, 12, 22, 26], [9, 12, 23, 27], [10, 11, 15, 16], [10, 11, 19, 20], [10, 11, 22, 23], [10, 11, 26, 27], [10, 12, 15, 17], [10, 12, 19, 21], [10, 12, 22, 24], [10, 12, 25, 27], [11, 12, 16, 17], [11, 12, 20, 21], [11, 12, 23, 24], [11, 12, 25, 26],
  [13, 14, 19, 22], [13, 14, 20, 23], [13, 14, 21, 24], [13, 15, 18, 22], [13, 15, 20, 25], [13, 15, 21, 26], [13, 16, 18, 23], [13, 16, 19, 25], [13, 16, 21, 27], [13, 17, 18, 24], [13, 17, 19, 26], [13, 17, 20, 27], [14, 15, 18, 19], [14, 15, 23, 25], [14, 15, 24, 26],
  [14, 16, 18, 20], [14, 16, 22, 25], [14, 16, 24, 27], [14, 17, 18, 21], [14, 17, 22, 26], [14, 17, 23, 27], [15, 16, 19, 20], [15, 16, 22, 23], [15, 16, 26, 27], [15, 17, 19, 21], [15, 17, 22, 24], [15, 17, 25, 27], [16, 17, 20, 21], [16, 17, 23, 24], [16, 17, 25, 26],
  [18, 19, 23, 25], [18, 19, 24, 26], [18, 20, 22, 25], [18, 20, 24, 27], [18, 21, 22, 26], [18, 21, 23, 27], [19, 20, 22, 23], [19, 20, 26, 27], [19, 21, 22, 24], [19, 21, 25, 27], [20, 21, 23, 24], [20, 21, 25, 26], [22, 23, 26, 27], [22, 24, 25, 27], [23, 24, 25, 26]]
def F4m : List (List Nat) := T3.flatMap fun t => (closes t).map fun k => [t.1, t.2.1, t.2.2, k]
def fthT : List (Option Nat) := [none, none, none, some 0, none, some 1, some 7, none, none, some 2, some 8, none, some 13, none, none, none, none, some 3, some 9, none, some 14, none, none, none, some 18, none, none, none, none, none, none, none, none, some 4, some 10, none, some 15, none, none, none, some 19, none, none, none, none, none, none, none, some 22, none, none, none, none, none, none, none, none, none, none, none, none, none, none, some 27, none, some 5, some 11, none, some 16, none, none, none, some 20, none, none, none, none, none, none, none, some 23, none, none, none, none, none, none, none, none, none, none, none, none, none, none, some 26, some 25, none, none, none, none, none, none, none, none, none, none, none, none, none, none, some 24, none, none, none, none, none, none, none, some 21, none, none, none, some 17, none, some 12, some 6, none, none, some 6, some 12, none, some 17, none, none, none, some 21, none, none, none, none, none, none, none, some 24, none, none, none, none, none, none, none, none, none, none, none, none, none, none, some 25, some 26, none, none, none, none, none, none, none, none, none, none, none, none, none, none, some 23, none, none, none, none, none, none, none, some 20, none, none, none, some 16, none, some 11, some 5, none, some 27, none, none, none, none, none, none, none, none, none, none, none, none, none, none, some 22, none, none, none, none, none, none, none, some 19, none, none, none, some 15, none, some 10, some 4, none, none, none, none, none, none, none, none, some 18, none, none, none, some 14, none, some 9, some 3, none, none, none, none, some 13, none, some 8, some 2, none, none, some 7, some 1, none, some 0, none, none, none]
theorem fth_tab {x : Nat} (h : x < 256) : fth x = fthT.getD x none := by
  have : ∀ x ∈ List.range 256, fth x = fthT.getD x none := by decide +kernel
  exact this x (List.mem_range.mpr h)
theorem T3_len : T3.length = 3276 := by decide +kernel
theorem T3_ok : ∀ t ∈ T3, t.1 < t.2.1 ∧ t.2.1 < t.2.2 ∧ t.2.2 < 28 := by decide +kernel
theorem t3_lt {t : Nat × Nat × Nat} (h : t.1 < t.2.1 ∧ t.2.1 < t.2.2 ∧ t.2.2 < 28) : ∀ k ∈ t3 t, k < 28 := fun k hk => by
  simp only [t3, List.mem_cons, List.not_mem_nil, or_false] at hk
  omega
theorem xr_t3 (t : Nat × Nat × Nat) : xr (t3 t) = nb t.1 ^^^ nb t.2.1 ^^^ nb t.2.2 := by
  unfold xr t3
  simp
theorem closes_fth {t : Nat × Nat × Nat} (h : t.1 < t.2.1 ∧ t.2.1 < t.2.2 ∧ t.2.2 < 28) : closes t = (oL (fth (xr (t3 t)))).filter fun k => decide (t.2.2 < k) := by
  rw [← fil_fth (xr_lt _ (t3_lt h)), List.filter_filter, xr_t3]
  rfl
def cT (t : Nat × Nat × Nat) : List (List Nat) := ((oL (fthT.getD (nb t.1 ^^^ nb t.2.1 ^^^ nb t.2.2) none)).filter fun k => decide (t.2.2 < k)).map fun k => [t.1, t.2.1, t.2.2, k]
theorem flat_congr {α β : Type} {f g : α → List β} : ∀ (ts : List α), (∀ t ∈ ts, f t = g t) → ts.flatMap f = ts.flatMap g
  | [], _ => rfl
  | t :: ts, h => by rw [List.flatMap_cons, List.flatMap_cons, h t List.mem_cons_self, flat_congr ts fun z hz => h z (List.mem_cons_of_mem _ hz)]
theorem F4_tab : T3.flatMap cT = F4n := by decide +kernel
theorem F4_eq : F4m = F4n := by
  rw [← F4_tab]
  unfold F4m
  refine flat_congr T3 fun t ht => ?_
  have h := T3_ok t ht
  rw [closes_fth h, fth_tab (xr_lt _ (t3_lt h)), xr_t3]
  rfl
def tb4 (t : Nat × Nat × Nat) : Bool := match fth (xr (t3 t)) with
  | some k => decide (t.2.2 < k)
  | none => false
def ev4 (t : Nat × Nat × Nat) : List Nat := match fth (xr (t3 t)) with
  | some k => [t.1, t.2.1, t.2.2, k]
  | none => []
theorem fil_flat {α β : Type} (tb : α → Bool) (ev : α → β) : ∀ (ts : List α), (ts.filter tb).map ev = ts.flatMap fun t => if tb t then [ev t] else []
  | [] => rfl
  | t :: ts => by
    rw [List.flatMap_cons, ← fil_flat tb ev ts, List.filter_cons]
    split <;> rfl
theorem F4_prog : (T3.filter tb4).map ev4 = F4n := by
  rw [← F4_eq, fil_flat]
  unfold F4m
  refine flat_congr T3 fun t ht => ?_
  rw [closes_fth (T3_ok t ht)]
  unfold tb4 ev4
  cases q : fth (xr (t3 t)) with
  | none => rfl
  | some k =>
    by_cases z : t.2.2 < k
    · simp [oL, z]
    · simp [oL, z]
def f4D (l : List Nat) : D := .tup (l.map nD)
def F4D : List D := F4n.map f4D

end Nm
end

section
set_option Elab.async false
set_option linter.all false
set_option maxRecDepth 100000
set_option maxHeartbeats 4000000
namespace Nm
open PySem PySem.Spec PyProof.Rows L2 Dn
def ok1 (s : Str) : Prop := PyData.strOk s = true
theorem ok1_app {a b : Str} (h1 : ok1 a) (h2 : ok1 b) : ok1 (a ++ b) := by
  show (a.cps ++ b.cps).all _ = true
  rw [Array.all_append]
  exact Bool.and_eq_true_iff.mpr ⟨h1, h2⟩
theorem ok1_join {sep : Str} (hs : ok1 sep) : ∀ xs : List Str, (∀ x ∈ xs, ok1 x) → ok1 (Str.join sep xs)
  | [], _ => by show PyData.strOk Str.empty = true; decide +kernel
  | [x], h => h x List.mem_cons_self
  | x :: y :: r, h => ok1_app (ok1_app (h x List.mem_cons_self) hs) (ok1_join hs (y :: r) fun z hz => h z (List.mem_cons_of_mem _ hz))
theorem ok1_tup (xs : List Str) (h : ∀ x ∈ xs, ok1 x) : ok1 (tupleText xs) := by
  unfold tupleText
  refine ok1_app (ok1_app (by show PyData.strOk _ = true; decide +kernel) (ok1_join (by show PyData.strOk _ = true; decide +kernel) xs h)) ?_
  split
  · show PyData.strOk _ = true; decide +kernel
  · show PyData.strOk _ = true; decide +kernel
theorem shown_nm : ∀ k ∈ List.range 28, PyData.strOk (nD k).toP.shown = true := by decide +kernel
theorem mem_shown {ds : List D} {x : Str} : x ∈ PyData.shownAll (toPs ds) → ∃ d ∈ ds, x = d.toP.shown := by
  induction ds with
  | nil => intro h; cases h
  | cons d ds ih =>
    intro h
    have h : x ∈ d.toP.shown :: PyData.shownAll (toPs ds) := h
    rcases List.mem_cons.mp h with rfl | h
    · exact ⟨d, List.mem_cons_self, rfl⟩
    · obtain ⟨e, h1, h2⟩ := ih h
      exact ⟨e, List.mem_cons_of_mem _ h1, h2⟩
theorem ok_names (l : List Nat) (h : ∀ k ∈ l, k < 28) : ok1 (D.tup (l.map nD)).toP.shown := by
  show ok1 (tupleText (PyData.shownAll (toPs (l.map nD))))
  refine ok1_tup _ fun x hx => ?_
  obtain ⟨d, hd, rfl⟩ := mem_shown hx
  obtain ⟨k, hk, rfl⟩ := List.mem_map.mp hd
  exact shown_nm k (List.mem_range.mpr (h k hk))
theorem ok_rows (ls : List (List Nat)) (h : ∀ l ∈ ls, ∀ k ∈ l, k < 28) : ok1 (D.tup (ls.map f4D)).toP.shown := by
  show ok1 (tupleText (PyData.shownAll (toPs (ls.map f4D))))
  refine ok1_tup _ fun x hx => ?_
  obtain ⟨d, hd, rfl⟩ := mem_shown hx
  obtain ⟨l, hl, rfl⟩ := List.mem_map.mp hd
  exact ok_names l (h l hl)
theorem F4_lt : ∀ l ∈ F4n, ∀ k ∈ l, k < 28 := by decide +kernel
theorem F4_nd : ∀ l ∈ F4n, l.Nodup ∧ l.length = 4 ∧ mn (xr l) = 0 := by decide +kernel
theorem F4_sh : (D.tup F4D).sh = true := by decide +kernel
theorem ne_same (s : Str) (h : ok1 s) (p : List D) : gNe (.str s) (.str s) p = .ok (.bl false) p := by
  have e : (D.str s).ok = true := by
    unfold D.ok
    rw [show (D.str s).fine = PyData.strOk s from rfl, show PyData.strOk s = true from h]
    rfl
  unfold gNe
  rw [e]
  have : (D.str s).eq (.str s) = true := by show (s == s) = true; exact beq_self_eq_true s
  rw [this]
  rfl
end Nm
end

section
set_option Elab.async false
set_option linter.all false
set_option maxRecDepth 100000
set_option maxHeartbeats 4000000
namespace Lw
open PySem PySem.Spec PyProof.Rows L2 Dn Nm
theorem r_pick {k : Nat} {p : List D} (x : D) (ds : List D) (hx : items x = some ds) (h : PenI k p) (hk : k ≤ 100000) (h0 : 0 < ds.length) (h1 : ds.length < 1000) : Ok (F__law_pick [.pen, x] p) fun d p' => d ∈ ds ∧ PenI (k + 1) p' := by
  obtain ⟨_, p1, e, ⟨m, rfl, a1, a2⟩, hp⟩ := r_draw (ds.length : Int) h hk (by omega) (by
    have := log_lt (x := (ds.length : Int)) (k := 10) (by show ds.length < 1024; omega) (by decide)
    omega)
  obtain ⟨j, rfl⟩ := Int.eq_ofNat_of_zero_le a1
  have hj : j < ds.length := by omega
  have hix : ∀ p, gIx [] x (.int (j : Int)) p = .ok ds[j] p := fun p => by
    have := atI_nat (xs := ds) (List.getElem?_eq_getElem hj)
    cases x <;> simp [items] at hx <;> simp [gIx, hx, this]
  refine ⟨ds[j], p1, ?_, List.getElem_mem hj, hp⟩
  have hl : ∀ p, gLen [x] p = .ok (.int (ds.length : Nat)) p := fun p => len_items x _ p hx
  simp [F__law_pick, fs__law_pick, setAll, runF, startS, sSeq, sNil, sDrop, sRet, sRetN, sIf, sSet, sSetO, sRetO, sFree, sAsg, sFor, sCont, sBrk, sApp, sExt, sAppPop, sSub, sPen, sPar, pNil, pVal, pOwn, fVar, fC, f1, f2, fTst, fAndB, fOrB, fNotB, fBool, fIf, fAnd, fOr, fNot, fNil, fCons, fStar, fTup, fLst, fL, fCall, fCallL, fCall0, fIsTy, fIsTys, D.ty, tyIs, fTru, D.tru, fIxO, fLenO, fTupO, fRevL, fIt, fItR, fItR2, items, hName, hTup, hSq, hCons, hNil, fTrue, wipeS, noX_ok, bnd_ok, bnd_exc, bnd_stuck, sRaise, List.map_cons, List.map_nil, List.length_cons, List.length_nil, List.cons_append, List.nil_append, List.replicate_succ, List.replicate_zero, List.getElem?_cons_zero, List.getElem?_cons_succ, List.getElem?_nil, List.set_cons_zero, List.set_cons_succ, Nat.reduceAdd, Nat.reduceSub, Nat.zero_add, Nat.add_zero, e, hix, hl]
theorem mulS {a b : Nat} (i j : Int) (p : List D) (h1 : i.natAbs < 2 ^ a) (h2 : j.natAbs < 2 ^ b) (ha : 0 < a) (hb : 0 < b) (hab : a + b ≤ 100000000) : gMul (.int i) (.int j) p = .ok (.int (i * j)) p := by
  have e1 := log_lt h1 ha
  have e2 := log_lt h2 hb
  show (if i.natAbs.log2 + j.natAbs.log2 < 100000000 then R.ok (D.int (i * j)) p else R.stuck) = _
  rw [if_pos (by omega)]
def N28 : List D := (List.range 28).map nD
theorem r_names (p : List D) : F__law_names [] p = .ok (.lst N28) p := by kernel_rfl
/-! ### the mask -/
theorem strs_nD (ks : List Nat) : allOf D.str? (ks.map nD) = some (ks.map nm) := by
  induction ks with
  | nil => rfl
  | cons a o ih =>
    simp only [List.map_cons, allOf, ih]
    rfl
theorem len_nm {k : Nat} (h : k < 28) : (nm k).length = 2 := all28 (P := fun k => (nm k).length = 2) (by decide +kernel) h
theorem sum_len (ks : List Nat) (h : ∀ k ∈ ks, k < 28) : ((ks.map nm).map (·.length)).sum = 2 * ks.length := by
  induction ks with
  | nil => rfl
  | cons a o ih =>
    rw [List.map_cons, List.map_cons, List.sum_cons, ih fun z hz => h z (List.mem_cons_of_mem _ hz), len_nm (h a List.mem_cons_self), List.length_cons]
    omega
theorem r_join (x : D) (ks : List Nat) (h : items x = some (ks.map nD)) (hk : ∀ k ∈ ks, k < 28) (hl : ks.length ≤ 1000) (p : List D) : gJoin Str.empty x p = .ok (.str (Txt.join Str.empty (ks.map nm))) p := by
  have e := strs_nD ks
  have hs := sum_len ks hk
  have e0 : Str.empty.length = 0 := rfl
  cases x <;> simp only [items, reduceCtorEq, Option.some.injEq] at h
  · subst h
    simp only [gJoin, e, hs, e0, List.length_map, Nat.mul_zero, Nat.add_zero]
    rw [if_pos (by omega)]
  · subst h
    simp only [gJoin, e, hs, e0, List.length_map, Nat.mul_zero, Nat.add_zero]
    rw [if_pos (by omega)]
def digit (i : Nat) : Str := ⟨#[48 + i]⟩
theorem r_str {i : Nat} (h : i < 8) (p : List D) : gStr [iD i] p = .ok (.str (digit i)) p := by
  have : i = 0 ∨ i = 1 ∨ i = 2 ∨ i = 3 ∨ i = 4 ∨ i = 5 ∨ i = 6 ∨ i = 7 := by omega
  rcases this with rfl | rfl | rfl | rfl | rfl | rfl | rfl | rfl <;> kernel_rfl
def cnt (ks : List Nat) (i : Nat) : Nat := ((ks.map nm).flatMap fun y => y.cps.toList).count (48 + i)
theorem nb_bit {k i : Nat} (hk : k < 28) (hi : i < 8) : (nb k).testBit i = decide ((nm k).cps.toList.count (48 + i) % 2 = 1) := by
  have := all28 (P := fun k => ∀ i ∈ List.range 8, (nb k).testBit i = decide ((nm k).cps.toList.count (48 + i) % 2 = 1)) (by decide +kernel) hk
  exact this i (List.mem_range.mpr hi)
theorem cnt_bit {i : Nat} (hi : i < 8) : ∀ (ks : List Nat) (x : Nat), (∀ k ∈ ks, k < 28) → (ks.foldl (fun x k => x ^^^ nb k) x).testBit i = xor (x.testBit i) (decide (cnt ks i % 2 = 1))
  | [], x, _ => by simp [cnt]
  | k :: ks, x, h => by
    rw [List.foldl_cons, cnt_bit hi ks _ fun z hz => h z (List.mem_cons_of_mem _ hz), Nat.testBit_xor, nb_bit (h k List.mem_cons_self) hi]
    have e : cnt (k :: ks) i = (nm k).cps.toList.count (48 + i) + cnt ks i := by
      unfold cnt
      rw [List.map_cons, List.flatMap_cons, List.count_append]
    rw [e]
    generalize (nm k).cps.toList.count (48 + i) = a
    generalize cnt ks i = b
    cases x.testBit i <;> by_cases q1 : a % 2 = 1 <;> by_cases q2 : b % 2 = 1 <;> simp [q1, q2] <;> omega
def bit (x i : Nat) : Nat := if x.testBit i then 1 else 0
theorem cnt_par {i : Nat} (hi : i < 8) (ks : List Nat) (h : ∀ k ∈ ks, k < 28) : ((cnt ks i : Nat) : Int).fmod 2 = ((bit (xr ks) i : Nat) : Int) := by
  have := cnt_bit hi ks 0 h
  rw [Nat.zero_testBit, Bool.false_xor] at this
  have e : ((cnt ks i : Nat) : Int).fmod 2 = ((cnt ks i % 2 : Nat) : Int) := by
    rw [Int.fmod_eq_emod_of_nonneg _ (by decide), Int.natCast_emod]
    rfl
  rw [e]
  unfold bit xr
  rw [this]
  by_cases q : cnt ks i % 2 = 1
  · simp [q]
  · have : cnt ks i % 2 = 0 := by omega
    simp [this]
theorem bits_sum {x : Nat} (h : x < 256) : bit x 0 + bit x 1 * 2 + bit x 2 * 4 + bit x 3 * 8 + bit x 4 * 16 + bit x 5 * 32 + bit x 6 * 64 + bit x 7 * 128 = x := by
  have : ∀ x ∈ List.range 256, bit x 0 + bit x 1 * 2 + bit x 2 * 4 + bit x 3 * 8 + bit x 4 * 16 + bit x 5 * 32 + bit x 6 * 64 + bit x 7 * 128 = x := by decide +kernel
  exact this x (List.mem_range.mpr h)
theorem r_total {x : Nat} (h : x < 256) (x0 x1 x3 x4 x5 x6 : Sl) (p : List D) : fCall gSum (fCons (fL (fLc (fZipM (fVar 2) (fTup (fCons (fC (.int 1)) (fCons (fC (.int 2)) (fCons (fC (.int 4)) (fCons (fC (.int 8)) (fCons (fC (.int 16)) (fCons (fC (.int 32)) (fCons (fC (.int 64)) (fCons (fC (.int 128)) fNil)))))))))) (hSq 2 (hCons (hName 5) (hCons (hName 6) hNil))) fTrue (f2 gMul (fVar 5) (fVar 6)) [5, 6])) fNil)
    [x0, x1, .val (.lst ((List.range 8).map fun i => iD (bit x i))), x3, x4, x5, x6] p = .ok (iD x) p := by
  have mm : ∀ (i : Nat) (w : Int), w.natAbs ≤ 128 → ∀ p, gMul (iD (bit x i)) (.int w) p = .ok (.int ((bit x i : Nat) * w)) p := fun i w hw p => mulS (a := 10) (b := 10) _ _ p (by unfold bit; split <;> decide) (by show w.natAbs < 1024; omega) (by decide) (by decide) (by decide)
  have m0 := mm 0 1 (by decide)
  have m1 := mm 1 2 (by decide)
  have m2 := mm 2 4 (by decide)
  have m3 := mm 3 8 (by decide)
  have m4 := mm 4 16 (by decide)
  have m5 := mm 5 32 (by decide)
  have m6 := mm 6 64 (by decide)
  have m7 := mm 7 128 (by decide)
  have hs := bits_sum h
  have hs' : ((bit x 0 : Nat) : Int) * 1 + ((bit x 1 : Nat) : Int) * 2 + ((bit x 2 : Nat) : Int) * 4 + ((bit x 3 : Nat) : Int) * 8 + ((bit x 4 : Nat) : Int) * 16 + ((bit x 5 : Nat) : Int) * 32 + ((bit x 6 : Nat) : Int) * 64 + ((bit x 7 : Nat) : Int) * 128 = (x : Int) := by omega
  simp only [List.range_succ, List.range_zero, List.nil_append, List.cons_append, List.map_cons, List.map_nil]
  simp only [setAll, runF, startS, sSeq, sNil, sDrop, sRet, sRetN, sIf, sSet, sSetO, sRetO, sFree, sAsg, sFor, sCont, sBrk, sApp, sExt, sAppPop, sSub, sPen, sPar, pNil, pVal, pOwn, fVar, fC, f1, f2, fTst, fAndB, fOrB, fNotB, fBool, fIf, fAnd, fOr, fNot, fNil, fCons, fStar, fTup, fLst, fL, fCall, fCallL, fCall0, fIsTy, fIsTys, D.ty, tyIs, fTru, D.tru, fIxO, fLenO, fTupO, fRevL, fIt, fItR, fItR2, items, hName, hTup, hSq, hCons, hNil, fTrue, wipeS, noX_ok, bnd_ok, bnd_exc, bnd_stuck, sRaise, List.map_cons, List.map_nil, List.length_cons, List.length_nil, List.cons_append, List.nil_append, List.replicate_succ, List.replicate_zero, List.getElem?_cons_zero, List.getElem?_cons_succ, List.getElem?_nil, List.set_cons_zero, List.set_cons_succ, Nat.reduceAdd, Nat.reduceSub, Nat.zero_add, Nat.add_zero, fLc, chk, lcD, fZipM, zipD, m0, m1, m2, m3, m4, m5, m6, m7, if_true, Nat.reduceLeDiff]
  simp only [gSum, allOf, D.int?, List.foldl, iD]
  simp
  omega
theorem r_mask (x : D) (ks : List Nat) (h : items x = some (ks.map nD)) (hk : ∀ k ∈ ks, k < 28) (hl : ks.length ≤ 400) (p : List D) : F__law_mask [x] p = .ok (iD (mn (xr ks))) p := by
  have e1 : ∀ p, gJoin Str.empty x p = .ok (.str (Txt.join Str.empty (ks.map nm))) p := fun p => r_join x ks h hk (by omega) p
  have hc : ∀ i, (Txt.join Str.empty (ks.map nm)).cps.toList.count (48 + i) = cnt ks i := fun i => by rw [join_none]; rfl
  have e2 : ∀ (x3 x4 x5 x6 : Sl) (p : List D), fLc (fItR (fC (.int 8))) (hName 4) fTrue (f2 gMod (fCall gInt (fCons (fMeth gCount (fVar 1) (fCall gStr (fCons (fVar 4) fNil))) fNil)) (fC (.int 2))) [4] [.val x, .val (.str (Txt.join Str.empty (ks.map nm))), x3, x4, x5, x6, .none] p = .ok ((List.range 8).map fun i => iD (bit (xr ks) i)) p := fun x3 x4 x5 x6 p => by
    have := fLc_map (g := fun i : Nat => D.int (0 + (i : Int))) (tb := fun _ => true) (ev := fun i => iD (bit (xr ks) i)) (List.range 8) (f := fItR (fC (.int 8))) (vs := [4]) (h := hName 4) (t := fTrue) (e := f2 gMod (fCall gInt (fCons (fMeth gCount (fVar 1) (fCall gStr (fCons (fVar 4) fNil))) fNil)) (fC (.int 2))) (ρ := [.val x, .val (.str (Txt.join Str.empty (ks.map nm))), x3, x4, x5, x6, .none]) (q := p) (p := p) rfl (by decide) fun i hi => by
      have hi := List.mem_range.mp hi
      refine ⟨[.val x, .val (.str (Txt.join Str.empty (ks.map nm))), x3, x4, .val (iD i), x6, .none], ?_, rfl, fun _ => ?_⟩
      · show some [Sl.val x, .val (.str (Txt.join Str.empty (ks.map nm))), x3, x4, .val (.int (0 + (i : Int))), x6, .none] = _
        rw [Int.zero_add]
        rfl
      · have c1 := count_one (Txt.join Str.empty (ks.map nm)) (48 + i)
        rw [hc i] at c1
        simp only [setAll, runF, startS, sSeq, sNil, sDrop, sRet, sRetN, sIf, sSet, sSetO, sRetO, sFree, sAsg, sFor, sCont, sBrk, sApp, sExt, sAppPop, sSub, sPen, sPar, pNil, pVal, pOwn, fVar, fC, f1, f2, fTst, fAndB, fOrB, fNotB, fBool, fIf, fAnd, fOr, fNot, fNil, fCons, fStar, fTup, fLst, fL, fCall, fCallL, fCall0, fIsTy, fIsTys, D.ty, tyIs, fTru, D.tru, fIxO, fLenO, fTupO, fRevL, fIt, fItR, fItR2, items, hName, hTup, hSq, hCons, hNil, fTrue, wipeS, noX_ok, bnd_ok, bnd_exc, bnd_stuck, sRaise, List.map_cons, List.map_nil, List.length_cons, List.length_nil, List.cons_append, List.nil_append, List.replicate_succ, List.replicate_zero, List.getElem?_cons_zero, List.getElem?_cons_succ, List.getElem?_nil, List.set_cons_zero, List.set_cons_succ, Nat.reduceAdd, Nat.reduceSub, Nat.zero_add, Nat.add_zero, fMeth, r_str hi, gCount, digit, c1, gInt]
        show gMod (.int (cnt ks i : Nat)) (.int 2) p = _
        have := cnt_par hi ks hk
        simp only [gMod, this]
        simp [iD]
    rwa [filt_true] at this
  have hx := xr_lt ks hk
  have e3 := fun x0 x1 x3 x4 x5 x6 p => r_total hx x0 x1 x3 x4 x5 x6 p
  have e4 : ∀ p, gMin2 [iD (xr ks), .int (255 - (xr ks : Nat))] p = .ok (iD (mn (xr ks))) p := fun p => by
    unfold mn
    show R.ok (D.int (if (255 - ((xr ks : Nat) : Int)) < ((xr ks : Nat) : Int) then 255 - ((xr ks : Nat) : Int) else ((xr ks : Nat) : Int))) p = _
    by_cases q : 255 - xr ks < xr ks
    · rw [if_pos (by omega), if_pos q]
      congr 2
      omega
    · rw [if_neg (by omega), if_neg q]
      rfl
  have e5 : ∀ p, Dn.gSub (.int 255) (iD (xr ks)) p = .ok (.int (255 - (xr ks : Nat))) p := fun p => rfl
  have e0 : (Str.ofString "") = Str.empty := by kernel_rfl
  simp only [F__law_mask, fs__law_mask, setAll, runF, startS, sSeq, sNil, sDrop, sRet, sRetN, sIf, sSet, sSetO, sRetO, sFree, sAsg, sFor, sCont, sBrk, sApp, sExt, sAppPop, sSub, sPen, sPar, pNil, pVal, pOwn, fVar, fC, f1, f2, fTst, fAndB, fOrB, fNotB, fBool, fIf, fAnd, fOr, fNot, fNil, fCons, fStar, fTup, fLst, fL, fCall, fCallL, fCall0, fIsTy, fIsTys, D.ty, tyIs, fTru, D.tru, fIxO, fLenO, fTupO, fRevL, fIt, fItR, fItR2, items, hName, hTup, hSq, hCons, hNil, fTrue, wipeS, noX_ok, bnd_ok, bnd_exc, bnd_stuck, sRaise, List.map_cons, List.map_nil, List.length_cons, List.length_nil, List.cons_append, List.nil_append, List.replicate_succ, List.replicate_zero, List.getElem?_cons_zero, List.getElem?_cons_succ, List.getElem?_nil, List.set_cons_zero, List.set_cons_succ, Nat.reduceAdd, Nat.reduceSub, Nat.zero_add, Nat.add_zero, fMeth, e0, e1, e2]
  simp only [F__law_mask, fs__law_mask, setAll, runF, startS, sSeq, sNil, sDrop, sRet, sRetN, sIf, sSet, sSetO, sRetO, sFree, sAsg, sFor, sCont, sBrk, sApp, sExt, sAppPop, sSub, sPen, sPar, pNil, pVal, pOwn, fVar, fC, f1, f2, fTst, fAndB, fOrB, fNotB, fBool, fIf, fAnd, fOr, fNot, fNil, fCons, fStar, fTup, fLst, fL, fCall, fCallL, fCall0, fIsTy, fIsTys, D.ty, tyIs, fTru, D.tru, fIxO, fLenO, fTupO, fRevL, fIt, fItR, fItR2, items, hName, hTup, hSq, hCons, hNil, fTrue, wipeS, noX_ok, bnd_ok, bnd_exc, bnd_stuck, sRaise, List.map_cons, List.map_nil, List.length_cons, List.length_nil, List.cons_append, List.nil_append, List.replicate_succ, List.replicate_zero, List.getElem?_cons_zero, List.getElem?_cons_succ, List.getElem?_nil, List.set_cons_zero, List.set_cons_succ, Nat.reduceAdd, Nat.reduceSub, Nat.zero_add, Nat.add_zero, fMeth, fCall, fCons, e1, e2] at e3
  simp only [setAll, runF, startS, sSeq, sNil, sDrop, sRet, sRetN, sIf, sSet, sSetO, sRetO, sFree, sAsg, sFor, sCont, sBrk, sApp, sExt, sAppPop, sSub, sPen, sPar, pNil, pVal, pOwn, fVar, fC, f1, f2, fTst, fAndB, fOrB, fNotB, fBool, fIf, fAnd, fOr, fNot, fNil, fCons, fStar, fTup, fLst, fL, fCall, fCallL, fCall0, fIsTy, fIsTys, D.ty, tyIs, fTru, D.tru, fIxO, fLenO, fTupO, fRevL, fIt, fItR, fItR2, items, hName, hTup, hSq, hCons, hNil, fTrue, wipeS, noX_ok, bnd_ok, bnd_exc, bnd_stuck, sRaise, List.map_cons, List.map_nil, List.length_cons, List.length_nil, List.cons_append, List.nil_append, List.replicate_succ, List.replicate_zero, List.getElem?_cons_zero, List.getElem?_cons_succ, List.getElem?_nil, List.set_cons_zero, List.set_cons_succ, Nat.reduceAdd, Nat.reduceSub, Nat.zero_add, Nat.add_zero, e3, e4, e5]
end Lw
end

section
set_option Elab.async false
set_option linter.all false
set_option maxRecDepth 100000
set_option maxHeartbeats 4000000
namespace Lw
open PySem PySem.Spec PyProof.Rows L2 Dn Nm
def tS0 : FS := (sSet 3 (fL (fLc (fItR (fCall F__law_draw (fCons (fVar 1) (fCons (fCall F__law_pick (fCons (fVar 1) (fCons (fL (fLst (fCons (fC (.int 4)) (fCons (fC (.int 9)) (fCons (fC (.int 31)) fNil))))) fNil))) fNil)))) (hName 6) fTrue (fCall F__law_pick (fCons (fVar 1) (fCons (fCall0 F__law_names) fNil))) [6])))
def tS1 : FS := (sSet 4 (fCall F__law_told (fCons (fCall F__law_mask (fCons (fVar 3) fNil)) fNil)))
def tS2 : FS := (sIf (fOrB (fTst (f2 gNe (fCall gRepr (fCons (fCall F_sum_of (fCons (fVar 3) fNil)) fNil)) (fCall gRepr (fCons (fVar 4) fNil)))) (fOrB (fTst (f2 gNe (fKw F_sum_of [0] (fCons (fCall gTuple (fCons (fRevL (fVar 3)) fNil)) fNil)) (fVar 4))) (fTst (f2 gNe (fCall F_sum_of (fCons (f2 gAdd (fVar 3) (fVar 3)) fNil)) (fTup fNil))))) (sRet (fC (.bl false))) sNil)
def tS3 : FS := (sIf (fAndB (fTst (f2 gNe (fVar 4) (fTup fNil))) (fTst (f2 (gIn true) (fVar 4) (fCall0 F__law_roots)))) (sRet (fC (.bl false))) sNil)
def tS4 : FS := (sIf (fNotB (fTst (fCall F__law_refused_right (fCons (fVar 1) fNil)))) (sRet (fC (.bl false))) sNil)
def tU0 : FS := (sSet 5 (fCall F__law_pick (fCons (fVar 1) (fCons (fCall0 F__law_roots) fNil))))
def tU1 : FS := (sSet 4 (fCall gTuple (fCons (fL (fLc (fIt (fCall F__law_pairs (fCons (fCall0 F__law_names) fNil))) (hName 7) (fTst (f2 gEq (fCall F__law_told (fCons (fCall F__law_mask (fCons (fVar 7) fNil)) fNil)) (fVar 5))) (fVar 7) [7])) fNil)))
def tU2 : FS := (sIf (fOrB (fTst (f2 gNe (fCall gRepr (fCons (fCall F_pairs_of (fCons (fVar 5) fNil)) fNil)) (fCall gRepr (fCons (fVar 4) fNil)))) (fOrB (fTst (f2 gNe (fCall gLen (fCons (fVar 4) fNil)) (fC (.int 6)))) (fTst (f2 gNe (fKw F_pairs_of [0] (fCons (fL (fCallL gList (fCons (fVar 5) fNil))) fNil)) (fVar 4))))) (sRet (fC (.bl false))) sNil)
def tW1 : FS := (sIf (fTst (f2 gNe (fCall gRepr (fCons (fCall0 F_all_roots) fNil)) (fCall gRepr (fCons (fCall gTuple (fCons (fCall0 F__law_roots) fNil)) fNil)))) (sRet (fC (.bl false))) sNil)
def tW3 : FS := (sRet (fAnd (f2 gEq (fL (fLc (fItR (fC (.int 4))) (hName 8) fTrue (fCall F_many_ordered (fCons (fVar 8) fNil)) [8])) (fL (fLst (fCons (fC (.int 1)) (fCons (fC (.int 28)) (fCons (f2 gMul (fC (.int 28)) (fC (.int 27))) (fCons (f2 gMul (f2 gMul (fC (.int 28)) (fC (.int 27))) (fC (.int 16))) fNil))))))) (f2 gEq (fL (fLc (fIt (fTup (fCons (fC (.int 5)) (fCons (fC (.int 6)) (fCons (fC (.int 7)) fNil))))) (hName 8) fTrue (fKw F_many_ordered [0] (fCons (fVar 8) fNil)) [8])) (fL (fLst (fCons (f2 gMul (fC (.int 6048)) (fC (.int 120))) (fCons (f2 gMul (fC (.int 3024)) (fC (.int 720))) (fCons (f2 gMul (fC (.int 288)) (fC (.int 5040))) fNil))))))))
def badE : FE := (fL (fLst (fCons (fC .non) (fCons (fC (.int 5)) (fCons (fC (.str "01")) (fCons (fL (fLst (fCons (fC (.str "10")) fNil))) (fCons (fL (fLst (fCons (fC (.str "00")) fNil))) (fCons (fL (fLst (fCons (fC (.str "08")) fNil))) (fCons (fL (fLst (fCons (fC (.int 1)) fNil))) (fCons (fL (fLst (fCons (fC .non) fNil))) (fCons (fL (fLst (fCons (fC (.str "01")) (fCons (fC (.str "1")) fNil)))) (fCons (fL (fLst (fCons (fC (.str "012")) fNil))) (fCons (fDisp [("01" , 1)]) (fCons (f2 gMul (fL (fLst (fCons (fC (.str "01")) fNil))) (fC (.int 101))) (fCons (fL (fLst (fCons (fTup (fCons (fC (.str "0")) (fCons (fC (.str "1")) fNil))) fNil))) (fCons (fL (fLst (fCons (fL (fLst (fCons (fC (.str "01")) fNil))) fNil))) fNil))))))))))))))))
def oddE : FE := (fL (fLst (fCons (fC .non) (fCons (fC (.int 5)) (fCons (fC (.str "01")) (fCons (fTup fNil) (fCons (fTup (fCons (fC (.int 0)) fNil)) (fCons (fTup (fCons (fC (.int 1)) (fCons (fC (.int 0)) fNil))) (fCons (fTup (fCons (fC (.int 0)) (fCons (fC (.int 0)) fNil))) (fCons (fTup (fCons (fC (.int 0)) (fCons (fC (.int 8)) fNil))) (fCons (fTup (fCons (f1 gNeg (fC (.int 1))) (fCons (fC (.int 2)) fNil))) (fCons (fTup (fCons (fC (.int 1)) (fCons (fC (.int 2)) (fCons (fC (.int 3)) (fCons (fC (.int 4)) fNil))))) (fCons (fTup (fCons (fC (.int 0)) (fCons (fC (.int 2)) (fCons (fC (.int 1)) (fCons (fC (.int 3)) fNil))))) (fCons (fTup (fCons (fC (.int 0)) (fCons (fC (.int 1)) (fCons (fC (.int 2)) fNil)))) (fCons (fTup (fCons (fC (.int 0)) (fCons (fC (.int 1)) (fCons (fC (.int 2)) (fCons (fC (.int 2)) fNil))))) (fCons (fTup (fCons (fC (.int 0)) (fCons (fC (.int 1)) (fCons (fC (.int 2)) (fCons (fC (.bl true)) fNil))))) (fCons (fTup (fCons (fC (.int 0)) (fCons (fC .non) fNil))) (fCons (fTup (fCons (fC (.int 0)) (fCons (fC (.int 1)) (fCons (fC (.int 2)) (fCons (fC (.int 3)) (fCons (fC (.int 4)) (fCons (fC (.int 5)) fNil))))))) fNil))))))))))))))))))
def farE : FE := (fL (fLst (fCons (fC .non) (fCons (f1 gNeg (fC (.int 1))) (fCons (fC (.int 8)) (fCons (fC (.bl true)) (fCons (fC (.str "3")) (fCons (fTup (fCons (fC (.int 3)) fNil)) fNil))))))))
def tellL : FL := (fLc (fEnumX (fTup (fCons (fC (.int 1)) (fCons (fC (.int 2)) (fCons (fC (.int 4)) (fCons (fC (.int 8)) (fCons (fC (.int 16)) (fCons (fC (.int 32)) (fCons (fC (.int 64)) (fCons (fC (.int 128)) fNil)))))))))) (hSq 2 (hCons (hName 3) (hCons (hName 4) hNil))) (fTst (f2 gEq (f2 gMod (fCall gInt (fCons (f2 gDiv (fVar 0) (fVar 4)) fNil)) (fC (.int 2))) (fC (.int 1)))) (fVar 3) [3, 4])
def restL : FL := (fLc (fItR (fC (.int 8))) (hName 3) (fTst (f2 (gIn true) (fVar 3) (fVar 1))) (fVar 3) [3])

/-! ### sums told by bits -/
theorem gDiv_iD (a b : Nat) (hb : 0 < b) (hb2 : b < 256) (p : List D) : gDiv (iD a) (iD b) p = .ok (iD (a / b)) p := by
  have h1 : (0 : Int) < (b : Int) := by omega
  have h2 : ((b : Nat) : Int).natAbs.log2 < 9000 := by
    have := log_lt (x := (b : Int)) (k := 8) (by show b < 256; exact hb2) (by decide)
    omega
  unfold gDiv iD
  dsimp only
  rw [if_pos ⟨h1, h2⟩]
  rfl
theorem gMod_iD (a : Nat) (p : List D) : gMod (iD a) (.int 2) p = .ok (iD (a % 2)) p := by
  unfold gMod iD
  dsimp only
  rw [if_pos (by decide), Int.fmod_eq_emod_of_nonneg _ (by decide)]
  rfl
theorem gEq_iD' (a b : Nat) (p : List D) : gEq (iD a) (iD b) p = .ok (.bl (a == b)) p := by
  unfold gEq
  rw [eq_iD, show (iD a).ok = true from rfl, show (iD b).ok = true from rfl]
  rfl
theorem onS_mem (m i : Nat) : i ∈ onS m ↔ i < 8 ∧ m.testBit i = true := by
  unfold onS
  rw [List.mem_filter, List.mem_range]
theorem r_tellL (m : Nat) (x1 x2 x3 x4 : Sl) (p : List D) : tellL [.val (iD m), x1, x2, x3, x4] p = .ok ((onS m).map iD) p := by
  have hf : ∀ ρ : List Sl, fEnumX (fTup (fCons (fC (.int 1)) (fCons (fC (.int 2)) (fCons (fC (.int 4)) (fCons (fC (.int 8)) (fCons (fC (.int 16)) (fCons (fC (.int 32)) (fCons (fC (.int 64)) (fCons (fC (.int 128)) fNil))))))))) ρ p = .ok ((List.range 8).map fun i => .tup [iD i, iD (2 ^ i)]) p := fun ρ => by kernel_rfl
  refine fLc_map (g := fun i => .tup [iD i, iD (2 ^ i)]) (tb := fun i => m.testBit i) (ev := iD) (List.range 8) (hf _) (by decide) fun i hi => ?_
  have hi := List.mem_range.mp hi
  refine ⟨[.val (iD m), x1, x2, .val (iD i), .val (iD (2 ^ i))], rfl, ?_, fun _ => rfl⟩
  have e1 := gDiv_iD m (2 ^ i) (Nat.pow_pos (by decide)) (Nat.pow_lt_pow_right (n := 8) (by decide) hi) p
  have e2 := gMod_iD (m / 2 ^ i) p
  have e3 := gEq_iD' (m / 2 ^ i % 2) 1 p
  have e4 : gInt [iD (m / 2 ^ i)] p = .ok (iD (m / 2 ^ i)) p := rfl
  rw [Nat.testBit_eq_decide_div_mod_eq]
  exact tst_eq (f2_eq (f2_eq (call_eq (cons_eq (f2_eq (f1 := fVar 0) rfl (f2 := fVar 4) rfl e1) rfl) e4) (f2 := fC (.int 2)) rfl e2) (f2 := fC (.int 1)) rfl e3)
theorem r_restL (m : Nat) (x2 x3 x4 : Sl) (p : List D) : restL [.val (iD m), .val (.lst ((onS m).map iD)), x2, x3, x4] p = .ok ((offS m).map iD) p := by
  have hh := fLc_map (g := fun i : Nat => D.int (0 + (i : Int))) (tb := fun i => !m.testBit i) (ev := iD) (List.range 8) (f := fItR (fC (.int 8))) (vs := [3]) (h := hName 3) (t := fTst (f2 (gIn true) (fVar 3) (fVar 1))) (e := fVar 3) (ρ := [.val (iD m), .val (.lst ((onS m).map iD)), x2, x3, x4]) (p := p) (q := p) rfl (by decide) fun i hi => by
    have hi := List.mem_range.mp hi
    refine ⟨[.val (iD m), .val (.lst ((onS m).map iD)), x2, .val (iD i), x4], ?_, ?_, fun _ => rfl⟩
    · show some [Sl.val (iD m), .val (.lst ((onS m).map iD)), x2, .val (.int (0 + (i : Int))), x4] = _
      rw [Int.zero_add]
      rfl
    · have e := gIn_iD true (onS m) i p
      have hm : decide (i ∈ onS m) = m.testBit i := by
        cases q : m.testBit i
        · exact decide_eq_false fun z => by rw [((onS_mem m i).mp z).2] at q; cases q
        · exact decide_eq_true ((onS_mem m i).mpr ⟨hi, q⟩)
      rw [hm] at e
      exact tst_eq (f2_eq (f1 := fVar 3) rfl (f2 := fVar 1) rfl (e.trans (by simp)))
  exact hh
theorem r_law_told (m : Nat) (p : List D) : F__law_told [iD m] p = .ok (.tup ((told m).map iD)) p := by
  have hb := onS_len m
  have e4 : ∀ p, gLen [.lst ((onS m).map iD)] p = .ok (.int ((onS m).length : Nat)) p := fun p => by rw [len_items _ _ _ rfl, List.length_map]
  have e2 : ∀ p, gIn true (.int 0) (.lst ((onS m).map iD)) p = .ok (.bl (!m.testBit 0)) p := fun p => by
    have e := gIn_iD true (onS m) 0 p
    have hm : decide (0 ∈ onS m) = m.testBit 0 := by
      cases q : m.testBit 0
      · exact decide_eq_false fun z => by rw [((onS_mem m 0).mp z).2] at q; cases q
      · exact decide_eq_true ((onS_mem m 0).mpr ⟨by decide, q⟩)
    rw [hm] at e
    exact e.trans (by simp)
  refine run_rt (N := ["mask", "signs", "rest", "sign", "worth"]) ((seq_nx (set_eq (fL_eq (f := tellL) (r_tellL m .none .none .none .none p)))).trans ((seq_nx (set_eq (fL_eq (f := restL) (r_restL m .none .none .none p)))).trans (ret_eq ?_)))
  unfold told
  by_cases q1 : 4 < (onS m).length
  · have c1 : (4 : Int) < ((onS m).length : Nat) := by omega
    rw [if_pos (.inl q1)]
    simp [setAll, runF, startS, sSeq, sNil, sDrop, sRet, sRetN, sIf, sSet, sSetO, sRetO, sFree, sAsg, sFor, sCont, sBrk, sApp, sExt, sAppPop, sSub, sPen, sPar, pNil, pVal, pOwn, fVar, fC, f1, f2, fTst, fAndB, fOrB, fNotB, fBool, fIf, fAnd, fOr, fNot, fNil, fCons, fStar, fTup, fLst, fL, fCall, fCallL, fCall0, fIsTy, fIsTys, D.ty, tyIs, fTru, D.tru, fIxO, fLenO, fTupO, fRevL, fIt, fItR, fItR2, items, hName, hTup, hSq, hCons, hNil, fTrue, wipeS, noX_ok, bnd_ok, bnd_exc, bnd_stuck, sRaise, List.map_cons, List.map_nil, List.length_cons, List.length_nil, List.cons_append, List.nil_append, List.replicate_succ, List.replicate_zero, List.getElem?_cons_zero, List.getElem?_cons_succ, List.getElem?_nil, List.set_cons_zero, List.set_cons_succ, Nat.reduceAdd, Nat.reduceSub, Nat.zero_add, Nat.add_zero, e4, c1, gGt, gTuple, items]
  · have c1 : ¬ (4 : Int) < ((onS m).length : Nat) := by omega
    have g1 : ∀ (z : Int) p, gEq (.int z) (.int 4) p = .ok (.bl (z == 4)) p := fun z p => by simp [gEq, D.ok, D.fine, D.dep, D.eq]
    by_cases q2 : (onS m).length = 4
    · have c2 : (((onS m).length : Nat) : Int) = 4 := by omega
      cases q3 : m.testBit 0 with
      | true =>
        rw [if_neg (fun z => z.elim q1 fun z => by cases z.2)]
        simp [setAll, runF, startS, sSeq, sNil, sDrop, sRet, sRetN, sIf, sSet, sSetO, sRetO, sFree, sAsg, sFor, sCont, sBrk, sApp, sExt, sAppPop, sSub, sPen, sPar, pNil, pVal, pOwn, fVar, fC, f1, f2, fTst, fAndB, fOrB, fNotB, fBool, fIf, fAnd, fOr, fNot, fNil, fCons, fStar, fTup, fLst, fL, fCall, fCallL, fCall0, fIsTy, fIsTys, D.ty, tyIs, fTru, D.tru, fIxO, fLenO, fTupO, fRevL, fIt, fItR, fItR2, items, hName, hTup, hSq, hCons, hNil, fTrue, wipeS, noX_ok, bnd_ok, bnd_exc, bnd_stuck, sRaise, List.map_cons, List.map_nil, List.length_cons, List.length_nil, List.cons_append, List.nil_append, List.replicate_succ, List.replicate_zero, List.getElem?_cons_zero, List.getElem?_cons_succ, List.getElem?_nil, List.set_cons_zero, List.set_cons_succ, Nat.reduceAdd, Nat.reduceSub, Nat.zero_add, Nat.add_zero, e4, e2, c1, c2, q3, g1, gGt, gTuple, items]
      | false =>
        rw [if_pos (.inr ⟨q2, rfl⟩)]
        simp [setAll, runF, startS, sSeq, sNil, sDrop, sRet, sRetN, sIf, sSet, sSetO, sRetO, sFree, sAsg, sFor, sCont, sBrk, sApp, sExt, sAppPop, sSub, sPen, sPar, pNil, pVal, pOwn, fVar, fC, f1, f2, fTst, fAndB, fOrB, fNotB, fBool, fIf, fAnd, fOr, fNot, fNil, fCons, fStar, fTup, fLst, fL, fCall, fCallL, fCall0, fIsTy, fIsTys, D.ty, tyIs, fTru, D.tru, fIxO, fLenO, fTupO, fRevL, fIt, fItR, fItR2, items, hName, hTup, hSq, hCons, hNil, fTrue, wipeS, noX_ok, bnd_ok, bnd_exc, bnd_stuck, sRaise, List.map_cons, List.map_nil, List.length_cons, List.length_nil, List.cons_append, List.nil_append, List.replicate_succ, List.replicate_zero, List.getElem?_cons_zero, List.getElem?_cons_succ, List.getElem?_nil, List.set_cons_zero, List.set_cons_succ, Nat.reduceAdd, Nat.reduceSub, Nat.zero_add, Nat.add_zero, e4, e2, c1, c2, q3, g1, gGt, gTuple, items]
    · have c2 : ¬ (((onS m).length : Nat) : Int) = 4 := by omega
      rw [if_neg (fun z => z.elim q1 fun z => q2 z.1)]
      simp [setAll, runF, startS, sSeq, sNil, sDrop, sRet, sRetN, sIf, sSet, sSetO, sRetO, sFree, sAsg, sFor, sCont, sBrk, sApp, sExt, sAppPop, sSub, sPen, sPar, pNil, pVal, pOwn, fVar, fC, f1, f2, fTst, fAndB, fOrB, fNotB, fBool, fIf, fAnd, fOr, fNot, fNil, fCons, fStar, fTup, fLst, fL, fCall, fCallL, fCall0, fIsTy, fIsTys, D.ty, tyIs, fTru, D.tru, fIxO, fLenO, fTupO, fRevL, fIt, fItR, fItR2, items, hName, hTup, hSq, hCons, hNil, fTrue, wipeS, noX_ok, bnd_ok, bnd_exc, bnd_stuck, sRaise, List.map_cons, List.map_nil, List.length_cons, List.length_nil, List.cons_append, List.nil_append, List.replicate_succ, List.replicate_zero, List.getElem?_cons_zero, List.getElem?_cons_succ, List.getElem?_nil, List.set_cons_zero, List.set_cons_succ, Nat.reduceAdd, Nat.reduceSub, Nat.zero_add, Nat.add_zero, e4, e2, c1, c2, g1, gGt, gTuple, items]
theorem told_mn {x : Nat} (h : x < 256) : told (mn x) = told x := by
  have : ∀ x ∈ List.range 256, told (mn x) = told x := by decide +kernel
  exact this x (List.mem_range.mpr h)
/-! ### the program's sum -/
theorem all_true (ks : List Nat) (p : List D) : gAll [.lst (ks.map fun _ => .bl true)] p = .ok (.bl true) p := by
  have e : allOf D.bl? (ks.map fun _ => D.bl true) = some (ks.map fun _ => true) := by
    induction ks with
    | nil => rfl
    | cons a o ih =>
      simp only [List.map_cons, allOf, ih]
      rfl
  unfold gAll
  simp [e]
theorem r_sum_of (x : D) (ks : List Nat) (h : items x = some (ks.map nD)) (hk : ∀ k ∈ ks, k < 28) (hl : ks.length ≤ 100) (p : List D) : F_sum_of [x] p = .ok (.tup ((told (xr ks)).map iD)) p := by
  have e1 : ∀ (x1 : Sl) p, fLc (fIt (fVar 0)) (hName 1) fTrue (fCall F_is_name (fCons (fVar 1) fNil)) [1] [.val x, x1] p = .ok (ks.map fun _ => .bl true) p := fun x1 p => by
    have := fLc_map (g := nD) (tb := fun _ => true) (ev := fun _ => .bl true) ks (f := fIt (fVar 0)) (vs := [1]) (h := hName 1) (t := fTrue) (e := fCall F_is_name (fCons (fVar 1) fNil)) (ρ := [.val x, x1]) (q := p) (p := p) (fIt_items rfl h) (by omega) fun z hz => by
      refine ⟨[.val x, .val (nD z)], rfl, rfl, fun _ => ?_⟩
      simp only [setAll, runF, startS, sSeq, sNil, sDrop, sRet, sRetN, sIf, sSet, sSetO, sRetO, sFree, sAsg, sFor, sCont, sBrk, sApp, sExt, sAppPop, sSub, sPen, sPar, pNil, pVal, pOwn, fVar, fC, f1, f2, fTst, fAndB, fOrB, fNotB, fBool, fIf, fAnd, fOr, fNot, fNil, fCons, fStar, fTup, fLst, fL, fCall, fCallL, fCall0, fIsTy, fIsTys, D.ty, tyIs, fTru, D.tru, fIxO, fLenO, fTupO, fRevL, fIt, fItR, fItR2, items, hName, hTup, hSq, hCons, hNil, fTrue, wipeS, noX_ok, bnd_ok, bnd_exc, bnd_stuck, sRaise, List.map_cons, List.map_nil, List.length_cons, List.length_nil, List.cons_append, List.nil_append, List.replicate_succ, List.replicate_zero, List.getElem?_cons_zero, List.getElem?_cons_succ, List.getElem?_nil, List.set_cons_zero, List.set_cons_succ, Nat.reduceAdd, Nat.reduceSub, Nat.zero_add, Nat.add_zero, r_is_name (hk z hz)]
    rwa [filt_true] at this
  have e2 := fun p => r_sum_in x ks h hk (by omega) p
  have e3 : ∀ p, gLen [x] p = .ok (.int (ks.length : Nat)) p := fun p => by rw [len_items x _ p h, List.length_map]
  have c : ¬ (100 : Int) < ((ks.length : Nat) : Int) := by omega
  simp [F_sum_of, fs_sum_of, setAll, runF, startS, sSeq, sNil, sDrop, sRet, sRetN, sIf, sSet, sSetO, sRetO, sFree, sAsg, sFor, sCont, sBrk, sApp, sExt, sAppPop, sSub, sPen, sPar, pNil, pVal, pOwn, fVar, fC, f1, f2, fTst, fAndB, fOrB, fNotB, fBool, fIf, fAnd, fOr, fNot, fNil, fCons, fStar, fTup, fLst, fL, fCall, fCallL, fCall0, fIsTy, fIsTys, D.ty, tyIs, fTru, D.tru, fIxO, fLenO, fTupO, fRevL, fIt, fItR, fItR2, hName, hTup, hSq, hCons, hNil, fTrue, wipeS, noX_ok, bnd_ok, bnd_exc, bnd_stuck, sRaise, gAdd, Dn.gSub, gMod, gDiv, gNeg, gEq, gNe, gLt, gLe, gGt, gGe, gIs, gIsNot, D.isC, D.isB, D.ok, D.fine, D.dep, D.eq, gInt, gAbs, gIx, gGcd, List.map_cons, List.map_nil, List.length_cons, List.length_nil, List.cons_append, List.nil_append, List.replicate_succ, List.replicate_zero, List.getElem?_cons_zero, List.getElem?_cons_succ, List.getElem?_nil, List.set_cons_zero, List.set_cons_succ, Nat.reduceAdd, Nat.reduceSub, Nat.zero_add, Nat.add_zero, r_is_listed x _ _ h, e1, e2, e3, c, all_true]
/-! ### the roots -/
def rootsL : List (List Nat) := [[0, 1], [0, 2], [0, 3], [0, 4], [0, 5], [0, 6], [0, 7], [1, 2], [1, 3], [1, 4], [1, 5], [1, 6], [1, 7], [2, 3], [2, 4], [2, 5], [2, 6], [2, 7], [3, 4], [3, 5], [3, 6], [3, 7], [4, 5], [4, 6], [4, 7], [5, 6], [5, 7], [6, 7], [0, 1, 2, 3], [0, 1, 2, 4], [0, 1, 2, 5], [0, 1, 2, 6], [0, 1, 2, 7], [0, 1, 3, 4], [0, 1, 3, 5], [0, 1, 3, 6], [0, 1, 3, 7], [0, 1, 4, 5], [0, 1, 4, 6], [0, 1, 4, 7], [0, 1, 5, 6], [0, 1, 5, 7], [0, 1, 6, 7], [0, 2, 3, 4], [0, 2, 3, 5], [0, 2, 3, 6], [0, 2, 3, 7], [0, 2, 4, 5], [0, 2, 4, 6], [0, 2, 4, 7], [0, 2, 5, 6], [0, 2, 5, 7], [0, 2, 6, 7], [0, 3, 4, 5], [0, 3, 4, 6], [0, 3, 4, 7], [0, 3, 5, 6], [0, 3, 5, 7], [0, 3, 6, 7], [0, 4, 5, 6], [0, 4, 5, 7], [0, 4, 6, 7], [0, 5, 6, 7]]
def rD (l : List Nat) : D := .tup (l.map iD)
theorem r_lroots (p : List D) : F__law_roots [] p = .ok (.lst (rootsL.map rD)) p := by kernel_rfl
theorem r_aroots (p : List D) : F_all_roots [] p = .ok (.tup (rootsL.map rD)) p := by kernel_rfl
theorem roots_len : rootsL.length = 63 := by decide +kernel
theorem roots_sh : (D.tup (rootsL.map rD)).sh = true := by decide +kernel
theorem even_xr : ∀ (ks : List Nat) (x : Nat), x < 256 → (onS x).length % 2 = 0 → (∀ k ∈ ks, k < 28) → (onS (ks.foldl (fun x k => x ^^^ nb k) x)).length % 2 = 0
  | [], x, _, h, _ => h
  | k :: ks, x, hx, h, hk => by
    have : ∀ x ∈ List.range 256, (onS x).length % 2 = 0 → ∀ k ∈ List.range 28, (onS (x ^^^ nb k)).length % 2 = 0 := by decide +kernel
    have k28 := hk k List.mem_cons_self
    exact even_xr ks (x ^^^ nb k) (Nat.xor_lt_two_pow (n := 8) hx (nb_lt k28)) (this x (List.mem_range.mpr hx) h k (List.mem_range.mpr k28)) fun z hz => hk z (List.mem_cons_of_mem _ hz)
theorem told_root {x : Nat} (h : x < 256) (e : (onS x).length % 2 = 0) (n : told x ≠ []) : told x ∈ rootsL := by
  have : ∀ x ∈ List.range 256, (onS x).length % 2 = 0 → told x ≠ [] → told x ∈ rootsL := by decide +kernel
  exact this x (List.mem_range.mpr h) e n
theorem told_sh {x : Nat} (h : x < 256) : (D.tup ((told x).map iD)).sh = true := by
  have : ∀ x ∈ List.range 256, (D.tup ((told x).map iD)).sh = true := by decide +kernel
  exact this x (List.mem_range.mpr h)
theorem told_lt {x : Nat} : ∀ k ∈ told x, k < 8 := by
  intro k hk
  unfold told at hk
  split at hk
  · exact List.mem_range.mp (List.mem_filter.mp hk).1
  · exact List.mem_range.mp (List.mem_filter.mp hk).1
theorem shown_iD : ∀ k ∈ List.range 8, PyData.strOk (iD k).toP.shown = true := by decide +kernel
theorem ok_signs (l : List Nat) (h : ∀ k ∈ l, k < 8) : ok1 (rD l).toP.shown := by
  show ok1 (tupleText (PyData.shownAll (toPs (l.map iD))))
  refine ok1_tup _ fun x hx => ?_
  obtain ⟨d, hd, rfl⟩ := mem_shown hx
  obtain ⟨k, hk, rfl⟩ := List.mem_map.mp hd
  exact shown_iD k (List.mem_range.mpr (h k hk))
theorem roots_lt : ∀ l ∈ rootsL, ∀ k ∈ l, k < 8 := by decide +kernel
theorem ok_roots (ls : List (List Nat)) (h : ∀ l ∈ ls, ∀ k ∈ l, k < 8) : ok1 (D.tup (ls.map rD)).toP.shown := by
  show ok1 (tupleText (PyData.shownAll (toPs (ls.map rD))))
  refine ok1_tup _ fun x hx => ?_
  obtain ⟨d, hd, rfl⟩ := mem_shown hx
  obtain ⟨l, hl, rfl⟩ := List.mem_map.mp hd
  exact ok_signs l (h l hl)
theorem eq_rD (a b : List Nat) : (rD a).eq (rD b) = decide (a = b) := eqs_iD
theorem ok_rD (a : List Nat) : (rD a).ok = true := ok_iDt a
theorem gEq_rD (a b : List Nat) (p : List D) : gEq (rD a) (rD b) p = .ok (.bl (decide (a = b))) p := by
  unfold gEq
  rw [eq_rD, ok_rD, ok_rD]
  rfl
theorem gNe_rD (a b : List Nat) (p : List D) : gNe (rD a) (rD b) p = .ok (.bl (!decide (a = b))) p := by
  unfold gNe
  rw [eq_rD, ok_rD, ok_rD]
  rfl
theorem fines_rD : ∀ ls : List (List Nat), fines (ls.map rD) = true
  | [] => rfl
  | l :: ls => by
    show (fines (l.map iD) && fines (ls.map rD)) = true
    rw [fines_rD ls, fines_iD]
    rfl
theorem deps_rD : ∀ ls : List (List Nat), deps (ls.map rD) ≤ 1
  | [] => Nat.zero_le _
  | l :: ls => by
    show max (deps (l.map iD) + 1) (deps (ls.map rD)) ≤ 1
    rw [deps_iD]
    have := deps_rD ls
    omega
theorem any_rD (l : List Nat) (ls : List (List Nat)) : ((ls.map rD).any fun z => z.eq (rD l)) = decide (l ∈ ls) := by
  induction ls with
  | nil => rfl
  | cons a o ih =>
    rw [List.map_cons, List.any_cons, ih, eq_rD]
    by_cases h : a = l
    · subst h; simp
    · simp [h, Ne.symm h]
theorem gIn_rD (neg : Bool) (l : List Nat) (ls : List (List Nat)) (p : List D) : gIn neg (rD l) (.lst (ls.map rD)) p = .ok (.bl (xor neg (decide (l ∈ ls)))) p := by
  have hk : (D.lst (ls.map rD)).ok = true := by
    unfold D.ok
    rw [show (D.lst (ls.map rD)).fine = fines (ls.map rD) from rfl, fines_rD, show (D.lst (ls.map rD)).dep = deps (ls.map rD) + 1 from rfl]
    have := deps_rD ls
    simp
    omega
  unfold gIn
  dsimp only
  rw [hk, ok_rD, any_rD]
  rfl
end Lw
end

section
set_option Elab.async false
set_option linter.all false
set_option maxRecDepth 100000
set_option maxHeartbeats 4000000
namespace Lw
open PySem PySem.Spec PyProof.Rows L2 Dn Nm
def pairL : FL := (fLc (fIt (fCall F_pairs_in (fCons (fCall0 F_names_listed) fNil))) (hName 2) (fTst (f2 gEq (fCall F_sum_in (fCons (fVar 2) fNil)) (fVar 1))) (fVar 2) [2])
def dueL : FL := (fLc (fIt (fCall F__law_pairs (fCons (fCall0 F__law_names) fNil))) (hName 7) (fTst (f2 gEq (fCall F__law_told (fCons (fCall F__law_mask (fCons (fVar 7) fNil)) fNil)) (fVar 5))) (fVar 7) [7])

def P2 : List (Nat × Nat) := prs (List.range 28)
def p2 (t : Nat × Nat) : List Nat := [t.1, t.2]
def pD (t : Nat × Nat) : D := .tup [nD t.1, nD t.2]
theorem P2_ok : ∀ t ∈ P2, t.1 < 28 ∧ t.2 < 28 := by decide +kernel
theorem P2_len : P2.length = 378 := by decide +kernel
theorem r_lpairs (p : List D) : F__law_pairs [.lst N28] p = .ok (.lst (P2.map pD)) p := by kernel_rfl
theorem r_ppairs (p : List D) : F_pairs_in [.lst N28] p = .ok (.lst (P2.map pD)) p := by kernel_rfl
theorem r_plisted (p : List D) : F_names_listed [] p = .ok (.lst N28) p := by kernel_rfl
def duF (ts : List (Nat × Nat)) (l : List Nat) : List (Nat × Nat) := ts.filter fun t => decide (told (xr (p2 t)) = l)
theorem fil_zip {α β : Type} [DecidableEq β] (f : α → β) (l : β) : ∀ ts : List α, ts.filter (fun t => decide (f t = l)) = ((ts.zip (ts.map f)).filter fun q => decide (q.2 = l)).map (·.1)
  | [] => rfl
  | t :: ts => by
    rw [List.map_cons, List.zip_cons_cons, List.filter_cons, List.filter_cons, fil_zip f l ts]
    split <;> rfl
def T2l : List (List Nat) := [[1, 2], [1, 3], [1, 4], [1, 5], [1, 6], [1, 7], [0, 2], [0, 3], [0, 4], [0, 5], [0, 6], [0, 7], [0, 1, 2, 3], [0, 1, 2, 4], [0, 1, 2, 5], [0, 1, 2, 6], [0, 1, 2, 7], [0, 1, 3, 4], [0, 1, 3, 5], [0, 1, 3, 6],
  [0, 1, 3, 7], [0, 1, 4, 5], [0, 1, 4, 6], [0, 1, 4, 7], [0, 1, 5, 6], [0, 1, 5, 7], [0, 1, 6, 7], [2, 3], [2, 4], [2, 5], [2, 6], [2, 7], [0, 1], [0, 1, 2, 3], [0, 1, 2, 4], [0, 1, 2, 5], [0, 1, 2, 6], [0, 1, 2, 7], [0, 3], [0, 4],
  [0, 5], [0, 6], [0, 7], [0, 2, 3, 4], [0, 2, 3, 5], [0, 2, 3, 6], [0, 2, 3, 7], [0, 2, 4, 5], [0, 2, 4, 6], [0, 2, 4, 7], [0, 2, 5, 6], [0, 2, 5, 7], [0, 2, 6, 7], [3, 4], [3, 5], [3, 6], [3, 7], [0, 1, 2, 3], [0, 1], [0, 1, 3, 4],
  [0, 1, 3, 5], [0, 1, 3, 6], [0, 1, 3, 7], [0, 2], [0, 2, 3, 4], [0, 2, 3, 5], [0, 2, 3, 6], [0, 2, 3, 7], [0, 4], [0, 5], [0, 6], [0, 7], [0, 3, 4, 5], [0, 3, 4, 6], [0, 3, 4, 7], [0, 3, 5, 6], [0, 3, 5, 7], [0, 3, 6, 7], [4, 5], [4, 6],
  [4, 7], [0, 1, 2, 4], [0, 1, 3, 4], [0, 1], [0, 1, 4, 5], [0, 1, 4, 6], [0, 1, 4, 7], [0, 2, 3, 4], [0, 2], [0, 2, 4, 5], [0, 2, 4, 6], [0, 2, 4, 7], [0, 3], [0, 3, 4, 5], [0, 3, 4, 6], [0, 3, 4, 7], [0, 5], [0, 6], [0, 7], [0, 4, 5, 6],
  [0, 4, 5, 7], [0, 4, 6, 7], [5, 6], [5, 7], [0, 1, 2, 5], [0, 1, 3, 5], [0, 1, 4, 5], [0, 1], [0, 1, 5, 6], [0, 1, 5, 7], [0, 2, 3, 5], [0, 2, 4, 5], [0, 2], [0, 2, 5, 6], [0, 2, 5, 7], [0, 3, 4, 5], [0, 3], [0, 3, 5, 6], [0, 3, 5, 7], [0, 4],
  [0, 4, 5, 6], [0, 4, 5, 7], [0, 6], [0, 7], [0, 5, 6, 7], [6, 7], [0, 1, 2, 6], [0, 1, 3, 6], [0, 1, 4, 6], [0, 1, 5, 6], [0, 1], [0, 1, 6, 7], [0, 2, 3, 6], [0, 2, 4, 6], [0, 2, 5, 6], [0, 2], [0, 2, 6, 7], [0, 3, 4, 6], [0, 3, 5, 6], [0, 3],
  [0, 3, 6, 7], [0, 4, 5, 6], [0, 4], [0, 4, 6, 7], [0, 5], [0, 5, 6, 7], [0, 7], [0, 1, 2, 7], [0, 1, 3, 7], [0, 1, 4, 7], [0, 1, 5, 7], [0, 1, 6, 7], [0, 1], [0, 2, 3, 7], [0, 2, 4, 7], [0, 2, 5, 7], [0, 2, 6, 7], [0, 2], [0, 3, 4, 7], [0, 3, 5, 7],
  [0, 3, 6, 7], [0, 3], [0, 4, 5, 7], [0, 4, 6, 7], [0, 4], [0, 5, 6, 7], [0, 5], [0, 6], [2, 3], [2, 4], [2, 5], [2, 6], [2, 7], [1, 3], [1, 4], [1, 5], [1, 6], [1, 7], [0, 5, 6, 7], [0, 4, 6, 7],
  [0, 4, 5, 7], [0, 4, 5, 6], [0, 3, 6, 7], [0, 3, 5, 7], [0, 3, 5, 6], [0, 3, 4, 7], [0, 3, 4, 6], [0, 3, 4, 5], [3, 4], [3, 5], [3, 6], [3, 7], [1, 2], [0, 5, 6, 7], [0, 4, 6, 7], [0, 4, 5, 7], [0, 4, 5, 6], [1, 4], [1, 5], [1, 6],
  [1, 7], [0, 2, 6, 7], [0, 2, 5, 7], [0, 2, 5, 6], [0, 2, 4, 7], [0, 2, 4, 6], [0, 2, 4, 5], [4, 5], [4, 6], [4, 7], [0, 5, 6, 7], [1, 2], [0, 3, 6, 7], [0, 3, 5, 7], [0, 3, 5, 6], [1, 3], [0, 2, 6, 7], [0, 2, 5, 7], [0, 2, 5, 6], [1, 5],
  [1, 6], [1, 7], [0, 2, 3, 7], [0, 2, 3, 6], [0, 2, 3, 5], [5, 6], [5, 7], [0, 4, 6, 7], [0, 3, 6, 7], [1, 2], [0, 3, 4, 7], [0, 3, 4, 6], [0, 2, 6, 7], [1, 3], [0, 2, 4, 7], [0, 2, 4, 6], [1, 4], [0, 2, 3, 7], [0, 2, 3, 6], [1, 6],
  [1, 7], [0, 2, 3, 4], [6, 7], [0, 4, 5, 7], [0, 3, 5, 7], [0, 3, 4, 7], [1, 2], [0, 3, 4, 5], [0, 2, 5, 7], [0, 2, 4, 7], [1, 3], [0, 2, 4, 5], [0, 2, 3, 7], [1, 4], [0, 2, 3, 5], [1, 5], [0, 2, 3, 4], [1, 7], [0, 4, 5, 6], [0, 3, 5, 6],
  [0, 3, 4, 6], [0, 3, 4, 5], [1, 2], [0, 2, 5, 6], [0, 2, 4, 6], [0, 2, 4, 5], [1, 3], [0, 2, 3, 6], [0, 2, 3, 5], [1, 4], [0, 2, 3, 4], [1, 5], [1, 6], [3, 4], [3, 5], [3, 6], [3, 7], [2, 4], [2, 5], [2, 6],
  [2, 7], [0, 1, 6, 7], [0, 1, 5, 7], [0, 1, 5, 6], [0, 1, 4, 7], [0, 1, 4, 6], [0, 1, 4, 5], [4, 5], [4, 6], [4, 7], [2, 3], [0, 1, 6, 7], [0, 1, 5, 7], [0, 1, 5, 6], [2, 5], [2, 6], [2, 7], [0, 1, 3, 7], [0, 1, 3, 6], [0, 1, 3, 5],
  [5, 6], [5, 7], [0, 1, 6, 7], [2, 3], [0, 1, 4, 7], [0, 1, 4, 6], [2, 4], [0, 1, 3, 7], [0, 1, 3, 6], [2, 6], [2, 7], [0, 1, 3, 4], [6, 7], [0, 1, 5, 7], [0, 1, 4, 7], [2, 3], [0, 1, 4, 5], [0, 1, 3, 7], [2, 4], [0, 1, 3, 5],
  [2, 5], [0, 1, 3, 4], [2, 7], [0, 1, 5, 6], [0, 1, 4, 6], [0, 1, 4, 5], [2, 3], [0, 1, 3, 6], [0, 1, 3, 5], [2, 4], [0, 1, 3, 4], [2, 5], [2, 6], [4, 5], [4, 6], [4, 7], [3, 5], [3, 6], [3, 7], [0, 1, 2, 7],
  [0, 1, 2, 6], [0, 1, 2, 5], [5, 6], [5, 7], [3, 4], [0, 1, 2, 7], [0, 1, 2, 6], [3, 6], [3, 7], [0, 1, 2, 4], [6, 7], [0, 1, 2, 7], [3, 4], [0, 1, 2, 5], [3, 5], [0, 1, 2, 4], [3, 7], [0, 1, 2, 6], [0, 1, 2, 5], [3, 4],
  [0, 1, 2, 4], [3, 5], [3, 6], [5, 6], [5, 7], [4, 6], [4, 7], [0, 1, 2, 3], [6, 7], [4, 5], [0, 1, 2, 3], [4, 7], [0, 1, 2, 3], [4, 5], [4, 6], [6, 7], [5, 7], [5, 6]]
theorem T2_eq : P2.map (fun t => told (xr (p2 t))) = T2l := by decide +kernel
theorem du_zip (l : List Nat) : duF P2 l = ((P2.zip T2l).filter fun q => decide (q.2 = l)).map (·.1) := by
  unfold duF
  rw [fil_zip (fun t => told (xr (p2 t))) l P2, T2_eq]
theorem du_six : ∀ l ∈ rootsL, (((P2.zip T2l).filter fun q => decide (q.2 = l)).map (·.1)).length = 6 := by decide +kernel
theorem du_sh0 : ∀ l ∈ rootsL, (D.tup ((((P2.zip T2l).filter fun q => decide (q.2 = l)).map (·.1)).map pD)).sh = true := by decide +kernel
theorem du_len {l : List Nat} (h : l ∈ rootsL) : (duF P2 l).length = 6 := by
  rw [du_zip]
  exact du_six l h
theorem du_sh {l : List Nat} (h : l ∈ rootsL) : (D.tup ((duF P2 l).map pD)).sh = true := by
  rw [du_zip]
  exact du_sh0 l h
theorem ok_pairs (ts : List (Nat × Nat)) (h : ∀ t ∈ ts, t.1 < 28 ∧ t.2 < 28) : ok1 (D.tup (ts.map pD)).toP.shown := by
  show ok1 (tupleText (PyData.shownAll (toPs (ts.map pD))))
  refine ok1_tup _ fun x hx => ?_
  obtain ⟨d, hd, rfl⟩ := mem_shown hx
  obtain ⟨t, ht, rfl⟩ := List.mem_map.mp hd
  exact ok_names [t.1, t.2] fun k hk => by
    have := h t ht
    simp only [List.mem_cons, List.not_mem_nil, or_false] at hk
    omega
theorem r_root_told (l : List Nat) (h : l ∈ rootsL) (p : List D) : F_root_told [rD l, .str "root"] p = .ok (rD l) p ∧ F_root_told [.lst (l.map iD), .str "root"] p = .ok (rD l) p := by
  simp only [rootsL, List.mem_cons, List.not_mem_nil, or_false] at h
  rcases h with rfl | rfl | rfl | rfl | rfl | rfl | rfl | rfl | rfl | rfl | rfl | rfl | rfl | rfl | rfl | rfl | rfl | rfl | rfl | rfl | rfl | rfl | rfl | rfl | rfl | rfl | rfl | rfl | rfl | rfl | rfl | rfl | rfl | rfl | rfl | rfl | rfl | rfl | rfl | rfl | rfl | rfl | rfl | rfl | rfl | rfl | rfl | rfl | rfl | rfl | rfl | rfl | rfl | rfl | rfl | rfl | rfl | rfl | rfl | rfl | rfl | rfl | rfl <;> exact ⟨by kernel_rfl, by kernel_rfl⟩
theorem p2_lt {t : Nat × Nat} (h : t.1 < 28 ∧ t.2 < 28) : ∀ k ∈ p2 t, k < 28 := fun k hk => by
  simp only [p2, List.mem_cons, List.not_mem_nil, or_false] at hk
  omega
theorem r_pairs_of (nn : D) (hn : ∀ p, F_names_listed [] p = .ok nn p) (ts : List (Nat × Nat)) (hok : ∀ t ∈ ts, t.1 < 28 ∧ t.2 < 28) (hl : ts.length ≤ 100000) (hp : ∀ p, F_pairs_in [nn] p = .ok (.lst (ts.map pD)) p) (x : D) (l : List Nat) (p : List D) (hr : ∀ p, F_root_told [x, .str "root"] p = .ok (rD l) p) :
    F_pairs_of [x] p = .ok (.tup ((duF ts l).map pD)) p := by
  have e1 : pairL [.val x, .val (rD l), .none] p = .ok ((duF ts l).map pD) p :=
    fLc_map (g := pD) (tb := fun t => decide (told (xr (p2 t)) = l)) (ev := pD) ts (fIt_items (x := .lst (ts.map pD)) (call_eq (cons_eq (call0_eq (hn p)) rfl) (hp p)) rfl) (by omega) fun t ht => by
      refine ⟨[.val x, .val (rD l), .val (pD t)], rfl, ?_, fun _ => rfl⟩
      have e2 := r_sum_in (pD t) (p2 t) rfl (p2_lt (hok t ht)) (by simp [p2]) p
      exact tst_eq (f2_eq (call_eq (cons_eq (f := fVar 2) rfl rfl) e2) (f2 := fVar 1) rfl (gEq_rD _ _ p))
  exact run_rt (N := ["root", "told", "pair"]) ((seq_nx (set_eq (call_eq (cons_eq (f := fVar 0) rfl (cons_eq (f := fC (.str "root")) rfl rfl)) (hr p)))).trans (ret_eq (call_eq (cons_eq (fL_eq (f := pairL) e1) rfl) rfl)))
theorem r_due (nn : D) (hn : ∀ p, F__law_names [] p = .ok nn p) (ts : List (Nat × Nat)) (hok : ∀ t ∈ ts, t.1 < 28 ∧ t.2 < 28) (hl : ts.length ≤ 100000) (hp : ∀ p, F__law_pairs [nn] p = .ok (.lst (ts.map pD)) p) (l : List Nat) (x0 x1 x2 x3 x4 x6 x7 x8 : Sl) (p : List D) :
    tU1 [x0, x1, x2, x3, x4, .val (rD l), x6, x7, x8] p = .ok (.nx, [x0, x1, x2, x3, .val (.tup ((duF ts l).map pD)), .val (rD l), x6, x7, x8]) p := by
  have e1 : dueL [x0, x1, x2, x3, x4, .val (rD l), x6, x7, x8] p = .ok ((duF ts l).map pD) p :=
    fLc_map (g := pD) (tb := fun t => decide (told (xr (p2 t)) = l)) (ev := pD) ts (fIt_items (x := .lst (ts.map pD)) (call_eq (cons_eq (call0_eq (hn p)) rfl) (hp p)) rfl) (by omega) fun t ht => by
      refine ⟨[x0, x1, x2, x3, x4, .val (rD l), x6, .val (pD t), x8], rfl, ?_, fun _ => rfl⟩
      have hx := xr_lt (p2 t) (p2_lt (hok t ht))
      have e2 := r_mask (pD t) (p2 t) rfl (p2_lt (hok t ht)) (by simp [p2]) p
      have e3 := r_law_told (mn (xr (p2 t))) p
      rw [told_mn hx] at e3
      exact tst_eq (f2_eq (call_eq (cons_eq (call_eq (cons_eq (f := fVar 7) rfl rfl) e2) rfl) e3) (f2 := fVar 5) rfl (gEq_rD _ _ p))
  exact set_eq (call_eq (cons_eq (fL_eq (f := dueL) e1) rfl) rfl)
end Lw
end

section
set_option Elab.async false
set_option linter.all false
set_option maxRecDepth 100000
set_option maxHeartbeats 4000000
namespace Lw
open PySem PySem.Spec PyProof.Rows L2 Dn Nm
def namesL : FL := (fLc (fItR (fCall F__law_draw (fCons (fVar 1) (fCons (fCall F__law_pick (fCons (fVar 1) (fCons (fL (fLst (fCons (fC (.int 4)) (fCons (fC (.int 9)) (fCons (fC (.int 31)) fNil))))) fNil))) fNil)))) (hName 6) fTrue (fCall F__law_pick (fCons (fVar 1) (fCons (fCall0 F__law_names) fNil))) [6])
def drawE : FE := (fCall F__law_draw (fCons (fVar 1) (fCons (fCall F__law_pick (fCons (fVar 1) (fCons (fL (fLst (fCons (fC (.int 4)) (fCons (fC (.int 9)) (fCons (fC (.int 31)) fNil))))) fNil))) fNil)))
def pickE : FE := (fCall F__law_pick (fCons (fVar 1) (fCons (fCall0 F__law_names) fNil)))

/-! ### what is refused -/
theorem hd_names {ask : List D → R D} {s : Str} {p p' : List D} (h : ask p = .exc "BadNames" ["part"] [.str s] p') : H__law_heard ask p = .ok (.tup [.str "names", .str s]) p' := by
  unfold H__law_heard heardF sTry
  simp only [h]
  kernel_rfl
theorem hd_number {ask : List D → R D} {s : Str} {p p' : List D} (h : ask p = .exc "BadNumber" ["part"] [.str s] p') : H__law_heard ask p = .ok (.tup [.str "number", .str s]) p' := by
  unfold H__law_heard heardF sTry
  simp only [h]
  kernel_rfl
theorem fh_names {fb : FE} {ρ : List Sl} {s : Str} {p p' : List D} (h : fb (hideO ρ) p = .exc "BadNames" ["part"] [.str s] p') : fHeard H__law_heard fb ρ p = .ok (.tup [.str "names", .str s]) p' := by
  unfold fHeard
  rw [hd_names (ask := fun p => fb (hideO ρ) p) h]
  rfl
theorem fh_number {fb : FE} {ρ : List Sl} {s : Str} {p p' : List D} (h : fb (hideO ρ) p = .exc "BadNumber" ["part"] [.str s] p') : fHeard H__law_heard fb ρ p = .ok (.tup [.str "number", .str s]) p' := by
  unfold fHeard
  rw [hd_number (ask := fun p => fb (hideO ρ) p) h]
  rfl
def bads : List D := [.non, .int 5, .str "01", .lst [.str "10"], .lst [.str "00"], .lst [.str "08"], .lst [.int 1], .lst [.non], .lst [.str "01", .str "1"], .lst [.str "012"], .dk [Sum.inr "01"] [.int 1], .lst (List.replicate 101 (.str "01")), .lst [.tup [.str "0", .str "1"]], .lst [.lst [.str "01"]]]
def odds : List D := [.non, .int 5, .str "01", .tup [], .tup [.int 0], .tup [.int 1, .int 0], .tup [.int 0, .int 0], .tup [.int 0, .int 8], .tup [.int (-1), .int 2], .tup [.int 1, .int 2, .int 3, .int 4], .tup [.int 0, .int 2, .int 1, .int 3], .tup [.int 0, .int 1, .int 2], .tup [.int 0, .int 1, .int 2, .int 2], .tup [.int 0, .int 1, .int 2, .bl true], .tup [.int 0, .non], .tup [.int 0, .int 1, .int 2, .int 3, .int 4, .int 5]]
def fars : List D := [.non, .int (-1), .int 8, .bl true, .str "3", .tup [.int 3]]
theorem bad_e (ρ : List Sl) (p : List D) : badE ρ p = .ok (.lst bads) p := by kernel_rfl
theorem odd_e (ρ : List Sl) (p : List D) : oddE ρ p = .ok (.lst odds) p := by kernel_rfl
theorem far_e (ρ : List Sl) (p : List D) : farE ρ p = .ok (.lst fars) p := by kernel_rfl
theorem no_sum (x : D) (h : x ∈ bads) (p : List D) : F_sum_of [x] p = .exc "BadNames" ["part"] [.str "names"] p := by
  simp only [bads, List.mem_cons, List.not_mem_nil, or_false] at h
  rcases h with rfl | rfl | rfl | rfl | rfl | rfl | rfl | rfl | rfl | rfl | rfl | rfl | rfl | rfl <;> kernel_rfl
theorem no_root (x : D) (h : x ∈ odds) (p : List D) : F_pairs_of [x] p = .exc "BadNumber" ["part"] [.str "root"] p := by
  simp only [odds, List.mem_cons, List.not_mem_nil, or_false] at h
  rcases h with rfl | rfl | rfl | rfl | rfl | rfl | rfl | rfl | rfl | rfl | rfl | rfl | rfl | rfl | rfl | rfl <;> kernel_rfl
theorem no_many (x : D) (h : x ∈ fars) (p : List D) : F_many_ordered [x] p = .exc "BadNumber" ["part"] [.str "many"] p := by
  simp only [fars, List.mem_cons, List.not_mem_nil, or_false] at h
  rcases h with rfl | rfl | rfl | rfl | rfl | rfl <;> kernel_rfl
theorem call_exc {g : List D → List D → R D} {f : FL} {ρ : List Sl} {p q : List D} {ds : List D} {c : Str} {ks : List Str} {es r : List D} (h : f ρ p = .ok ds q) (hg : g ds q = .exc c ks es r) : fCall g f ρ p = .exc c ks es r := by
  unfold fCall
  rw [h, bnd_ok, hg]
theorem r_refused {k : Nat} {p : List D} (h : PenI k p) (hk : k + 20 ≤ 100000) : Ok (F__law_refused_right [.pen] p) fun d p' => d = .bl true ∧ PenI (k + 3) p' := by
  obtain ⟨o, p1, e1, ho, h1⟩ := r_pick (.lst bads) bads rfl h (by omega) (by decide) (by decide)
  obtain ⟨b, p2, e2, hb, h2⟩ := r_pick (.lst odds) odds rfl h1 (by omega) (by decide) (by decide)
  obtain ⟨f, p3, e3, hf, h3⟩ := r_pick (.lst fars) fars rfl h2 (by omega) (by decide) (by decide)
  refine ⟨.bl true, p3, ?_, rfl, h3⟩
  have a1 : fHeard H__law_heard (fCall F_sum_of (fCons (fVar 1) fNil)) [.val .pen, .val o, .val b, .val f, .none] p3 = .ok (.tup [.str "names", .str "names"]) p3 := fh_names (call_exc (cons_eq (f := fVar 1) rfl rfl) (no_sum o ho p3))
  have a2 : fHeard H__law_heard (fCall F_pairs_of (fCons (fVar 2) fNil)) [.val .pen, .val o, .val b, .val f, .none] p3 = .ok (.tup [.str "number", .str "root"]) p3 := fh_number (call_exc (cons_eq (f := fVar 2) rfl rfl) (no_root b hb p3))
  have a3 : fHeard H__law_heard (fCall F_many_ordered (fCons (fVar 3) fNil)) [.val .pen, .val o, .val b, .val f, .none] p3 = .ok (.tup [.str "number", .str "many"]) p3 := fh_number (call_exc (cons_eq (f := fVar 3) rfl rfl) (no_many f hf p3))
  have a4 : fL (fLst (fCons (fHeard H__law_heard (fCall F_sum_of (fCons (fVar 1) fNil))) (fCons (fHeard H__law_heard (fCall F_pairs_of (fCons (fVar 2) fNil))) (fCons (fHeard H__law_heard (fCall F_many_ordered (fCons (fVar 3) fNil))) fNil)))) [.val .pen, .val o, .val b, .val f, .none] p3 = .ok (.lst [.tup [.str "names", .str "names"], .tup [.str "number", .str "root"], .tup [.str "number", .str "many"]]) p3 := by
    refine fL_eq ?_
    unfold fLst
    rw [cons_eq a1 (cons_eq a2 (cons_eq a3 rfl)), bnd_ok]
    rfl
  have a5 : sRet (f2 gEq (fVar 4) (fL (fLst (fCons (fTup (fCons (fC (.str "names")) (fCons (fC (.str "names")) fNil))) (fCons (fTup (fCons (fC (.str "number")) (fCons (fC (.str "root")) fNil))) (fCons (fTup (fCons (fC (.str "number")) (fCons (fC (.str "many")) fNil))) fNil)))))) [.val .pen, .val o, .val b, .val f, .val (.lst [.tup [.str "names", .str "names"], .tup [.str "number", .str "root"], .tup [.str "number", .str "many"]])] p3 = .ok (.rt (.bl true), [.val .pen, .val o, .val b, .val f, .val (.lst [.tup [.str "names", .str "names"], .tup [.str "number", .str "root"], .tup [.str "number", .str "many"]])]) p3 := by kernel_rfl
  exact run_rt (N := ["pen", "bad", "odd", "far", "heard"]) ((seq_nx (set_eq (call_eq (cons_eq (f := fVar 0) rfl (cons_eq (bad_e _ p) rfl)) e1))).trans ((seq_nx (set_eq (call_eq (cons_eq (f := fVar 0) rfl (cons_eq (odd_e _ p1) rfl)) e2))).trans ((seq_nx (set_eq (call_eq (cons_eq (f := fVar 0) rfl (cons_eq (far_e _ p2) rfl)) e3))).trans ((seq_nx (set_eq a4)).trans a5))))
/-! ### a turn of the first loop -/
theorem chk_ok {r : R (List D)} {ds q : List D} (h : r = .ok ds q) (hl : ds.length ≤ 16777216) : chk r = .ok ds q := by
  unfold chk
  rw [h, bnd_ok, if_pos hl]
theorem lc_step {vs : List Nat} {h : HG} {t : FT} {e : FE} {d y : D} {ds ys : List D} {ρ ρ1 : List Sl} {p q r : List D} (h1 : h d (wipeS ρ vs) = some ρ1) (h2 : t ρ1 p = .ok true p) (h3 : e ρ1 p = .ok y q) (h4 : lcD vs h t e ds ρ q = .ok ys r) : lcD vs h t e (d :: ds) ρ p = .ok (y :: ys) r := by
  rw [lcD, h1]
  dsimp only
  rw [h2, noX_ok, bnd_ok, if_pos rfl, h3, noX_ok, bnd_ok, h4]
  rfl
theorem r_lcNames (nn : List D) (hN : nn = (List.range 28).map nD) (hn : ∀ p, F__law_names [] p = .ok (.lst nn) p) (x0 x2 x3 x4 x5 x6 x7 x8 : Sl) (ds : List D) : ∀ (k : Nat) (p : List D), PenI k p → k + ds.length ≤ 100000 →
    ∃ (ks : List Nat) (p' : List D), lcD [6] (hName 6) fTrue pickE ds [x0, .val .pen, x2, x3, x4, x5, x6, x7, x8] p = .ok (ks.map nD) p' ∧ ks.length = ds.length ∧ (∀ z ∈ ks, z < 28) ∧ PenI (k + ds.length) p' := by
  induction ds with
  | nil => exact fun k p h _ => ⟨[], p, rfl, rfl, by simp, h⟩
  | cons d ds ih =>
    intro k p h hk
    rw [List.length_cons] at hk
    obtain ⟨y, p1, e1, hy, h1⟩ := r_pick (.lst nn) nn rfl h (by omega) (by rw [hN]; decide) (by rw [hN]; decide)
    rw [hN] at hy
    obtain ⟨m, hm, rfl⟩ := List.mem_map.mp hy
    obtain ⟨ks, p2, e2, hl, hlt, h2⟩ := ih (k + 1) p1 h1 (by omega)
    refine ⟨m :: ks, p2, ?_, by simp [hl], ?_, h2.mono (by rw [List.length_cons]; omega)⟩
    · exact lc_step (ρ1 := [x0, .val .pen, x2, x3, x4, x5, .val d, x7, x8]) rfl rfl (call_eq (cons_eq (f := fVar 1) rfl (cons_eq (call0_eq (hn p)) rfl)) e1) e2
    · intro z hz
      rcases List.mem_cons.mp hz with rfl | hz
      · exact List.mem_range.mp hm
      · exact hlt z hz
theorem r_S0 (nn : List D) (hN : nn = (List.range 28).map nD) (hn : ∀ p, F__law_names [] p = .ok (.lst nn) p) {k : Nat} {p : List D} (h : PenI k p) (hk : k + 50 ≤ 100000) (x0 x2 x3 x4 x5 x6 x7 x8 : Sl) : ∃ (ks : List Nat) (p' : List D), tS0 [x0, .val .pen, x2, x3, x4, x5, x6, x7, x8] p = .ok (.nx, [x0, .val .pen, x2, .val (.lst (ks.map nD)), x4, x5, x6, x7, x8]) p' ∧ ks.length ≤ 31 ∧ (∀ z ∈ ks, z < 28) ∧ PenI (k + 40) p' := by
  obtain ⟨d, p1, e1, hd, h1⟩ := r_pick (.lst [.int 4, .int 9, .int 31]) [.int 4, .int 9, .int 31] rfl h (by omega) (by decide) (by decide)
  obtain ⟨n, rfl, n0, n1⟩ : ∃ n : Int, d = .int n ∧ 0 < n ∧ n ≤ 31 := by
    simp only [List.mem_cons, List.not_mem_nil, or_false] at hd
    rcases hd with rfl | rfl | rfl <;> exact ⟨_, rfl, by decide, by decide⟩
  obtain ⟨_, p2, e2, ⟨m, rfl, m0, m1⟩, h2⟩ := r_draw n h1 (by omega) n0 (by
    have := log_lt (x := n) (k := 10) (by show n.natAbs < 1024; omega) (by decide)
    omega)
  obtain ⟨ks, p3, e3, hl, hlt, h3⟩ := r_lcNames nn hN hn x0 x2 x3 x4 x5 x6 x7 x8 ((List.range m.toNat).map fun i => D.int (0 + (i : Nat))) (k + 1 + 1) p2 h2 (by rw [List.length_map, List.length_range]; omega)
  rw [List.length_map, List.length_range] at hl h3
  refine ⟨ks, p3, ?_, by omega, hlt, h3.mono (by omega)⟩
  have e4 : drawE [x0, .val .pen, x2, x3, x4, x5, x6, x7, x8] p = .ok (.int m) p2 :=
    call_eq (cons_eq (f := fVar 1) rfl (cons_eq (call_eq (cons_eq (f := fVar 1) rfl (cons_eq (f := fL (fLst (fCons (fC (.int 4)) (fCons (fC (.int 9)) (fCons (fC (.int 31)) fNil))))) rfl rfl)) e1) rfl)) e2
  have e5 : fItR drawE [x0, .val .pen, x2, x3, x4, x5, x6, x7, x8] p = .ok ((List.range m.toNat).map fun i => D.int (0 + (i : Nat))) p2 := itR_eq e4 (by omega)
  have e6 : namesL [x0, .val .pen, x2, x3, x4, x5, x6, x7, x8] p = .ok (ks.map nD) p3 := by
    show fLc (fItR drawE) (hName 6) fTrue pickE [6] _ _ = _
    unfold fLc
    rw [e5, bnd_ok]
    exact chk_ok e3 (by rw [List.length_map]; omega)
  exact set_eq (fL_eq (f := namesL) e6)
theorem r_S1 (ks : List Nat) (hk : ∀ z ∈ ks, z < 28) (hl : ks.length ≤ 31) (x0 x1 x2 x4 x5 x6 x7 x8 : Sl) (p : List D) : tS1 [x0, x1, x2, .val (.lst (ks.map nD)), x4, x5, x6, x7, x8] p = .ok (.nx, [x0, x1, x2, .val (.lst (ks.map nD)), .val (rD (told (xr ks))), x5, x6, x7, x8]) p := by
  have e2 := r_mask (.lst (ks.map nD)) ks rfl hk (by omega) p
  have e3 := r_law_told (mn (xr ks)) p
  rw [told_mn (xr_lt ks hk)] at e3
  exact set_eq (call_eq (cons_eq (call_eq (cons_eq (f := fVar 3) rfl rfl) e2) rfl) e3)
theorem if_ff {c : FT} {f : FS} {ρ : List Sl} {p : List D} (h : c ρ p = .ok false p) : sIf c f sNil ρ p = .ok (.nx, ρ) p := (if_f h).trans rfl
theorem xr_double (ks : List Nat) : xr (ks ++ ks) = 0 := by rw [xr_app, Nat.xor_self]
theorem r_S2 (ks : List Nat) (hk : ∀ z ∈ ks, z < 28) (hl : ks.length ≤ 31) (x0 x1 x2 x5 x6 x7 x8 : Sl) (p : List D) : tS2 [x0, x1, x2, .val (.lst (ks.map nD)), .val (rD (told (xr ks))), x5, x6, x7, x8] p = .ok (.nx, [x0, x1, x2, .val (.lst (ks.map nD)), .val (rD (told (xr ks))), x5, x6, x7, x8]) p := by
  have hx := xr_lt ks hk
  have u1 := r_sum_of (.lst (ks.map nD)) ks rfl hk (by omega) p
  have u2 := r_sum_of (.tup ((ks.map nD).reverse)) ks.reverse (by rw [List.map_reverse]; rfl) (fun z hz => hk z (List.mem_reverse.mp hz)) (by rw [List.length_reverse]; omega) p
  rw [xr_perm (List.reverse_perm ks)] at u2
  have u3 := r_sum_of (.lst ((ks ++ ks).map nD)) (ks ++ ks) rfl (fun z hz => (List.mem_append.mp hz).elim (hk z) (hk z)) (by rw [List.length_append]; omega) p
  rw [xr_double] at u3
  have g1 : gRepr [rD (told (xr ks))] p = .ok (.str (rD (told (xr ks))).toP.shown) p := by
    show (if (rD (told (xr ks))).sh = true then _ else _) = _
    rw [if_pos (show (rD (told (xr ks))).sh = true from told_sh hx)]
  have g2 := ne_same _ (ok_signs (told (xr ks)) told_lt) p
  have g3 := gNe_rD (told (xr ks)) (told (xr ks)) p
  rw [decide_eq_true rfl] at g3
  have g4 : gAdd (.lst (ks.map nD)) (.lst (ks.map nD)) p = .ok (.lst ((ks ++ ks).map nD)) p := by
    unfold gAdd
    dsimp only
    rw [if_pos (by rw [List.length_map]; omega), List.map_append]
  have g5 : gNe (rD (told 0)) (.tup []) p = .ok (.bl false) p := by kernel_rfl
  have t1 : fTst (f2 gNe (fCall gRepr (fCons (fCall F_sum_of (fCons (fVar 3) fNil)) fNil)) (fCall gRepr (fCons (fVar 4) fNil))) [x0, x1, x2, .val (.lst (ks.map nD)), .val (rD (told (xr ks))), x5, x6, x7, x8] p = .ok false p :=
    tst_eq (f2_eq (call_eq (cons_eq (call_eq (cons_eq (f := fVar 3) rfl rfl) u1) rfl) g1) (call_eq (cons_eq (f := fVar 4) rfl rfl) g1) g2)
  have k1 : fKw F_sum_of [0] (fCons (fCall gTuple (fCons (fRevL (fVar 3)) fNil)) fNil) [x0, x1, x2, .val (.lst (ks.map nD)), .val (rD (told (xr ks))), x5, x6, x7, x8] p = .ok (rD (told (xr ks))) p :=
    call_eq (g := fun l => F_sum_of (permL [0] l)) (cons_eq (call_eq (cons_eq (f := fRevL (fVar 3)) (d := .lst (ks.map nD).reverse) rfl rfl) (g := gTuple) (d := .tup (ks.map nD).reverse) rfl) rfl) u2
  have t2 : fTst (f2 gNe (fKw F_sum_of [0] (fCons (fCall gTuple (fCons (fRevL (fVar 3)) fNil)) fNil)) (fVar 4)) [x0, x1, x2, .val (.lst (ks.map nD)), .val (rD (told (xr ks))), x5, x6, x7, x8] p = .ok false p :=
    tst_eq (f2_eq k1 (f2 := fVar 4) rfl g3)
  have t3 : fTst (f2 gNe (fCall F_sum_of (fCons (f2 gAdd (fVar 3) (fVar 3)) fNil)) (fTup fNil)) [x0, x1, x2, .val (.lst (ks.map nD)), .val (rD (told (xr ks))), x5, x6, x7, x8] p = .ok false p :=
    tst_eq (f2_eq (call_eq (cons_eq (f2_eq (f1 := fVar 3) rfl (f2 := fVar 3) rfl g4) rfl) u3) (f2 := fTup fNil) rfl g5)
  exact if_ff ((or_ff t1).trans ((or_ff t2).trans t3))
theorem and_f {c d : FT} {ρ : List Sl} {p q : List D} (h : c ρ p = .ok false q) : fAndB c d ρ p = .ok false q := by
  unfold fAndB
  rw [h]
  rfl
theorem and_t {c d : FT} {ρ : List Sl} {p q : List D} (h : c ρ p = .ok true q) : fAndB c d ρ p = d ρ q := by
  unfold fAndB
  rw [h]
  rfl
theorem r_S3 (rr : List (List Nat)) (hr : ∀ p, F__law_roots [] p = .ok (.lst (rr.map rD)) p) (l : List Nat) (h : l ≠ [] → l ∈ rr) (x0 x1 x2 x3 x5 x6 x7 x8 : Sl) (p : List D) : tS3 [x0, x1, x2, x3, .val (rD l), x5, x6, x7, x8] p = .ok (.nx, [x0, x1, x2, x3, .val (rD l), x5, x6, x7, x8]) p := by
  have t1 : fTst (f2 gNe (fVar 4) (fTup fNil)) [x0, x1, x2, x3, .val (rD l), x5, x6, x7, x8] p = .ok (!decide (l = [])) p := tst_eq (f2_eq (f1 := fVar 4) rfl (f2 := fTup fNil) (y := rD []) rfl (gNe_rD l [] p))
  by_cases q : l = []
  · rw [decide_eq_true q] at t1
    exact if_ff (and_f t1)
  · rw [decide_eq_false q] at t1
    have e := gIn_rD true l rr p
    rw [decide_eq_true (h q)] at e
    have t2 : fTst (f2 (gIn true) (fVar 4) (fCall0 F__law_roots)) [x0, x1, x2, x3, .val (rD l), x5, x6, x7, x8] p = .ok false p := tst_eq (f2_eq (f1 := fVar 4) rfl (call0_eq (hr p)) e)
    exact if_ff ((and_t t1).trans t2)
theorem r_S4 {k : Nat} {p : List D} (h : PenI k p) (hk : k + 20 ≤ 100000) (x0 x2 x3 x4 x5 x6 x7 x8 : Sl) : ∃ p', tS4 [x0, .val .pen, x2, x3, x4, x5, x6, x7, x8] p = .ok (.nx, [x0, .val .pen, x2, x3, x4, x5, x6, x7, x8]) p' ∧ PenI (k + 3) p' := by
  obtain ⟨_, p1, e, rfl, h1⟩ := r_refused h hk
  exact ⟨p1, (if_f (not_eq (tst_eq (call_eq (cons_eq (f := fVar 1) rfl rfl) e)))).trans rfl, h1⟩
def turnB : FS := sSeq tS0 (sSeq tS1 (sSeq tS2 (sSeq tS3 tS4)))
theorem r_turns (nn : List D) (hN : nn = (List.range 28).map nD) (hn : ∀ p, F__law_names [] p = .ok (.lst nn) p) (rr : List (List Nat)) (hr : ∀ p, F__law_roots [] p = .ok (.lst (rr.map rD)) p) (hrr : ∀ x, x < 256 → (onS x).length % 2 = 0 → told x ≠ [] → told x ∈ rr) (x0 x5 x6 x7 x8 : Sl) (ds : List D) : ∀ (k : Nat) (p : List D) (x2 x3 x4 : Sl), PenI k p → k + 60 * ds.length ≤ 90000 →
    ∃ y2 y3 y4 p', forD (hName 2) turnB ds [x0, .val .pen, x2, x3, x4, x5, x6, x7, x8] p = .ok (.nx, [x0, .val .pen, y2, y3, y4, x5, x6, x7, x8]) p' ∧ PenI (k + 60 * ds.length) p' := by
  induction ds with
  | nil => exact fun k p x2 x3 x4 h _ => ⟨x2, x3, x4, p, rfl, h⟩
  | cons d ds ih =>
    intro k p x2 x3 x4 h hk
    rw [List.length_cons] at hk
    obtain ⟨ks, p1, e0, hl, hlt, h1⟩ := r_S0 nn hN hn h (by omega) x0 (.val d) x3 x4 x5 x6 x7 x8
    have e1 := r_S1 ks hlt hl x0 (.val .pen) (.val d) x4 x5 x6 x7 x8 p1
    have e2 := r_S2 ks hlt hl x0 (.val .pen) (.val d) x5 x6 x7 x8 p1
    have e3 := r_S3 rr hr (told (xr ks)) (hrr (xr ks) (xr_lt ks hlt) (even_xr ks 0 (by decide) (by decide) hlt)) x0 (.val .pen) (.val d) (.val (.lst (ks.map nD))) x5 x6 x7 x8 p1
    obtain ⟨p2, e4, h2⟩ := r_S4 h1 (by omega) x0 (.val d) (.val (.lst (ks.map nD))) (.val (rD (told (xr ks)))) x5 x6 x7 x8
    obtain ⟨z2, z3, z4, p3, e5, h3⟩ := ih (k + 60) p2 (.val d) (.val (.lst (ks.map nD))) (.val (rD (told (xr ks)))) (h2.mono (by omega)) (by omega)
    refine ⟨z2, z3, z4, p3, ?_, h3.mono (by rw [List.length_cons]; omega)⟩
    have e6 : turnB [x0, .val .pen, .val d, x3, x4, x5, x6, x7, x8] p = .ok (.nx, [x0, .val .pen, .val d, .val (.lst (ks.map nD)), .val (rD (told (xr ks))), x5, x6, x7, x8]) p2 := (seq_nx e0).trans ((seq_nx e1).trans ((seq_nx e2).trans ((seq_nx e3).trans e4)))
    exact (for_step rfl e6).trans e5
/-! ### the roots, told; a turn of the second loop -/
theorem r_W1 (rr : List (List Nat)) (hr : ∀ p, F__law_roots [] p = .ok (.lst (rr.map rD)) p) (ha : ∀ p, F_all_roots [] p = .ok (.tup (rr.map rD)) p) (hs : (D.tup (rr.map rD)).sh = true) (ho : ok1 (D.tup (rr.map rD)).toP.shown) (ρ : List Sl) (p : List D) : tW1 ρ p = .ok (.nx, ρ) p := by
  have g1 : gRepr [.tup (rr.map rD)] p = .ok (.str (D.tup (rr.map rD)).toP.shown) p := by
    show (if (D.tup (rr.map rD)).sh = true then _ else _) = _
    rw [if_pos hs]
  exact if_ff (tst_eq (f2_eq (call_eq (cons_eq (call0_eq (ha p)) rfl) g1) (call_eq (cons_eq (call_eq (cons_eq (call0_eq (hr p)) rfl) (g := gTuple) (d := .tup (rr.map rD)) rfl) rfl) g1) (ne_same _ ho p)))
theorem gNe_same (d : D) (hk : d.ok = true) (he : d.eq d = true) (p : List D) : gNe d d p = .ok (.bl false) p := by
  unfold gNe
  rw [hk, he]
  rfl
theorem pairs_ok (ts : List (Nat × Nat)) (h : ∀ t ∈ ts, t.1 < 28 ∧ t.2 < 28) : (D.tup (ts.map pD)).ok = true ∧ (D.tup (ts.map pD)).eq (D.tup (ts.map pD)) = true := by
  have hf : fines (ts.map pD) = true ∧ deps (ts.map pD) ≤ 1 ∧ eqs (ts.map pD) (ts.map pD) = true := by
    induction ts with
    | nil => exact ⟨rfl, Nat.zero_le _, rfl⟩
    | cons t ts ih =>
      obtain ⟨a, b, c⟩ := ih fun z hz => h z (List.mem_cons_of_mem _ hz)
      have ht := h t List.mem_cons_self
      refine ⟨?_, ?_, ?_⟩
      · show ((nD t.1).fine && ((nD t.2).fine && true) && fines (ts.map pD)) = true
        rw [a, fine_nm, fine_nm]
        rfl
      · show max (max (nD t.1).dep (max (nD t.2).dep 0) + 1) (deps (ts.map pD)) ≤ 1
        rw [show (nD t.1).dep = 0 from rfl, show (nD t.2).dep = 0 from rfl]
        omega
      · show (((nD t.1).eq (nD t.1) && ((nD t.2).eq (nD t.2) && true)) && eqs (ts.map pD) (ts.map pD)) = true
        rw [c, eq_nD ht.1 ht.1, eq_nD ht.2 ht.2]
        simp
  refine ⟨?_, hf.2.2⟩
  unfold D.ok
  rw [show (D.tup (ts.map pD)).fine = fines (ts.map pD) from rfl, hf.1, show (D.tup (ts.map pD)).dep = deps (ts.map pD) + 1 from rfl]
  simp
  omega
theorem r_U2 (l : List Nat) (ts : List (Nat × Nat)) (h : ∀ t ∈ ts, t.1 < 28 ∧ t.2 < 28) (h6 : ts.length = 6) (hs : (D.tup (ts.map pD)).sh = true) (a1 : ∀ p, F_pairs_of [rD l] p = .ok (.tup (ts.map pD)) p) (a2 : ∀ p, F_pairs_of [.lst (l.map iD)] p = .ok (.tup (ts.map pD)) p) (x0 x1 x2 x3 x6 x7 x8 : Sl) (p : List D) :
    tU2 [x0, x1, x2, x3, .val (.tup (ts.map pD)), .val (rD l), x6, x7, x8] p = .ok (.nx, [x0, x1, x2, x3, .val (.tup (ts.map pD)), .val (rD l), x6, x7, x8]) p := by
  have g1 : gRepr [.tup (ts.map pD)] p = .ok (.str (D.tup (ts.map pD)).toP.shown) p := by
    show (if (D.tup (ts.map pD)).sh = true then _ else _) = _
    rw [if_pos hs]
  have g2 := ne_same _ (ok_pairs ts h) p
  obtain ⟨o1, o2⟩ := pairs_ok ts h
  have g3 := gNe_same _ o1 o2 p
  have g4 : gLen [.tup (ts.map pD)] p = .ok (.int 6) p := by rw [len_items _ _ p rfl, List.length_map, h6]; rfl
  have g5 : gNe (.int 6) (.int 6) p = .ok (.bl false) p := rfl
  have t1 : fTst (f2 gNe (fCall gRepr (fCons (fCall F_pairs_of (fCons (fVar 5) fNil)) fNil)) (fCall gRepr (fCons (fVar 4) fNil))) [x0, x1, x2, x3, .val (.tup (ts.map pD)), .val (rD l), x6, x7, x8] p = .ok false p :=
    tst_eq (f2_eq (call_eq (cons_eq (call_eq (cons_eq (f := fVar 5) rfl rfl) (a1 p)) rfl) g1) (call_eq (cons_eq (f := fVar 4) rfl rfl) g1) g2)
  have t2 : fTst (f2 gNe (fCall gLen (fCons (fVar 4) fNil)) (fC (.int 6))) [x0, x1, x2, x3, .val (.tup (ts.map pD)), .val (rD l), x6, x7, x8] p = .ok false p :=
    tst_eq (f2_eq (call_eq (cons_eq (f := fVar 4) rfl rfl) g4) (f2 := fC (.int 6)) rfl g5)
  have k1 : fKw F_pairs_of [0] (fCons (fL (fCallL gList (fCons (fVar 5) fNil))) fNil) [x0, x1, x2, x3, .val (.tup (ts.map pD)), .val (rD l), x6, x7, x8] p = .ok (.tup (ts.map pD)) p :=
    call_eq (g := fun l => F_pairs_of (permL [0] l)) (cons_eq (f := fL (fCallL gList (fCons (fVar 5) fNil))) (d := .lst (l.map iD)) rfl rfl) (a2 p)
  have t3 : fTst (f2 gNe (fKw F_pairs_of [0] (fCons (fL (fCallL gList (fCons (fVar 5) fNil))) fNil)) (fVar 4)) [x0, x1, x2, x3, .val (.tup (ts.map pD)), .val (rD l), x6, x7, x8] p = .ok false p :=
    tst_eq (f2_eq k1 (f2 := fVar 4) rfl g3)
  exact if_ff ((or_ff t1).trans ((or_ff t2).trans t3))
end Lw
end

section
set_option Elab.async false
set_option linter.all false
set_option maxRecDepth 100000
set_option maxHeartbeats 4000000
namespace Lw
open PySem PySem.Spec PyProof.Rows L2 Dn Nm
def loop2B : FS := sSeq tU0 (sSeq tU1 tU2)
theorem r_loop2 (nn : D) (hn : ∀ p, F__law_names [] p = .ok nn p) (hn2 : ∀ p, F_names_listed [] p = .ok nn p) (ts : List (Nat × Nat)) (hok : ∀ t ∈ ts, t.1 < 28 ∧ t.2 < 28) (hl : ts.length ≤ 100000) (hp : ∀ p, F__law_pairs [nn] p = .ok (.lst (ts.map pD)) p) (hp2 : ∀ p, F_pairs_in [nn] p = .ok (.lst (ts.map pD)) p)
    (rr : List (List Nat)) (hr : ∀ p, F__law_roots [] p = .ok (.lst (rr.map rD)) p) (r0 : 0 < rr.length) (r1 : rr.length < 1000) (h6 : ∀ l ∈ rr, (duF ts l).length = 6) (hs : ∀ l ∈ rr, (D.tup ((duF ts l).map pD)).sh = true) (ht : ∀ l ∈ rr, ∀ p, F_root_told [rD l, .str "root"] p = .ok (rD l) p ∧ F_root_told [.lst (l.map iD), .str "root"] p = .ok (rD l) p)
    (x0 x3 x6 x7 x8 : Sl) (ds : List D) : ∀ (k : Nat) (p : List D) (x2 x4 x5 : Sl), PenI k p → k + ds.length ≤ 99000 →
    ∃ y2 y4 y5 p', forD (hName 2) loop2B ds [x0, .val .pen, x2, x3, x4, x5, x6, x7, x8] p = .ok (.nx, [x0, .val .pen, y2, x3, y4, y5, x6, x7, x8]) p' ∧ PenI (k + ds.length) p' := by
  induction ds with
  | nil => exact fun k p x2 x4 x5 h _ => ⟨x2, x4, x5, p, rfl, h⟩
  | cons d ds ih =>
    intro k p x2 x4 x5 h hk
    rw [List.length_cons] at hk
    obtain ⟨y, p1, e0, hy, h1⟩ := r_pick (.lst (rr.map rD)) (rr.map rD) rfl h (by omega) (by rw [List.length_map]; exact r0) (by rw [List.length_map]; exact r1)
    obtain ⟨l, hlr, rfl⟩ := List.mem_map.mp hy
    have e1 := r_due nn hn ts hok hl hp l x0 (.val .pen) (.val d) x3 x4 x6 x7 x8 p1
    have du : ∀ t ∈ duF ts l, t.1 < 28 ∧ t.2 < 28 := fun t ht => hok t (List.mem_filter.mp ht).1
    have e2 := r_U2 l (duF ts l) du (h6 l hlr) (hs l hlr) (fun p => r_pairs_of nn hn2 ts hok hl hp2 (rD l) l p fun p => (ht l hlr p).1) (fun p => r_pairs_of nn hn2 ts hok hl hp2 (.lst (l.map iD)) l p fun p => (ht l hlr p).2) x0 (.val .pen) (.val d) x3 x6 x7 x8 p1
    obtain ⟨z2, z4, z5, p2, e3, h2⟩ := ih (k + 1) p1 (.val d) (.val (.tup ((duF ts l).map pD))) (.val (rD l)) h1 (by omega)
    refine ⟨z2, z4, z5, p2, ?_, h2.mono (by rw [List.length_cons]; omega)⟩
    have e4 : tU0 [x0, .val .pen, .val d, x3, x4, x5, x6, x7, x8] p = .ok (.nx, [x0, .val .pen, .val d, x3, x4, .val (rD l), x6, x7, x8]) p1 :=
      set_eq (call_eq (cons_eq (f := fVar 1) rfl (cons_eq (call0_eq (hr p)) rfl)) e0)
    have e5 : loop2B [x0, .val .pen, .val d, x3, x4, x5, x6, x7, x8] p = .ok (.nx, [x0, .val .pen, .val d, x3, .val (.tup ((duF ts l).map pD)), .val (rD l), x6, x7, x8]) p1 := (seq_nx e4).trans ((seq_nx e1).trans e2)
    exact (for_step rfl e5).trans e3
theorem r_W3 (x0 x1 x2 x3 x4 x5 x6 x7 : Sl) (p : List D) : tW3 [x0, x1, x2, x3, x4, x5, x6, x7, .none] p = .ok (.rt (.bl true), [x0, x1, x2, x3, x4, x5, x6, x7, .none]) p := by kernel_rfl
theorem bits_log (z : Int) (h : Builtin.Int.intBits z ≤ 1048576) : z.natAbs.log2 ≤ 2000000 := by
  unfold Builtin.Int.intBits at h
  by_cases q : z = 0
  · subst q
    decide
  · rw [if_neg (by simpa using q)] at h
    omega
theorem r_law (nn : List D) (hN : nn = (List.range 28).map nD) (hn : ∀ p, F__law_names [] p = .ok (.lst nn) p) (hn2 : ∀ p, F_names_listed [] p = .ok (.lst nn) p) (ts : List (Nat × Nat)) (hok : ∀ t ∈ ts, t.1 < 28 ∧ t.2 < 28) (hl : ts.length ≤ 100000) (hp : ∀ p, F__law_pairs [.lst nn] p = .ok (.lst (ts.map pD)) p) (hp2 : ∀ p, F_pairs_in [.lst nn] p = .ok (.lst (ts.map pD)) p)
    (rr : List (List Nat)) (hr : ∀ p, F__law_roots [] p = .ok (.lst (rr.map rD)) p) (hrr : ∀ x, x < 256 → (onS x).length % 2 = 0 → told x ≠ [] → told x ∈ rr) (ha : ∀ p, F_all_roots [] p = .ok (.tup (rr.map rD)) p) (hs0 : (D.tup (rr.map rD)).sh = true) (ho : ok1 (D.tup (rr.map rD)).toP.shown) (r0 : 0 < rr.length) (r1 : rr.length < 1000) (h6 : ∀ l ∈ rr, (duF ts l).length = 6) (hs : ∀ l ∈ rr, (D.tup ((duF ts l).map pD)).sh = true)
    (ht : ∀ l ∈ rr, ∀ p, F_root_told [rD l, .str "root"] p = .ok (rD l) p ∧ F_root_told [.lst (l.map iD), .str "root"] p = .ok (rD l) p) (p : List D) (h0 : PenI 0 p) : ∃ ρ p', fs_law [.none, .val .pen, .none, .none, .none, .none, .none, .none, .none] p = .ok (.rt (.bl true), ρ) p' := by
  obtain ⟨y2, y3, y4, p1, e1, h1⟩ := r_turns nn hN hn rr hr hrr .none .none .none .none .none ((List.range (8 : Int).toNat).map fun i => D.int (0 + (i : Nat))) 0 p .none .none .none h0 (by rw [List.length_map, List.length_range]; decide)
  rw [List.length_map, List.length_range] at h1
  have e2 := r_W1 rr hr ha hs0 ho [.none, .val .pen, y2, y3, y4, .none, .none, .none, .none] p1
  obtain ⟨z2, z4, z5, p2, e3, h2⟩ := r_loop2 (.lst nn) hn hn2 ts hok hl hp hp2 rr hr r0 r1 h6 hs ht .none y3 .none .none .none ((List.range (3 : Int).toNat).map fun i => D.int (0 + (i : Nat))) _ p1 y2 y4 .none h1 (by rw [List.length_map, List.length_range]; decide)
  have e4 := r_W3 .none (.val .pen) z2 y3 z4 z5 .none .none p2
  have i1 : fItR (fC (.int 8)) [.none, .val .pen, .none, .none, .none, .none, .none, .none, .none] p = .ok ((List.range (8 : Int).toNat).map fun i => D.int (0 + (i : Nat))) p := itR_eq (n := 8) rfl (by decide)
  have i2 : fItR (fC (.int 3)) [.none, .val .pen, y2, y3, y4, .none, .none, .none, .none] p1 = .ok ((List.range (3 : Int).toNat).map fun i => D.int (0 + (i : Nat))) p1 := itR_eq (n := 3) rfl (by decide)
  exact ⟨_, p2, (seq_nx ((for_eq i1).trans e1)).trans ((seq_nx e2).trans ((seq_nx ((for_eq i2).trans e3)).trans e4))⟩
theorem plain : Plain := by
  intro ns hl hb
  have h0 : PenI 0 (pen0 ns) := ⟨ns, 0, 0, rfl, fun z hz => bits_log z (hb z hz), by omega, by omega, by omega⟩
  exact r_law N28 rfl r_names r_plisted P2 P2_ok (by rw [P2_len]; decide) r_lpairs r_ppairs rootsL r_lroots (fun x hx => told_root hx) r_aroots roots_sh (ok_roots rootsL roots_lt) (by decide +kernel) (by decide +kernel) (fun l h => du_len h) (fun l h => du_sh h) (fun l h p => r_root_told l h p) (pen0 ns) h0
end Lw
end

section
set_option Elab.async false
set_option linter.all false
set_option maxRecDepth 100000
set_option maxHeartbeats 4000000
namespace Lw
open PySem PySem.Spec PyProof.Rows L2 Dn
theorem mk (plain : Plain) {l : PySem.W.OpenLaw} {w : World} {K : PySem.W.Frag} {h : Heap} {mg : Str → Option Value} {fa : Addr} (X : K.In h) (G : h.Ns mainGlobals mg) (hfa : mg "law" = some (.ref fa))
    {a_is_integer : Addr} {od_is_integer an_is_integer : Option Addr} {sl_is_integer : Array (Option Value)} {oc_is_integer kV_is_integer dc_is_integer pm_is_integer ct_is_integer cd_is_integer : Value}
    {a_is_within : Addr} {od_is_within an_is_within : Option Addr} {sl_is_within : Array (Option Value)} {oc_is_within kV_is_within dc_is_within pm_is_within ct_is_within cd_is_within : Value}
    {a_is_listed : Addr} {od_is_listed an_is_listed : Option Addr} {sl_is_listed : Array (Option Value)} {oc_is_listed kV_is_listed dc_is_listed pm_is_listed ct_is_listed cd_is_listed : Value}
    {a_signs_in : Addr} {od_signs_in an_signs_in : Option Addr} {sl_signs_in : Array (Option Value)} {oc_signs_in kV_signs_in dc_signs_in pm_signs_in ct_signs_in cd_signs_in : Value}
    {a_names_listed : Addr} {od_names_listed an_names_listed : Option Addr} {sl_names_listed : Array (Option Value)} {oc_names_listed kV_names_listed dc_names_listed pm_names_listed ct_names_listed cd_names_listed : Value}
    {a_is_name : Addr} {od_is_name an_is_name : Option Addr} {sl_is_name : Array (Option Value)} {oc_is_name kV_is_name dc_is_name pm_is_name ct_is_name cd_is_name : Value}
    {a_sum_told : Addr} {od_sum_told an_sum_told : Option Addr} {sl_sum_told : Array (Option Value)} {oc_sum_told kV_sum_told dc_sum_told pm_sum_told ct_sum_told cd_sum_told : Value}
    {a_added : Addr} {od_added an_added : Option Addr} {sl_added : Array (Option Value)} {oc_added kV_added dc_added pm_added ct_added cd_added : Value}
    {a_sum_in : Addr} {od_sum_in an_sum_in : Option Addr} {sl_sum_in : Array (Option Value)} {oc_sum_in kV_sum_in dc_sum_in pm_sum_in ct_sum_in cd_sum_in : Value}
    {a_pairs_in : Addr} {od_pairs_in an_pairs_in : Option Addr} {sl_pairs_in : Array (Option Value)} {oc_pairs_in kV_pairs_in dc_pairs_in pm_pairs_in ct_pairs_in cd_pairs_in : Value}
    {a_threes_in : Addr} {od_threes_in an_threes_in : Option Addr} {sl_threes_in : Array (Option Value)} {oc_threes_in kV_threes_in dc_threes_in pm_threes_in ct_threes_in cd_threes_in : Value}
    {a_is_root : Addr} {od_is_root an_is_root : Option Addr} {sl_is_root : Array (Option Value)} {oc_is_root kV_is_root dc_is_root pm_is_root ct_is_root cd_is_root : Value}
    {a_root_told : Addr} {od_root_told an_root_told : Option Addr} {sl_root_told : Array (Option Value)} {oc_root_told kV_root_told dc_root_told pm_root_told ct_root_told cd_root_told : Value}
    {a_sum_of : Addr} {od_sum_of an_sum_of : Option Addr} {sl_sum_of : Array (Option Value)} {oc_sum_of kV_sum_of dc_sum_of pm_sum_of ct_sum_of cd_sum_of : Value}
    {a_all_roots : Addr} {od_all_roots an_all_roots : Option Addr} {sl_all_roots : Array (Option Value)} {oc_all_roots kV_all_roots dc_all_roots pm_all_roots ct_all_roots cd_all_roots : Value}
    {a_pairs_of : Addr} {od_pairs_of an_pairs_of : Option Addr} {sl_pairs_of : Array (Option Value)} {oc_pairs_of kV_pairs_of dc_pairs_of pm_pairs_of ct_pairs_of cd_pairs_of : Value}
    {a_many_ordered : Addr} {od_many_ordered an_many_ordered : Option Addr} {sl_many_ordered : Array (Option Value)} {oc_many_ordered kV_many_ordered dc_many_ordered pm_many_ordered ct_many_ordered cd_many_ordered : Value}
    {a__law_pen : Addr} {od__law_pen an__law_pen : Option Addr} {sl__law_pen : Array (Option Value)} {oc__law_pen kV__law_pen dc__law_pen pm__law_pen ct__law_pen cd__law_pen : Value}
    {a__law_draw : Addr} {od__law_draw an__law_draw : Option Addr} {sl__law_draw : Array (Option Value)} {oc__law_draw kV__law_draw dc__law_draw pm__law_draw ct__law_draw cd__law_draw : Value}
    {a__law_pick : Addr} {od__law_pick an__law_pick : Option Addr} {sl__law_pick : Array (Option Value)} {oc__law_pick kV__law_pick dc__law_pick pm__law_pick ct__law_pick cd__law_pick : Value}
    {a__law_pairs : Addr} {od__law_pairs an__law_pairs : Option Addr} {sl__law_pairs : Array (Option Value)} {oc__law_pairs kV__law_pairs dc__law_pairs pm__law_pairs ct__law_pairs cd__law_pairs : Value}
    {a__law_threes : Addr} {od__law_threes an__law_threes : Option Addr} {sl__law_threes : Array (Option Value)} {oc__law_threes kV__law_threes dc__law_threes pm__law_threes ct__law_threes cd__law_threes : Value}
    {a__law_names : Addr} {od__law_names an__law_names : Option Addr} {sl__law_names : Array (Option Value)} {oc__law_names kV__law_names dc__law_names pm__law_names ct__law_names cd__law_names : Value}
    {a__law_mask : Addr} {od__law_mask an__law_mask : Option Addr} {sl__law_mask : Array (Option Value)} {oc__law_mask kV__law_mask dc__law_mask pm__law_mask ct__law_mask cd__law_mask : Value}
    {a__law_told : Addr} {od__law_told an__law_told : Option Addr} {sl__law_told : Array (Option Value)} {oc__law_told kV__law_told dc__law_told pm__law_told ct__law_told cd__law_told : Value}
    {a__law_roots : Addr} {od__law_roots an__law_roots : Option Addr} {sl__law_roots : Array (Option Value)} {oc__law_roots kV__law_roots dc__law_roots pm__law_roots ct__law_roots cd__law_roots : Value}
    {a__law_heard : Addr} {od__law_heard an__law_heard : Option Addr} {sl__law_heard : Array (Option Value)} {oc__law_heard kV__law_heard dc__law_heard pm__law_heard ct__law_heard cd__law_heard : Value}
    {a__law_refused_right : Addr} {od__law_refused_right an__law_refused_right : Option Addr} {sl__law_refused_right : Array (Option Value)} {oc__law_refused_right kV__law_refused_right dc__law_refused_right pm__law_refused_right ct__law_refused_right : Value} {k__law_refused_right t__law_refused_right : Addr}
    {a_law : Addr} {od_law an_law : Option Addr} {sl_law : Array (Option Value)} {oc_law kV_law dc_law pm_law ct_law cd_law : Value}
    {tk_LAST : Tok}
    {a_NAMES : Addr} {od_NAMES : Option Addr} {its_NAMES : Array Value} {cn_NAMES : Nat} {sl_NAMES : Array (Option Value)}
    {tk_MANY : Tok}
    {tk_HALF : Tok}
    {tk_WHOLE : Tok}
    {a_ORDERED : Addr} {od_ORDERED : Option Addr} {its_ORDERED : Array Value} {cn_ORDERED : Nat} {sl_ORDERED : Array (Option Value)}
    {C_SightError : Addr}
    {C_BadNumber : Addr}
    {C_BadNames : Addr}
    {I_BadNumber : Addr} {q_BadNumber : Arguments} {w_BadNumber : Scope}
    {I_BadNames : Addr} {q_BadNames : Arguments} {w_BadNames : Scope}
    (a1_is_integer : PySem.W.nsIn K mainGlobals "is_integer" = some (some (.ref a_is_integer)))
    (l1_is_integer : K.lookup a_is_integer = some ⟨oc_is_integer, od_is_integer, .func (PySem.W.fnOf "is_integer" "is_integer" (defArgs s_is_integer) (defBody s_is_integer) (defScope s_is_integer) .none kV_is_integer dc_is_integer pm_is_integer an_is_integer cd_is_integer ct_is_integer), sl_is_integer⟩)
    (c1_is_integer : PySem.W.codeIn K cd_is_integer "is_integer" = true)
    (k1_is_integer : PySem.W.keepIn K (.ref a_is_integer) = true)
    (a1_is_within : PySem.W.nsIn K mainGlobals "is_within" = some (some (.ref a_is_within)))
    (l1_is_within : K.lookup a_is_within = some ⟨oc_is_within, od_is_within, .func (PySem.W.fnOf "is_within" "is_within" (defArgs s_is_within) (defBody s_is_within) (defScope s_is_within) .none kV_is_within dc_is_within pm_is_within an_is_within cd_is_within ct_is_within), sl_is_within⟩)
    (c1_is_within : PySem.W.codeIn K cd_is_within "is_within" = true)
    (k1_is_within : PySem.W.keepIn K (.ref a_is_within) = true)
    (a1_is_listed : PySem.W.nsIn K mainGlobals "is_listed" = some (some (.ref a_is_listed)))
    (l1_is_listed : K.lookup a_is_listed = some ⟨oc_is_listed, od_is_listed, .func (PySem.W.fnOf "is_listed" "is_listed" (defArgs s_is_listed) (defBody s_is_listed) (defScope s_is_listed) .none kV_is_listed dc_is_listed pm_is_listed an_is_listed cd_is_listed ct_is_listed), sl_is_listed⟩)
    (c1_is_listed : PySem.W.codeIn K cd_is_listed "is_listed" = true)
    (k1_is_listed : PySem.W.keepIn K (.ref a_is_listed) = true)
    (a1_signs_in : PySem.W.nsIn K mainGlobals "signs_in" = some (some (.ref a_signs_in)))
    (l1_signs_in : K.lookup a_signs_in = some ⟨oc_signs_in, od_signs_in, .func (PySem.W.fnOf "signs_in" "signs_in" (defArgs s_signs_in) (defBody s_signs_in) (defScope s_signs_in) .none kV_signs_in dc_signs_in pm_signs_in an_signs_in cd_signs_in ct_signs_in), sl_signs_in⟩)
    (c1_signs_in : PySem.W.codeIn K cd_signs_in "signs_in" = true)
    (k1_signs_in : PySem.W.keepIn K (.ref a_signs_in) = true)
    (a1_names_listed : PySem.W.nsIn K mainGlobals "names_listed" = some (some (.ref a_names_listed)))
    (l1_names_listed : K.lookup a_names_listed = some ⟨oc_names_listed, od_names_listed, .func (PySem.W.fnOf "names_listed" "names_listed" (defArgs s_names_listed) (defBody s_names_listed) (defScope s_names_listed) .none kV_names_listed dc_names_listed pm_names_listed an_names_listed cd_names_listed ct_names_listed), sl_names_listed⟩)
    (c1_names_listed : PySem.W.codeIn K cd_names_listed "names_listed" = true)
    (k1_names_listed : PySem.W.keepIn K (.ref a_names_listed) = true)
    (a1_is_name : PySem.W.nsIn K mainGlobals "is_name" = some (some (.ref a_is_name)))
    (l1_is_name : K.lookup a_is_name = some ⟨oc_is_name, od_is_name, .func (PySem.W.fnOf "is_name" "is_name" (defArgs s_is_name) (defBody s_is_name) (defScope s_is_name) .none kV_is_name dc_is_name pm_is_name an_is_name cd_is_name ct_is_name), sl_is_name⟩)
    (c1_is_name : PySem.W.codeIn K cd_is_name "is_name" = true)
    (k1_is_name : PySem.W.keepIn K (.ref a_is_name) = true)
    (a1_sum_told : PySem.W.nsIn K mainGlobals "sum_told" = some (some (.ref a_sum_told)))
    (l1_sum_told : K.lookup a_sum_told = some ⟨oc_sum_told, od_sum_told, .func (PySem.W.fnOf "sum_told" "sum_told" (defArgs s_sum_told) (defBody s_sum_told) (defScope s_sum_told) .none kV_sum_told dc_sum_told pm_sum_told an_sum_told cd_sum_told ct_sum_told), sl_sum_told⟩)
    (c1_sum_told : PySem.W.codeIn K cd_sum_told "sum_told" = true)
    (k1_sum_told : PySem.W.keepIn K (.ref a_sum_told) = true)
    (a1_added : PySem.W.nsIn K mainGlobals "added" = some (some (.ref a_added)))
    (l1_added : K.lookup a_added = some ⟨oc_added, od_added, .func (PySem.W.fnOf "added" "added" (defArgs s_added) (defBody s_added) (defScope s_added) .none kV_added dc_added pm_added an_added cd_added ct_added), sl_added⟩)
    (c1_added : PySem.W.codeIn K cd_added "added" = true)
    (k1_added : PySem.W.keepIn K (.ref a_added) = true)
    (a1_sum_in : PySem.W.nsIn K mainGlobals "sum_in" = some (some (.ref a_sum_in)))
    (l1_sum_in : K.lookup a_sum_in = some ⟨oc_sum_in, od_sum_in, .func (PySem.W.fnOf "sum_in" "sum_in" (defArgs s_sum_in) (defBody s_sum_in) (defScope s_sum_in) .none kV_sum_in dc_sum_in pm_sum_in an_sum_in cd_sum_in ct_sum_in), sl_sum_in⟩)
    (c1_sum_in : PySem.W.codeIn K cd_sum_in "sum_in" = true)
    (k1_sum_in : PySem.W.keepIn K (.ref a_sum_in) = true)
    (a1_pairs_in : PySem.W.nsIn K mainGlobals "pairs_in" = some (some (.ref a_pairs_in)))
    (l1_pairs_in : K.lookup a_pairs_in = some ⟨oc_pairs_in, od_pairs_in, .func (PySem.W.fnOf "pairs_in" "pairs_in" (defArgs s_pairs_in) (defBody s_pairs_in) (defScope s_pairs_in) .none kV_pairs_in dc_pairs_in pm_pairs_in an_pairs_in cd_pairs_in ct_pairs_in), sl_pairs_in⟩)
    (c1_pairs_in : PySem.W.codeIn K cd_pairs_in "pairs_in" = true)
    (k1_pairs_in : PySem.W.keepIn K (.ref a_pairs_in) = true)
    (a1_threes_in : PySem.W.nsIn K mainGlobals "threes_in" = some (some (.ref a_threes_in)))
    (l1_threes_in : K.lookup a_threes_in = some ⟨oc_threes_in, od_threes_in, .func (PySem.W.fnOf "threes_in" "threes_in" (defArgs s_threes_in) (defBody s_threes_in) (defScope s_threes_in) .none kV_threes_in dc_threes_in pm_threes_in an_threes_in cd_threes_in ct_threes_in), sl_threes_in⟩)
    (c1_threes_in : PySem.W.codeIn K cd_threes_in "threes_in" = true)
    (k1_threes_in : PySem.W.keepIn K (.ref a_threes_in) = true)
    (a1_is_root : PySem.W.nsIn K mainGlobals "is_root" = some (some (.ref a_is_root)))
    (l1_is_root : K.lookup a_is_root = some ⟨oc_is_root, od_is_root, .func (PySem.W.fnOf "is_root" "is_root" (defArgs s_is_root) (defBody s_is_root) (defScope s_is_root) .none kV_is_root dc_is_root pm_is_root an_is_root cd_is_root ct_is_root), sl_is_root⟩)
    (c1_is_root : PySem.W.codeIn K cd_is_root "is_root" = true)
    (k1_is_root : PySem.W.keepIn K (.ref a_is_root) = true)
    (a1_root_told : PySem.W.nsIn K mainGlobals "root_told" = some (some (.ref a_root_told)))
    (l1_root_told : K.lookup a_root_told = some ⟨oc_root_told, od_root_told, .func (PySem.W.fnOf "root_told" "root_told" (defArgs s_root_told) (defBody s_root_told) (defScope s_root_told) .none kV_root_told dc_root_told pm_root_told an_root_told cd_root_told ct_root_told), sl_root_told⟩)
    (c1_root_told : PySem.W.codeIn K cd_root_told "root_told" = true)
    (k1_root_told : PySem.W.keepIn K (.ref a_root_told) = true)
    (a1_sum_of : PySem.W.nsIn K mainGlobals "sum_of" = some (some (.ref a_sum_of)))
    (l1_sum_of : K.lookup a_sum_of = some ⟨oc_sum_of, od_sum_of, .func (PySem.W.fnOf "sum_of" "sum_of" (defArgs s_sum_of) (defBody s_sum_of) (defScope s_sum_of) .none kV_sum_of dc_sum_of pm_sum_of an_sum_of cd_sum_of ct_sum_of), sl_sum_of⟩)
    (c1_sum_of : PySem.W.codeIn K cd_sum_of "sum_of" = true)
    (k1_sum_of : PySem.W.keepIn K (.ref a_sum_of) = true)
    (a1_all_roots : PySem.W.nsIn K mainGlobals "all_roots" = some (some (.ref a_all_roots)))
    (l1_all_roots : K.lookup a_all_roots = some ⟨oc_all_roots, od_all_roots, .func (PySem.W.fnOf "all_roots" "all_roots" (defArgs s_all_roots) (defBody s_all_roots) (defScope s_all_roots) .none kV_all_roots dc_all_roots pm_all_roots an_all_roots cd_all_roots ct_all_roots), sl_all_roots⟩)
    (c1_all_roots : PySem.W.codeIn K cd_all_roots "all_roots" = true)
    (k1_all_roots : PySem.W.keepIn K (.ref a_all_roots) = true)
    (a1_pairs_of : PySem.W.nsIn K mainGlobals "pairs_of" = some (some (.ref a_pairs_of)))
    (l1_pairs_of : K.lookup a_pairs_of = some ⟨oc_pairs_of, od_pairs_of, .func (PySem.W.fnOf "pairs_of" "pairs_of" (defArgs s_pairs_of) (defBody s_pairs_of) (defScope s_pairs_of) .none kV_pairs_of dc_pairs_of pm_pairs_of an_pairs_of cd_pairs_of ct_pairs_of), sl_pairs_of⟩)
    (c1_pairs_of : PySem.W.codeIn K cd_pairs_of "pairs_of" = true)
    (k1_pairs_of : PySem.W.keepIn K (.ref a_pairs_of) = true)
    (a1_many_ordered : PySem.W.nsIn K mainGlobals "many_ordered" = some (some (.ref a_many_ordered)))
    (l1_many_ordered : K.lookup a_many_ordered = some ⟨oc_many_ordered, od_many_ordered, .func (PySem.W.fnOf "many_ordered" "many_ordered" (defArgs s_many_ordered) (defBody s_many_ordered) (defScope s_many_ordered) .none kV_many_ordered dc_many_ordered pm_many_ordered an_many_ordered cd_many_ordered ct_many_ordered), sl_many_ordered⟩)
    (c1_many_ordered : PySem.W.codeIn K cd_many_ordered "many_ordered" = true)
    (k1_many_ordered : PySem.W.keepIn K (.ref a_many_ordered) = true)
    (a1__law_pen : PySem.W.nsIn K mainGlobals "_law_pen" = some (some (.ref a__law_pen)))
    (l1__law_pen : K.lookup a__law_pen = some ⟨oc__law_pen, od__law_pen, .func (PySem.W.fnOf "_law_pen" "_law_pen" (defArgs s__law_pen) (defBody s__law_pen) (defScope s__law_pen) .none kV__law_pen dc__law_pen pm__law_pen an__law_pen cd__law_pen ct__law_pen), sl__law_pen⟩)
    (c1__law_pen : PySem.W.codeIn K cd__law_pen "_law_pen" = true)
    (k1__law_pen : PySem.W.keepIn K (.ref a__law_pen) = true)
    (a1__law_draw : PySem.W.nsIn K mainGlobals "_law_draw" = some (some (.ref a__law_draw)))
    (l1__law_draw : K.lookup a__law_draw = some ⟨oc__law_draw, od__law_draw, .func (PySem.W.fnOf "_law_draw" "_law_draw" (defArgs s__law_draw) (defBody s__law_draw) (defScope s__law_draw) .none kV__law_draw dc__law_draw pm__law_draw an__law_draw cd__law_draw ct__law_draw), sl__law_draw⟩)
    (c1__law_draw : PySem.W.codeIn K cd__law_draw "_law_draw" = true)
    (k1__law_draw : PySem.W.keepIn K (.ref a__law_draw) = true)
    (a1__law_pick : PySem.W.nsIn K mainGlobals "_law_pick" = some (some (.ref a__law_pick)))
    (l1__law_pick : K.lookup a__law_pick = some ⟨oc__law_pick, od__law_pick, .func (PySem.W.fnOf "_law_pick" "_law_pick" (defArgs s__law_pick) (defBody s__law_pick) (defScope s__law_pick) .none kV__law_pick dc__law_pick pm__law_pick an__law_pick cd__law_pick ct__law_pick), sl__law_pick⟩)
    (c1__law_pick : PySem.W.codeIn K cd__law_pick "_law_pick" = true)
    (k1__law_pick : PySem.W.keepIn K (.ref a__law_pick) = true)
    (a1__law_pairs : PySem.W.nsIn K mainGlobals "_law_pairs" = some (some (.ref a__law_pairs)))
    (l1__law_pairs : K.lookup a__law_pairs = some ⟨oc__law_pairs, od__law_pairs, .func (PySem.W.fnOf "_law_pairs" "_law_pairs" (defArgs s__law_pairs) (defBody s__law_pairs) (defScope s__law_pairs) .none kV__law_pairs dc__law_pairs pm__law_pairs an__law_pairs cd__law_pairs ct__law_pairs), sl__law_pairs⟩)
    (c1__law_pairs : PySem.W.codeIn K cd__law_pairs "_law_pairs" = true)
    (k1__law_pairs : PySem.W.keepIn K (.ref a__law_pairs) = true)
    (a1__law_threes : PySem.W.nsIn K mainGlobals "_law_threes" = some (some (.ref a__law_threes)))
    (l1__law_threes : K.lookup a__law_threes = some ⟨oc__law_threes, od__law_threes, .func (PySem.W.fnOf "_law_threes" "_law_threes" (defArgs s__law_threes) (defBody s__law_threes) (defScope s__law_threes) .none kV__law_threes dc__law_threes pm__law_threes an__law_threes cd__law_threes ct__law_threes), sl__law_threes⟩)
    (c1__law_threes : PySem.W.codeIn K cd__law_threes "_law_threes" = true)
    (k1__law_threes : PySem.W.keepIn K (.ref a__law_threes) = true)
    (a1__law_names : PySem.W.nsIn K mainGlobals "_law_names" = some (some (.ref a__law_names)))
    (l1__law_names : K.lookup a__law_names = some ⟨oc__law_names, od__law_names, .func (PySem.W.fnOf "_law_names" "_law_names" (defArgs s__law_names) (defBody s__law_names) (defScope s__law_names) .none kV__law_names dc__law_names pm__law_names an__law_names cd__law_names ct__law_names), sl__law_names⟩)
    (c1__law_names : PySem.W.codeIn K cd__law_names "_law_names" = true)
    (k1__law_names : PySem.W.keepIn K (.ref a__law_names) = true)
    (a1__law_mask : PySem.W.nsIn K mainGlobals "_law_mask" = some (some (.ref a__law_mask)))
    (l1__law_mask : K.lookup a__law_mask = some ⟨oc__law_mask, od__law_mask, .func (PySem.W.fnOf "_law_mask" "_law_mask" (defArgs s__law_mask) (defBody s__law_mask) (defScope s__law_mask) .none kV__law_mask dc__law_mask pm__law_mask an__law_mask cd__law_mask ct__law_mask), sl__law_mask⟩)
    (c1__law_mask : PySem.W.codeIn K cd__law_mask "_law_mask" = true)
    (k1__law_mask : PySem.W.keepIn K (.ref a__law_mask) = true)
    (a1__law_told : PySem.W.nsIn K mainGlobals "_law_told" = some (some (.ref a__law_told)))
    (l1__law_told : K.lookup a__law_told = some ⟨oc__law_told, od__law_told, .func (PySem.W.fnOf "_law_told" "_law_told" (defArgs s__law_told) (defBody s__law_told) (defScope s__law_told) .none kV__law_told dc__law_told pm__law_told an__law_told cd__law_told ct__law_told), sl__law_told⟩)
    (c1__law_told : PySem.W.codeIn K cd__law_told "_law_told" = true)
    (k1__law_told : PySem.W.keepIn K (.ref a__law_told) = true)
    (a1__law_roots : PySem.W.nsIn K mainGlobals "_law_roots" = some (some (.ref a__law_roots)))
    (l1__law_roots : K.lookup a__law_roots = some ⟨oc__law_roots, od__law_roots, .func (PySem.W.fnOf "_law_roots" "_law_roots" (defArgs s__law_roots) (defBody s__law_roots) (defScope s__law_roots) .none kV__law_roots dc__law_roots pm__law_roots an__law_roots cd__law_roots ct__law_roots), sl__law_roots⟩)
    (c1__law_roots : PySem.W.codeIn K cd__law_roots "_law_roots" = true)
    (k1__law_roots : PySem.W.keepIn K (.ref a__law_roots) = true)
    (a1__law_heard : PySem.W.nsIn K mainGlobals "_law_heard" = some (some (.ref a__law_heard)))
    (l1__law_heard : K.lookup a__law_heard = some ⟨oc__law_heard, od__law_heard, .func (PySem.W.fnOf "_law_heard" "_law_heard" (defArgs s__law_heard) (defBody s__law_heard) (defScope s__law_heard) .none kV__law_heard dc__law_heard pm__law_heard an__law_heard cd__law_heard ct__law_heard), sl__law_heard⟩)
    (c1__law_heard : PySem.W.codeIn K cd__law_heard "_law_heard" = true)
    (k1__law_heard : PySem.W.keepIn K (.ref a__law_heard) = true)
    (a1__law_refused_right : PySem.W.nsIn K mainGlobals "_law_refused_right" = some (some (.ref a__law_refused_right)))
    (l1__law_refused_right : K.lookup a__law_refused_right = some ⟨oc__law_refused_right, od__law_refused_right, .func (PySem.W.fnOf "_law_refused_right" "_law_refused_right" (defArgs s__law_refused_right) (defBody s__law_refused_right) (defScope s__law_refused_right) .none kV__law_refused_right dc__law_refused_right pm__law_refused_right an__law_refused_right (.ref k__law_refused_right) ct__law_refused_right), sl__law_refused_right⟩)
    (c1__law_refused_right : PySem.W.codeIn K (.ref k__law_refused_right) "_law_refused_right" = true)
    (k1__law_refused_right : PySem.W.keepIn K (.ref a__law_refused_right) = true)
    (tb__law_refused_right : tabOf K k__law_refused_right = some t__law_refused_right)
    (tn__law_refused_right : K.lookup t__law_refused_right = none)
    (th__law_refused_right : PySem.W.codeHdIn K k__law_refused_right t__law_refused_right = true)
    (tt__law_refused_right : h.get? t__law_refused_right = some tabO)
    (a1_law : PySem.W.nsIn K mainGlobals "law" = some (some (.ref a_law)))
    (l1_law : K.lookup a_law = some ⟨oc_law, od_law, .func (PySem.W.fnOf "law" "law" (defArgs s_law) (defBody s_law) (defScope s_law) .none kV_law dc_law pm_law an_law cd_law ct_law), sl_law⟩)
    (c1_law : PySem.W.codeIn K cd_law "law" = true)
    (k1_law : PySem.W.keepIn K (.ref a_law) = true)
    (v1_LAST : PySem.W.nsIn K mainGlobals "LAST" = some (some (.int 7 tk_LAST)))
    (v1_NAMES : PySem.W.nsIn K mainGlobals "NAMES" = some (some (.ref a_NAMES)))
    (vl_NAMES : K.lookup a_NAMES = some ⟨.type "tuple", od_NAMES, .seq its_NAMES cn_NAMES, sl_NAMES⟩)
    (vz_NAMES : its_NAMES.size ≤ sizeLine)
    (vq_NAMES : Vals ((["01", "02", "03", "04", "05", "06", "07", "12", "13", "14", "15", "16", "17", "23", "24", "25", "26", "27", "34", "35", "36", "37", "45", "46", "47", "56", "57", "67"] : List Str).map V.str) its_NAMES.toList)
    (v1_MANY : PySem.W.nsIn K mainGlobals "MANY" = some (some (.int 8 tk_MANY)))
    (v1_HALF : PySem.W.nsIn K mainGlobals "HALF" = some (some (.int 4 tk_HALF)))
    (v1_WHOLE : PySem.W.nsIn K mainGlobals "WHOLE" = some (some (.int 7 tk_WHOLE)))
    (v1_ORDERED : PySem.W.nsIn K mainGlobals "ORDERED" = some (some (.ref a_ORDERED)))
    (vl_ORDERED : K.lookup a_ORDERED = some ⟨.type "tuple", od_ORDERED, .seq its_ORDERED cn_ORDERED, sl_ORDERED⟩)
    (vz_ORDERED : its_ORDERED.size ≤ sizeLine)
    (vq_ORDERED : Vals (([1, 28, 756, 12096, 120960, 725760, 2177280, 1451520] : List Int).map V.int) its_ORDERED.toList)
    (m1_SightError : PySem.W.nsIn K mainGlobals "SightError" = some (some (.ref C_SightError)))
    (m1_BadNumber : PySem.W.nsIn K mainGlobals "BadNumber" = some (some (.ref C_BadNumber)))
    (m1_BadNames : PySem.W.nsIn K mainGlobals "BadNames" = some (some (.ref C_BadNames)))
    (z1_BadNumber : RzC K l.prog C_BadNumber I_BadNumber q_BadNumber w_BadNumber "no right number" "part")
    (x1_BadNumber : L2.ExcC K C_BadNumber)
    (e1_BadNumber_SightError : PySem.W.exmOne K (.ref C_BadNumber) (.ref C_SightError) = some true)
    (j1_BadNumber_BadNames : PySem.W.kitOne K (.ref C_BadNumber) (.ref C_BadNames) = some false)
    (j1_BadNumber_BadNumber : PySem.W.kitOne K (.ref C_BadNumber) (.ref C_BadNumber) = some true)
    (z1_BadNames : RzC K l.prog C_BadNames I_BadNames q_BadNames w_BadNames "no right names" "part")
    (x1_BadNames : L2.ExcC K C_BadNames)
    (e1_BadNames_SightError : PySem.W.exmOne K (.ref C_BadNames) (.ref C_SightError) = some true)
    (j1_BadNames_BadNames : PySem.W.kitOne K (.ref C_BadNames) (.ref C_BadNames) = some true)
    (j1_BadNames_BadNumber : PySem.W.kitOne K (.ref C_BadNames) (.ref C_BadNumber) = some false)
    (n1_abs : PySem.W.nsIn K mainGlobals "abs" = some none)
    (n1_all : PySem.W.nsIn K mainGlobals "all" = some none)
    (n1_bool : PySem.W.nsIn K mainGlobals "bool" = some none)
    (n1_enumerate : PySem.W.nsIn K mainGlobals "enumerate" = some none)
    (n1_int : PySem.W.nsIn K mainGlobals "int" = some none)
    (n1_isinstance : PySem.W.nsIn K mainGlobals "isinstance" = some none)
    (n1_len : PySem.W.nsIn K mainGlobals "len" = some none)
    (n1_list : PySem.W.nsIn K mainGlobals "list" = some none)
    (n1_min : PySem.W.nsIn K mainGlobals "min" = some none)
    (n1_range : PySem.W.nsIn K mainGlobals "range" = some none)
    (n1_repr : PySem.W.nsIn K mainGlobals "repr" = some none)
    (n1_set : PySem.W.nsIn K mainGlobals "set" = some none)
    (n1_sorted : PySem.W.nsIn K mainGlobals "sorted" = some none)
    (n1_str : PySem.W.nsIn K mainGlobals "str" = some none)
    (n1_sum : PySem.W.nsIn K mainGlobals "sum" = some none)
    (n1_super : PySem.W.nsIn K mainGlobals "super" = some none)
    (n1_tuple : PySem.W.nsIn K mainGlobals "tuple" = some none)
    (n1_zip : PySem.W.nsIn K mainGlobals "zip" = some none)
    : LawG l w K 9 63 "script" mg fa h := by
  have g := fun {n : Str} {v : Value} (e : PySem.W.nsIn K mainGlobals n = some (some v)) => PySem.W.mg_of X G e
  have z := fun {n : Str} (e : PySem.W.nsIn K mainGlobals n = some none) => PySem.W.mg_none_of X G e
  have efa := hfa.symm.trans (g a1_law)
  cases efa
  have F_is_integer := fun_mk (st := s_is_integer) l1_is_integer c1_is_integer k1_is_integer
  have F_is_within := fun_mk (st := s_is_within) l1_is_within c1_is_within k1_is_within
  have F_is_listed := fun_mk (st := s_is_listed) l1_is_listed c1_is_listed k1_is_listed
  have F_signs_in := fun_mk (st := s_signs_in) l1_signs_in c1_signs_in k1_signs_in
  have F_names_listed := fun_mk (st := s_names_listed) l1_names_listed c1_names_listed k1_names_listed
  have F_is_name := fun_mk (st := s_is_name) l1_is_name c1_is_name k1_is_name
  have F_sum_told := fun_mk (st := s_sum_told) l1_sum_told c1_sum_told k1_sum_told
  have F_added := fun_mk (st := s_added) l1_added c1_added k1_added
  have F_sum_in := fun_mk (st := s_sum_in) l1_sum_in c1_sum_in k1_sum_in
  have F_pairs_in := fun_mk (st := s_pairs_in) l1_pairs_in c1_pairs_in k1_pairs_in
  have F_threes_in := fun_mk (st := s_threes_in) l1_threes_in c1_threes_in k1_threes_in
  have F_is_root := fun_mk (st := s_is_root) l1_is_root c1_is_root k1_is_root
  have F_root_told := fun_mk (st := s_root_told) l1_root_told c1_root_told k1_root_told
  have F_sum_of := fun_mk (st := s_sum_of) l1_sum_of c1_sum_of k1_sum_of
  have F_all_roots := fun_mk (st := s_all_roots) l1_all_roots c1_all_roots k1_all_roots
  have F_pairs_of := fun_mk (st := s_pairs_of) l1_pairs_of c1_pairs_of k1_pairs_of
  have F_many_ordered := fun_mk (st := s_many_ordered) l1_many_ordered c1_many_ordered k1_many_ordered
  have F__law_pen := fun_mk (st := s__law_pen) l1__law_pen c1__law_pen k1__law_pen
  have F__law_draw := fun_mk (st := s__law_draw) l1__law_draw c1__law_draw k1__law_draw
  have F__law_pick := fun_mk (st := s__law_pick) l1__law_pick c1__law_pick k1__law_pick
  have F__law_pairs := fun_mk (st := s__law_pairs) l1__law_pairs c1__law_pairs k1__law_pairs
  have F__law_threes := fun_mk (st := s__law_threes) l1__law_threes c1__law_threes k1__law_threes
  have F__law_names := fun_mk (st := s__law_names) l1__law_names c1__law_names k1__law_names
  have F__law_mask := fun_mk (st := s__law_mask) l1__law_mask c1__law_mask k1__law_mask
  have F__law_told := fun_mk (st := s__law_told) l1__law_told c1__law_told k1__law_told
  have F__law_roots := fun_mk (st := s__law_roots) l1__law_roots c1__law_roots k1__law_roots
  have F__law_heard := fun_mk (st := s__law_heard) l1__law_heard c1__law_heard k1__law_heard
  have F__law_refused_right := fun_mk (st := s__law_refused_right) l1__law_refused_right c1__law_refused_right k1__law_refused_right
  have F_law := fun_mk (st := s_law) l1_law c1_law k1_law
  have hT : tabsOf K mg = [(t__law_refused_right, ("_law_refused_right" : Str) ++ (".<locals>." : Str) ++ ("<lambda>" : Str))] := by
    simp only [tabsOf, lamNames, List.flatMap_cons, List.flatMap_nil, List.append_nil]
    rw [tabF_at (g a1__law_refused_right) l1__law_refused_right rfl rfl tb__law_refused_right]
    all_goals rfl
  let Z : Ad := { a_is_integer := a_is_integer, d_is_integer := PySem.W.fnOf "is_integer" "is_integer" (defArgs s_is_integer) (defBody s_is_integer) (defScope s_is_integer) .none kV_is_integer dc_is_integer pm_is_integer an_is_integer cd_is_integer ct_is_integer, a_is_within := a_is_within, d_is_within := PySem.W.fnOf "is_within" "is_within" (defArgs s_is_within) (defBody s_is_within) (defScope s_is_within) .none kV_is_within dc_is_within pm_is_within an_is_within cd_is_within ct_is_within, a_is_listed := a_is_listed, d_is_listed := PySem.W.fnOf "is_listed" "is_listed" (defArgs s_is_listed) (defBody s_is_listed) (defScope s_is_listed) .none kV_is_listed dc_is_listed pm_is_listed an_is_listed cd_is_listed ct_is_listed, a_signs_in := a_signs_in, d_signs_in := PySem.W.fnOf "signs_in" "signs_in" (defArgs s_signs_in) (defBody s_signs_in) (defScope s_signs_in) .none kV_signs_in dc_signs_in pm_signs_in an_signs_in cd_signs_in ct_signs_in, a_names_listed := a_names_listed, d_names_listed := PySem.W.fnOf "names_listed" "names_listed" (defArgs s_names_listed) (defBody s_names_listed) (defScope s_names_listed) .none kV_names_listed dc_names_listed pm_names_listed an_names_listed cd_names_listed ct_names_listed, a_is_name := a_is_name, d_is_name := PySem.W.fnOf "is_name" "is_name" (defArgs s_is_name) (defBody s_is_name) (defScope s_is_name) .none kV_is_name dc_is_name pm_is_name an_is_name cd_is_name ct_is_name, a_sum_told := a_sum_told, d_sum_told := PySem.W.fnOf "sum_told" "sum_told" (defArgs s_sum_told) (defBody s_sum_told) (defScope s_sum_told) .none kV_sum_told dc_sum_told pm_sum_told an_sum_told cd_sum_told ct_sum_told, a_added := a_added, d_added := PySem.W.fnOf "added" "added" (defArgs s_added) (defBody s_added) (defScope s_added) .none kV_added dc_added pm_added an_added cd_added ct_added, a_sum_in := a_sum_in, d_sum_in := PySem.W.fnOf "sum_in" "sum_in" (defArgs s_sum_in) (defBody s_sum_in) (defScope s_sum_in) .none kV_sum_in dc_sum_in pm_sum_in an_sum_in cd_sum_in ct_sum_in, a_pairs_in := a_pairs_in, d_pairs_in := PySem.W.fnOf "pairs_in" "pairs_in" (defArgs s_pairs_in) (defBody s_pairs_in) (defScope s_pairs_in) .none kV_pairs_in dc_pairs_in pm_pairs_in an_pairs_in cd_pairs_in ct_pairs_in, a_threes_in := a_threes_in, d_threes_in := PySem.W.fnOf "threes_in" "threes_in" (defArgs s_threes_in) (defBody s_threes_in) (defScope s_threes_in) .none kV_threes_in dc_threes_in pm_threes_in an_threes_in cd_threes_in ct_threes_in, a_is_root := a_is_root, d_is_root := PySem.W.fnOf "is_root" "is_root" (defArgs s_is_root) (defBody s_is_root) (defScope s_is_root) .none kV_is_root dc_is_root pm_is_root an_is_root cd_is_root ct_is_root, a_root_told := a_root_told, d_root_told := PySem.W.fnOf "root_told" "root_told" (defArgs s_root_told) (defBody s_root_told) (defScope s_root_told) .none kV_root_told dc_root_told pm_root_told an_root_told cd_root_told ct_root_told, a_sum_of := a_sum_of, d_sum_of := PySem.W.fnOf "sum_of" "sum_of" (defArgs s_sum_of) (defBody s_sum_of) (defScope s_sum_of) .none kV_sum_of dc_sum_of pm_sum_of an_sum_of cd_sum_of ct_sum_of, a_all_roots := a_all_roots, d_all_roots := PySem.W.fnOf "all_roots" "all_roots" (defArgs s_all_roots) (defBody s_all_roots) (defScope s_all_roots) .none kV_all_roots dc_all_roots pm_all_roots an_all_roots cd_all_roots ct_all_roots, a_pairs_of := a_pairs_of, d_pairs_of := PySem.W.fnOf "pairs_of" "pairs_of" (defArgs s_pairs_of) (defBody s_pairs_of) (defScope s_pairs_of) .none kV_pairs_of dc_pairs_of pm_pairs_of an_pairs_of cd_pairs_of ct_pairs_of, a_many_ordered := a_many_ordered, d_many_ordered := PySem.W.fnOf "many_ordered" "many_ordered" (defArgs s_many_ordered) (defBody s_many_ordered) (defScope s_many_ordered) .none kV_many_ordered dc_many_ordered pm_many_ordered an_many_ordered cd_many_ordered ct_many_ordered, a__law_pen := a__law_pen, d__law_pen := PySem.W.fnOf "_law_pen" "_law_pen" (defArgs s__law_pen) (defBody s__law_pen) (defScope s__law_pen) .none kV__law_pen dc__law_pen pm__law_pen an__law_pen cd__law_pen ct__law_pen, a__law_draw := a__law_draw, d__law_draw := PySem.W.fnOf "_law_draw" "_law_draw" (defArgs s__law_draw) (defBody s__law_draw) (defScope s__law_draw) .none kV__law_draw dc__law_draw pm__law_draw an__law_draw cd__law_draw ct__law_draw, a__law_pick := a__law_pick, d__law_pick := PySem.W.fnOf "_law_pick" "_law_pick" (defArgs s__law_pick) (defBody s__law_pick) (defScope s__law_pick) .none kV__law_pick dc__law_pick pm__law_pick an__law_pick cd__law_pick ct__law_pick, a__law_pairs := a__law_pairs, d__law_pairs := PySem.W.fnOf "_law_pairs" "_law_pairs" (defArgs s__law_pairs) (defBody s__law_pairs) (defScope s__law_pairs) .none kV__law_pairs dc__law_pairs pm__law_pairs an__law_pairs cd__law_pairs ct__law_pairs, a__law_threes := a__law_threes, d__law_threes := PySem.W.fnOf "_law_threes" "_law_threes" (defArgs s__law_threes) (defBody s__law_threes) (defScope s__law_threes) .none kV__law_threes dc__law_threes pm__law_threes an__law_threes cd__law_threes ct__law_threes, a__law_names := a__law_names, d__law_names := PySem.W.fnOf "_law_names" "_law_names" (defArgs s__law_names) (defBody s__law_names) (defScope s__law_names) .none kV__law_names dc__law_names pm__law_names an__law_names cd__law_names ct__law_names, a__law_mask := a__law_mask, d__law_mask := PySem.W.fnOf "_law_mask" "_law_mask" (defArgs s__law_mask) (defBody s__law_mask) (defScope s__law_mask) .none kV__law_mask dc__law_mask pm__law_mask an__law_mask cd__law_mask ct__law_mask, a__law_told := a__law_told, d__law_told := PySem.W.fnOf "_law_told" "_law_told" (defArgs s__law_told) (defBody s__law_told) (defScope s__law_told) .none kV__law_told dc__law_told pm__law_told an__law_told cd__law_told ct__law_told, a__law_roots := a__law_roots, d__law_roots := PySem.W.fnOf "_law_roots" "_law_roots" (defArgs s__law_roots) (defBody s__law_roots) (defScope s__law_roots) .none kV__law_roots dc__law_roots pm__law_roots an__law_roots cd__law_roots ct__law_roots, a__law_heard := a__law_heard, d__law_heard := PySem.W.fnOf "_law_heard" "_law_heard" (defArgs s__law_heard) (defBody s__law_heard) (defScope s__law_heard) .none kV__law_heard dc__law_heard pm__law_heard an__law_heard cd__law_heard ct__law_heard, a__law_refused_right := a__law_refused_right, d__law_refused_right := PySem.W.fnOf "_law_refused_right" "_law_refused_right" (defArgs s__law_refused_right) (defBody s__law_refused_right) (defScope s__law_refused_right) .none kV__law_refused_right dc__law_refused_right pm__law_refused_right an__law_refused_right (.ref k__law_refused_right) ct__law_refused_right, a_law := fa, d_law := PySem.W.fnOf "law" "law" (defArgs s_law) (defBody s_law) (defScope s_law) .none kV_law dc_law pm_law an_law cd_law ct_law, C_SightError := C_SightError, C_BadNumber := C_BadNumber, C_BadNames := C_BadNames, I_BadNumber := I_BadNumber, q_BadNumber := q_BadNumber, w_BadNumber := w_BadNumber, I_BadNames := I_BadNames, q_BadNames := q_BadNames, w_BadNames := w_BadNames, k__law_refused_right := k__law_refused_right, t__law_refused_right := t__law_refused_right }
  have T : ∀ base : Heap, (∀ p ∈ ([(k__law_refused_right, t__law_refused_right)] : List (Addr × Addr)), LamX.TabB base mg p.1 p.2) → Txt l.prog base K mg Z := fun base hB => {
    f_is_integer := F_is_integer,
    g_is_integer := g a1_is_integer,
    f_is_within := F_is_within,
    g_is_within := g a1_is_within,
    f_is_listed := F_is_listed,
    g_is_listed := g a1_is_listed,
    f_signs_in := F_signs_in,
    g_signs_in := g a1_signs_in,
    f_names_listed := F_names_listed,
    g_names_listed := g a1_names_listed,
    f_is_name := F_is_name,
    g_is_name := g a1_is_name,
    f_sum_told := F_sum_told,
    g_sum_told := g a1_sum_told,
    f_added := F_added,
    g_added := g a1_added,
    f_sum_in := F_sum_in,
    g_sum_in := g a1_sum_in,
    f_pairs_in := F_pairs_in,
    g_pairs_in := g a1_pairs_in,
    f_threes_in := F_threes_in,
    g_threes_in := g a1_threes_in,
    f_is_root := F_is_root,
    g_is_root := g a1_is_root,
    f_root_told := F_root_told,
    g_root_told := g a1_root_told,
    f_sum_of := F_sum_of,
    g_sum_of := g a1_sum_of,
    f_all_roots := F_all_roots,
    g_all_roots := g a1_all_roots,
    f_pairs_of := F_pairs_of,
    g_pairs_of := g a1_pairs_of,
    f_many_ordered := F_many_ordered,
    g_many_ordered := g a1_many_ordered,
    f__law_pen := F__law_pen,
    g__law_pen := g a1__law_pen,
    f__law_draw := F__law_draw,
    g__law_draw := g a1__law_draw,
    f__law_pick := F__law_pick,
    g__law_pick := g a1__law_pick,
    f__law_pairs := F__law_pairs,
    g__law_pairs := g a1__law_pairs,
    f__law_threes := F__law_threes,
    g__law_threes := g a1__law_threes,
    f__law_names := F__law_names,
    g__law_names := g a1__law_names,
    f__law_mask := F__law_mask,
    g__law_mask := g a1__law_mask,
    f__law_told := F__law_told,
    g__law_told := g a1__law_told,
    f__law_roots := F__law_roots,
    g__law_roots := g a1__law_roots,
    f__law_heard := F__law_heard,
    g__law_heard := g a1__law_heard,
    f__law_refused_right := F__law_refused_right,
    g__law_refused_right := g a1__law_refused_right,
    f_law := F_law,
    g_law := g a1_law,
    c_LAST := ⟨.int 7, _, g v1_LAST, ⟨_, rfl⟩, fun _ _ _ => .int _⟩,
    c_NAMES := ⟨.ref a_NAMES, _, g v1_NAMES, rfl, fun pa Av H => .tup (.inr ⟨_, its_NAMES, cn_NAMES, vl_NAMES, rfl, rfl, vz_NAMES, vq_NAMES⟩) (DRs.ofStrs ["01", "02", "03", "04", "05", "06", "07", "12", "13", "14", "15", "16", "17", "23", "24", "25", "26", "27", "34", "35", "36", "37", "45", "46", "47", "56", "57", "67"])⟩,
    c_MANY := ⟨.int 8, _, g v1_MANY, ⟨_, rfl⟩, fun _ _ _ => .int _⟩,
    c_HALF := ⟨.int 4, _, g v1_HALF, ⟨_, rfl⟩, fun _ _ _ => .int _⟩,
    c_WHOLE := ⟨.int 7, _, g v1_WHOLE, ⟨_, rfl⟩, fun _ _ _ => .int _⟩,
    c_ORDERED := ⟨.ref a_ORDERED, _, g v1_ORDERED, rfl, fun pa Av H => .tup (.inr ⟨_, its_ORDERED, cn_ORDERED, vl_ORDERED, rfl, rfl, vz_ORDERED, vq_ORDERED⟩) (DRs.ofInts [1, 28, 756, 12096, 120960, 725760, 2177280, 1451520])⟩,
    m_SightError := g m1_SightError,
    m_BadNumber := g m1_BadNumber,
    m_BadNames := g m1_BadNames,
    z_BadNumber := z1_BadNumber,
    x_BadNumber := x1_BadNumber,
    e_BadNumber_SightError := e1_BadNumber_SightError,
    k_BadNumber_BadNames := j1_BadNumber_BadNames,
    k_BadNumber_BadNumber := j1_BadNumber_BadNumber,
    z_BadNames := z1_BadNames,
    x_BadNames := x1_BadNames,
    e_BadNames_SightError := e1_BadNames_SightError,
    k_BadNames_BadNames := j1_BadNames_BadNames,
    k_BadNames_BadNumber := j1_BadNames_BadNumber,
    n_abs := z n1_abs,
    n_all := z n1_all,
    n_bool := z n1_bool,
    n_enumerate := z n1_enumerate,
    n_int := z n1_int,
    n_isinstance := z n1_isinstance,
    n_len := z n1_len,
    n_list := z n1_list,
    n_min := z n1_min,
    n_range := z n1_range,
    n_repr := z n1_repr,
    n_set := z n1_set,
    n_sorted := z n1_sorted,
    n_str := z n1_str,
    n_sum := z n1_sum,
    n_super := z n1_super,
    n_tuple := z n1_tuple,
    n_zip := z n1_zip,
    l__law_refused_right := rfl,
    tb__law_refused_right := hB (k__law_refused_right, t__law_refused_right) (by simp),
    tm__law_refused_right := by rw [hT]; simp [Z],
    tu__law_refused_right := by rw [hT]; intro p hp e; simp at hp; obtain rfl := hp; rfl }
  refine ⟨Z.d_law, [(k__law_refused_right, t__law_refused_right)], spLaw K mg, ?_, ?_, ?_, fun s v => .of_eq rfl, fun H a ns hl hb ht hs => ⟨a, ns, rfl, hs, hl, hb, ?_, fun _ => rfl⟩, fun base _ _ hB => ok_law (T base hB) plain⟩
  · intro p hp
    simp only [List.mem_cons, List.not_mem_nil, or_false] at hp
    subst hp
    exact tt__law_refused_right
  · intro p hp
    simp only [List.mem_cons, List.not_mem_nil, or_false] at hp
    subst hp
    exact tn__law_refused_right
  · intro p hp
    simp only [List.mem_cons, List.not_mem_nil, or_false] at hp
    subst hp
    exact PySem.W.codeHd_of_K X th__law_refused_right
  · show LamX.Tabs (tabsOf K mg) H
    rw [hT]
    intro p hp
    simp only [List.mem_cons, List.not_mem_nil, or_false] at hp
    subst hp
    exact LamX.TabS.nil (ht (k__law_refused_right, t__law_refused_right) (by simp))
end Lw
open PySem PySem.W PyProof.Rows
set_option maxRecDepth 100000
set_option maxHeartbeats 0 in
theorem PySem.Challenge.cw_sevensights_k25_sums_of_names_holds : PySem.Challenge.rw_sevensights_k25_sums_of_names.Holds := by
  w_on; o_law; k_head; (case hw => w_witness2)
  k_fill
  refine Dn.walk_G (l := PySem.Challenge.rw_sevensights_k25_sums_of_names) (n := 63) (k := 9) (x := "script") rfl (by decide) rfl ⟨⟨rfl, by decide, by decide⟩, rfl⟩ (fun w h Y => PySem.W.km_in_of Y) ?F
  case F =>
    intro w mg fa h Y KX G hmg
    have hTab := PySem.W.km_tabs_of Y
    refine' Lw.mk Lw.plain KX G hmg ?a1_is_integer ?l1_is_integer ?c1_is_integer ?k1_is_integer ?a1_is_within ?l1_is_within ?c1_is_within ?k1_is_within ?a1_is_listed ?l1_is_listed ?c1_is_listed ?k1_is_listed ?a1_signs_in ?l1_signs_in ?c1_signs_in ?k1_signs_in ?a1_names_listed ?l1_names_listed ?c1_names_listed ?k1_names_listed ?a1_is_name ?l1_is_name ?c1_is_name ?k1_is_name ?a1_sum_told ?l1_sum_told ?c1_sum_told ?k1_sum_told ?a1_added ?l1_added ?c1_added ?k1_added ?a1_sum_in ?l1_sum_in ?c1_sum_in ?k1_sum_in ?a1_pairs_in ?l1_pairs_in ?c1_pairs_in ?k1_pairs_in ?a1_threes_in ?l1_threes_in ?c1_threes_in ?k1_threes_in ?a1_is_root ?l1_is_root ?c1_is_root ?k1_is_root ?a1_root_told ?l1_root_told ?c1_root_told ?k1_root_told ?a1_sum_of ?l1_sum_of ?c1_sum_of ?k1_sum_of ?a1_all_roots ?l1_all_roots ?c1_all_roots ?k1_all_roots ?a1_pairs_of ?l1_pairs_of ?c1_pairs_of ?k1_pairs_of ?a1_many_ordered ?l1_many_ordered ?c1_many_ordered ?k1_many_ordered ?a1__law_pen ?l1__law_pen ?c1__law_pen ?k1__law_pen ?a1__law_draw ?l1__law_draw ?c1__law_draw ?k1__law_draw ?a1__law_pick ?l1__law_pick ?c1__law_pick ?k1__law_pick ?a1__law_pairs ?l1__law_pairs ?c1__law_pairs ?k1__law_pairs ?a1__law_threes ?l1__law_threes ?c1__law_threes ?k1__law_threes ?a1__law_names ?l1__law_names ?c1__law_names ?k1__law_names ?a1__law_mask ?l1__law_mask ?c1__law_mask ?k1__law_mask ?a1__law_told ?l1__law_told ?c1__law_told ?k1__law_told ?a1__law_roots ?l1__law_roots ?c1__law_roots ?k1__law_roots ?a1__law_heard ?l1__law_heard ?c1__law_heard ?k1__law_heard ?a1__law_refused_right ?l1__law_refused_right ?c1__law_refused_right ?k1__law_refused_right ?tb__law_refused_right ?tn__law_refused_right ?th__law_refused_right ?tt__law_refused_right ?a1_law ?l1_law ?c1_law ?k1_law ?v1_LAST ?v1_NAMES ?vl_NAMES ?vz_NAMES ?vq_NAMES ?v1_MANY ?v1_HALF ?v1_WHOLE ?v1_ORDERED ?vl_ORDERED ?vz_ORDERED ?vq_ORDERED ?m1_SightError ?m1_BadNumber ?m1_BadNames ?z1_BadNumber ?x1_BadNumber ?e1_BadNumber_SightError ?j1_BadNumber_BadNames ?j1_BadNumber_BadNumber ?z1_BadNames ?x1_BadNames ?e1_BadNames_SightError ?j1_BadNames_BadNames ?j1_BadNames_BadNumber ?n1_abs ?n1_all ?n1_bool ?n1_enumerate ?n1_int ?n1_isinstance ?n1_len ?n1_list ?n1_min ?n1_range ?n1_repr ?n1_set ?n1_sorted ?n1_str ?n1_sum ?n1_super ?n1_tuple ?n1_zip
    (case a1_is_integer => k_is)
    (case l1_is_integer => k_is)
    (case c1_is_integer => k_is)
    (case k1_is_integer => k_is)
    (case a1_is_within => k_is)
    (case l1_is_within => k_is)
    (case c1_is_within => k_is)
    (case k1_is_within => k_is)
    (case a1_is_listed => k_is)
    (case l1_is_listed => k_is)
    (case c1_is_listed => k_is)
    (case k1_is_listed => k_is)
    (case a1_signs_in => k_is)
    (case l1_signs_in => k_is)
    (case c1_signs_in => k_is)
    (case k1_signs_in => k_is)
    (case a1_names_listed => k_is)
    (case l1_names_listed => k_is)
    (case c1_names_listed => k_is)
    (case k1_names_listed => k_is)
    (case a1_is_name => k_is)
    (case l1_is_name => k_is)
    (case c1_is_name => k_is)
    (case k1_is_name => k_is)
    (case a1_sum_told => k_is)
    (case l1_sum_told => k_is)
    (case c1_sum_told => k_is)
    (case k1_sum_told => k_is)
    (case a1_added => k_is)
    (case l1_added => k_is)
    (case c1_added => k_is)
    (case k1_added => k_is)
    (case a1_sum_in => k_is)
    (case l1_sum_in => k_is)
    (case c1_sum_in => k_is)
    (case k1_sum_in => k_is)
    (case a1_pairs_in => k_is)
    (case l1_pairs_in => k_is)
    (case c1_pairs_in => k_is)
    (case k1_pairs_in => k_is)
    (case a1_threes_in => k_is)
    (case l1_threes_in => k_is)
    (case c1_threes_in => k_is)
    (case k1_threes_in => k_is)
    (case a1_is_root => k_is)
    (case l1_is_root => k_is)
    (case c1_is_root => k_is)
    (case k1_is_root => k_is)
    (case a1_root_told => k_is)
    (case l1_root_told => k_is)
    (case c1_root_told => k_is)
    (case k1_root_told => k_is)
    (case a1_sum_of => k_is)
    (case l1_sum_of => k_is)
    (case c1_sum_of => k_is)
    (case k1_sum_of => k_is)
    (case a1_all_roots => k_is)
    (case l1_all_roots => k_is)
    (case c1_all_roots => k_is)
    (case k1_all_roots => k_is)
    (case a1_pairs_of => k_is)
    (case l1_pairs_of => k_is)
    (case c1_pairs_of => k_is)
    (case k1_pairs_of => k_is)
    (case a1_many_ordered => k_is)
    (case l1_many_ordered => k_is)
    (case c1_many_ordered => k_is)
    (case k1_many_ordered => k_is)
    (case a1__law_pen => k_is)
    (case l1__law_pen => k_is)
    (case c1__law_pen => k_is)
    (case k1__law_pen => k_is)
    (case a1__law_draw => k_is)
    (case l1__law_draw => k_is)
    (case c1__law_draw => k_is)
    (case k1__law_draw => k_is)
    (case a1__law_pick => k_is)
    (case l1__law_pick => k_is)
    (case c1__law_pick => k_is)
    (case k1__law_pick => k_is)
    (case a1__law_pairs => k_is)
    (case l1__law_pairs => k_is)
    (case c1__law_pairs => k_is)
    (case k1__law_pairs => k_is)
    (case a1__law_threes => k_is)
    (case l1__law_threes => k_is)
    (case c1__law_threes => k_is)
    (case k1__law_threes => k_is)
    (case a1__law_names => k_is)
    (case l1__law_names => k_is)
    (case c1__law_names => k_is)
    (case k1__law_names => k_is)
    (case a1__law_mask => k_is)
    (case l1__law_mask => k_is)
    (case c1__law_mask => k_is)
    (case k1__law_mask => k_is)
    (case a1__law_told => k_is)
    (case l1__law_told => k_is)
    (case c1__law_told => k_is)
    (case k1__law_told => k_is)
    (case a1__law_roots => k_is)
    (case l1__law_roots => k_is)
    (case c1__law_roots => k_is)
    (case k1__law_roots => k_is)
    (case a1__law_heard => k_is)
    (case l1__law_heard => k_is)
    (case c1__law_heard => k_is)
    (case k1__law_heard => k_is)
    (case a1__law_refused_right => k_is)
    (case l1__law_refused_right => k_is)
    (case c1__law_refused_right => k_is)
    (case k1__law_refused_right => k_is)
    (case tb__law_refused_right => kernel_rfl)
    (case tn__law_refused_right => kernel_rfl)
    (case th__law_refused_right => kernel_rfl)
    (case tt__law_refused_right => exact hTab _ (by first | decide | k_mem))
    (case a1_law => k_is)
    (case l1_law => k_is)
    (case c1_law => k_is)
    (case k1_law => k_is)
    (case v1_LAST => k_is)
    (case v1_NAMES => k_is)
    (case vl_NAMES => k_is)
    (case vz_NAMES => first | decide | exact Nat.le_of_ble_eq_true rfl)
    (case vq_NAMES => repeat' (first | exact .nil | refine .cons ⟨_, rfl⟩ ?_))
    (case v1_MANY => k_is)
    (case v1_HALF => k_is)
    (case v1_WHOLE => k_is)
    (case v1_ORDERED => k_is)
    (case vl_ORDERED => k_is)
    (case vz_ORDERED => first | decide | exact Nat.le_of_ble_eq_true rfl)
    (case vq_ORDERED => repeat' (first | exact .nil | refine .cons ⟨_, rfl⟩ ?_))
    (case m1_SightError => k_is)
    (case m1_BadNumber => k_is)
    (case m1_BadNames => k_is)
    (case z1_BadNumber =>
      refine' Dn.rz_mk ?r0 ?r1 ?r2 ?r3 ?r4 ?r5 ?r6 ?r7 ?r8 ?r9 ?r10 ?r11 ?r12 ?r13 ?r14 ?r15 ?r16 ?r17 ?r18 ?r19 ?r20 ?r21 ?r22 ?r23
      (case r0 => k_is)
      (case r1 => kernel_rfl)
      (case r2 => k_is)
      (case r3 => k_is)
      (case r4 => k_is)
      (case r5 => k_is)
      (case r6 => k_is)
      (case r7 => k_is)
      (case r8 => k_is)
      (case r9 => k_is)
      (case r10 => k_is)
      (case r11 => first | rfl | k_is)
      (case r12 => kernel_rfl)
      (case r13 => k_is)
      (case r14 => exact fun env => ⟨_, rfl⟩)
      (case r15 => rfl)
      (case r16 => intros; rfl)
      (case r17 => exact ⟨rfl, rfl, rfl, rfl, rfl, rfl, rfl, rfl⟩)
      (case r18 => kernel_rfl)
      (case r19 => k_is)
      (case r20 => k_is)
      (case r21 => k_is)
      (case r22 => k_is)
      (case r23 => kernel_rfl))
    (case x1_BadNumber => exact ⟨by k_is, by k_is, by k_is, by k_is, by k_is, by k_is, by k_is, by k_is⟩)
    (case e1_BadNumber_SightError => kernel_rfl)
    (case j1_BadNumber_BadNames => kernel_rfl)
    (case j1_BadNumber_BadNumber => kernel_rfl)
    (case z1_BadNames =>
      refine' Dn.rz_mk ?r0 ?r1 ?r2 ?r3 ?r4 ?r5 ?r6 ?r7 ?r8 ?r9 ?r10 ?r11 ?r12 ?r13 ?r14 ?r15 ?r16 ?r17 ?r18 ?r19 ?r20 ?r21 ?r22 ?r23
      (case r0 => k_is)
      (case r1 => kernel_rfl)
      (case r2 => k_is)
      (case r3 => k_is)
      (case r4 => k_is)
      (case r5 => k_is)
      (case r6 => k_is)
      (case r7 => k_is)
      (case r8 => k_is)
      (case r9 => k_is)
      (case r10 => k_is)
      (case r11 => first | rfl | k_is)
      (case r12 => kernel_rfl)
      (case r13 => k_is)
      (case r14 => exact fun env => ⟨_, rfl⟩)
      (case r15 => rfl)
      (case r16 => intros; rfl)
      (case r17 => exact ⟨rfl, rfl, rfl, rfl, rfl, rfl, rfl, rfl⟩)
      (case r18 => kernel_rfl)
      (case r19 => k_is)
      (case r20 => k_is)
      (case r21 => k_is)
      (case r22 => k_is)
      (case r23 => kernel_rfl))
    (case x1_BadNames => exact ⟨by k_is, by k_is, by k_is, by k_is, by k_is, by k_is, by k_is, by k_is⟩)
    (case e1_BadNames_SightError => kernel_rfl)
    (case j1_BadNames_BadNames => kernel_rfl)
    (case j1_BadNames_BadNumber => kernel_rfl)
    (case n1_abs => k_is)
    (case n1_all => k_is)
    (case n1_bool => k_is)
    (case n1_enumerate => k_is)
    (case n1_int => k_is)
    (case n1_isinstance => k_is)
    (case n1_len => k_is)
    (case n1_list => k_is)
    (case n1_min => k_is)
    (case n1_range => k_is)
    (case n1_repr => k_is)
    (case n1_set => k_is)
    (case n1_sorted => k_is)
    (case n1_str => k_is)
    (case n1_sum => k_is)
    (case n1_super => k_is)
    (case n1_tuple => k_is)
    (case n1_zip => k_is)
end
