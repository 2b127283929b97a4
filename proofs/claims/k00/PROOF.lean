import PyProof.Rows.All
import HandS.ForMost
import HandS.Walk
import HandS.Wide
import HandS.Exc
import HandS.ExcOwn
import HandS.WordsExc
import HandS.IsInst
import HandS.TupAny
import HandS.Conv
import PySem.Fast.Str
import KE.KDictCopyH
import KE.KDictKeyed
import PyProof.SetNew
import PyProof.SetRoads
import HandS.CallSlots
import HandS.Deep
import HandS.Text
import HandS.RaiseMore
import HandS.TupMul
import HandS.Flow
import KE.GoesMore
import KE.GoesEnum
import PyProof.P3In
import HandS.Style
import PyProof.Rows.RegStrFacts
import HandS.SetBool
import HandS.More
import HandS.ExcValue
import HandS.ExcIs
import HandS.ExcField
import HandS.TryMany
import KE.KExcInit
import KE.KExcSuper
import KE.KExcIs
import HandS.ExcSuper
import KE.KTryMore
import Wide.All
import OpenK.AllK
import Wide.FinOn
import PySem.Challenge.RW_shelfroutes_k00_errors_and_their_classes
set_option Elab.async false
set_option linter.all false
set_option maxRecDepth 100000
namespace FL
open PySem PySem.Spec PyProof.Rows L2

/-! ### values as trees; ob n: the n-th thing that may change -/
inductive D where
  | non | bl (b : Bool) | int (i : Int) | str (x : Str) | ty (n : String) | glb (a : Addr)
  | tup (ws : List D) | lst (ws : List D) | dct (kvs : List (D × D)) | set (ws : List D) | ob (n : Nat)
  deriving Inhabited
inductive MO where
  | lst (ws : List D) | dct (kvs : List (D × D)) | ins (C : Addr) (fs : List (Str × D)) | exc (c : Str) (fs : List (Str × D)) | dead
  deriving Inhabited
abbrev MH := List MO
abbrev Frg := PySem.W.Frag
/-- where a tree is told: the program, the world, the written part -/
structure Ctx where
  P : Program
  w : World
  K : Frg
end FL
abbrev L2.Cx.cx (X : L2.Cx) : FL.Ctx := ⟨X.prog, X.w, X.K⟩
namespace FL
open PySem PySem.Spec PyProof.Rows L2

/-- a list that no one changes any more -/
def LstF (K : Ctx) (H : Hp) (a : Addr) (xs : List V) : Prop :=
  (∃ o, H a = some (.frz o (.lst xs))) ∨
    ∃ (its : List Value) (n : Nat), K.K.lookup a = some { cls := .type "list", data := .seq its.toArray n } ∧ its.length ≤ sizeLine ∧ Vals xs its
theorem LstF.seq {K : Ctx} {H : Hp} {a : Addr} {xs : List V} (h : LstF K H a xs) : SqL K.K H a xs := by
  rcases h with h | ⟨its, n, h1, h2, h3⟩
  · exact .inl (.inr h)
  · exact .inr ⟨_, its.toArray, n, h1, rfl, rfl, rfl, by simpa using h2, by simpa using h3⟩
def LstX (K : Ctx) (H : Hp) (a : Addr) (xs : List V) : Prop := H a = some (.lst xs) ∨ LstF K H a xs
theorem LstX.at {X : Cx} {pins : List (Addr × Obj)} {σ : L2.St} {H : Hp} {s : Shared} {a : Addr} {xs : List V} (I : Inv X pins σ H s) (h : LstX X.cx H a xs) :
    ∃ (its : List Value) (n : Nat), Vals xs its ∧ s.heap.get? a = some { cls := .type "list", data := .seq its.toArray n } ∧ xs.length ≤ sizeLine := by
  rcases h with h | ⟨o, h⟩ | ⟨its, n, h1, h2, h3⟩
  · obtain ⟨z, its, n, r, e⟩ := I.hok a _ h
    exact ⟨its, n, r, e, z⟩
  · obtain ⟨_, z, its, n, r, e⟩ := I.hok a _ h
    exact ⟨its, n, r, e, z⟩
  · exact ⟨its, n, h3, I.kIn a _ h1, by rw [h3.length]; exact h2⟩
/-- a key that is carried by value -/
def leafOf : D → Option Leaf
  | .non => some .none
  | .bl b => some (.num (if b then 1 else 0))
  | .int i => some (.num i)
  | .str x => some (.text x)
  | _ => none
/-- a dict's object: its entries are those of vs -/
def DOk (P : Program) (w : World) (o : Obj) (es : List DictEntry) (vs : List (Leaf × Value)) : Prop :=
  ∃ n : Nat, o.ExactDict ∧ o.data = .dict es.toArray n ∧ es.length ≤ sizeLine ∧ KeysOf (leafKind P w) es.toArray ∧ Pairs (leafKind P w) es vs ∧ (vs.map (·.1)).Nodup
/-- a dict that no one changes any more -/
def DctF (K : Ctx) (H : Hp) (a : Addr) (es : List DictEntry) (vs : List (Leaf × Value)) : Prop :=
  a ≠ sysModules ∧ ∃ o : Obj, ((∃ u, H a = some (.frz o u)) ∨ K.K.lookup a = some o) ∧ DOk K.P K.w o es vs

/-- a set's object: its elements are ws, in some order -/
def SetOk (P : Program) (w : World) (o : Obj) (ws : List D) : Prop :=
  ∃ (es : Array (Int × Value)) (ep : Nat) (t : SetTable), o.ExactSet ∧ o.data = .set es ep t ∧ ElemsOf (leafKind P w) es.toList ∧ (∀ k : Leaf, some k ∈ ws.map leafOf ↔ ∃ e ∈ es.toList, (leafKind P w).is k e.2 = true) ∧
    es.size < scanBound ∧ t.fits es.size = true ∧ es.size = ws.length ∧ (ws.map leafOf).Nodup ∧ (∀ d ∈ ws, (leafOf d).isSome = true)
def SetF (K : Ctx) (H : Hp) (a : Addr) (ws : List D) : Prop := ∃ (o : Obj) (u : HO), H a = some (.frz o u) ∧ SetOk K.P K.w o ws
mutual
inductive RelD (K : Ctx) (H : Hp) (ι : List Addr) : D → V → Prop
  | non : RelD K H ι .non .non
  | bl (b : Bool) : RelD K H ι (.bl b) (.bl b)
  | int (i : Int) : RelD K H ι (.int i) (.int i)
  | str (x : Str) : RelD K H ι (.str x) (.str x)
  | ty (n : String) : RelD K H ι (.ty n) (.ty n)
  | glb (a : Addr) : RelD K H ι (.glb a) (.ref a)
  | tup {a : Addr} {ws : List D} {vs : List V} : SqT K.K H a vs → RelDs K H ι ws vs → RelD K H ι (.tup ws) (.ref a)
  | lst {a : Addr} {ws : List D} {vs : List V} : LstF K H a vs → RelDs K H ι ws vs → RelD K H ι (.lst ws) (.ref a)
  | dct {a : Addr} {kvs : List (D × D)} {es : List DictEntry} {vs : List (Leaf × Value)} : DctF K H a es vs → RelE K H ι kvs es → kvs.map (fun p => leafOf p.1) = vs.map (fun p => some p.1) → RelD K H ι (.dct kvs) (.ref a)
  | set {a : Addr} {ws : List D} : SetF K H a ws → RelD K H ι (.set ws) (.ref a)
  | ob {n : Nat} {a : Addr} : ι[n]? = some a → RelD K H ι (.ob n) (.ref a)
inductive RelDs (K : Ctx) (H : Hp) (ι : List Addr) : List D → List V → Prop
  | nil : RelDs K H ι [] []
  | cons {w : D} {v : V} {ws : List D} {vs : List V} : RelD K H ι w v → RelDs K H ι ws vs → RelDs K H ι (w :: ws) (v :: vs)
inductive RelE (K : Ctx) (H : Hp) (ι : List Addr) : List (D × D) → List DictEntry → Prop
  | nil : RelE K H ι [] []
  | cons {k x : D} {kv xv : V} {e : DictEntry} {kvs : List (D × D)} {es : List DictEntry} : RelD K H ι k kv → RelV kv e.key → RelD K H ι x xv → RelV xv e.val → RelE K H ι kvs es → RelE K H ι ((k, x) :: kvs) (e :: es)
end

/-- how a heap may go on -/
structure Ext (H : Hp) (ι : List Addr) (H' : Hp) (ι' : List Addr) : Prop where
  pre : ι <+: ι'
  fresh : ∀ a ∈ ι', a ∈ ι ∨ H a = none
  frame : ∀ a o, H a = some o → a ∉ ι → H' a = some o
  tups : ∀ a xs, H a = some (.tup xs) → H' a = some (.tup xs)
  frzs : ∀ a o u, H a = some (.frz o u) → H' a = some (.frz o u)
theorem Ext.refl (H : Hp) (ι : List Addr) : Ext H ι H ι := ⟨List.prefix_refl _, fun _ h => .inl h, fun _ _ h _ => h, fun _ _ h => h, fun _ _ _ h => h⟩
theorem Ext.trans {H H1 H2 : Hp} {ι ι1 ι2 : List Addr} (a : Ext H ι H1 ι1) (b : Ext H1 ι1 H2 ι2) : Ext H ι H2 ι2 where
  pre := a.pre.trans b.pre
  fresh := fun x hx => by
    rcases b.fresh x hx with h | h
    · exact a.fresh x h
    · by_cases hi : x ∈ ι
      · exact .inl hi
      · refine .inr ?_
        cases q : H x with
        | none => rfl
        | some o => rw [a.frame x o q hi] at h; cases h
  frame := fun x o h hx => by
    refine b.frame x o (a.frame x o h hx) fun z => ?_
    rcases a.fresh x z with z2 | z2
    · exact hx z2
    · rw [h] at z2; cases z2
  tups := fun x xs h => b.tups x xs (a.tups x xs h)
  frzs := fun x o u h => b.frzs x o u (a.frzs x o u h)
theorem pre_get {ι ι' : List Addr} (p : ι <+: ι') {n : Nat} {a : Addr} (h : ι[n]? = some a) : ι'[n]? = some a := by
  obtain ⟨t, rfl⟩ := p
  obtain ⟨h1, h2⟩ := List.getElem?_eq_some_iff.mp h
  rw [List.getElem?_append_left h1, h]
theorem Ext.sqT {K : Ctx} {H H' : Hp} {ι ι' : List Addr} (e : Ext H ι H' ι') {a : Addr} {xs : List V} (h : SqT K.K H a xs) : SqT K.K H' a xs := by
  rcases h with (h | ⟨o, h⟩) | h
  · exact .inl (.inl (e.tups _ _ h))
  · exact .inl (.inr ⟨o, e.frzs _ _ _ h⟩)
  · exact .inr h
theorem Ext.lstF {K : Ctx} {H H' : Hp} {ι ι' : List Addr} (e : Ext H ι H' ι') {a : Addr} {xs : List V} (h : LstF K H a xs) : LstF K H' a xs := by
  rcases h with ⟨o, h⟩ | h
  · exact .inl ⟨o, e.frzs _ _ _ h⟩
  · exact .inr h
theorem Ext.dctF {K : Ctx} {H H' : Hp} {ι ι' : List Addr} (e : Ext H ι H' ι') {a : Addr} {es : List DictEntry} {vs : List (Leaf × Value)} (h : DctF K H a es vs) : DctF K H' a es vs := by
  obtain ⟨ne, o, h, r⟩ := h
  rcases h with ⟨u, h⟩ | h
  · exact ⟨ne, o, .inl ⟨u, e.frzs _ _ _ h⟩, r⟩
  · exact ⟨ne, o, .inr h, r⟩
theorem Ext.setF {K : Ctx} {H H' : Hp} {ι ι' : List Addr} (e : Ext H ι H' ι') {a : Addr} {ws : List D} (h : SetF K H a ws) : SetF K H' a ws := by
  obtain ⟨o, u, h, r⟩ := h
  exact ⟨o, u, e.frzs _ _ _ h, r⟩
section
variable {K : Ctx} {H H' : Hp} {ι ι' : List Addr}
mutual
theorem RelD.ext (e : Ext H ι H' ι') : ∀ {w : D} {v : V}, RelD K H ι w v → RelD K H' ι' w v
  | _, _, .non => .non
  | _, _, .bl b => .bl b
  | _, _, .int b => .int b
  | _, _, .str b => .str b
  | _, _, .ty b => .ty b
  | _, _, .glb b => .glb b
  | _, _, .tup h r => .tup (e.sqT h) (RelDs.ext e r)
  | _, _, .lst h r => .lst (e.lstF h) (RelDs.ext e r)
  | _, _, .dct h r z => .dct (e.dctF h) (RelE.ext e r) z
  | _, _, .set h => .set (e.setF h)
  | _, _, .ob h => .ob (pre_get e.pre h)
theorem RelDs.ext (e : Ext H ι H' ι') : ∀ {w : List D} {v : List V}, RelDs K H ι w v → RelDs K H' ι' w v
  | _, _, .nil => .nil
  | _, _, .cons h r => .cons (RelD.ext e h) (RelDs.ext e r)
theorem RelE.ext (e : Ext H ι H' ι') : ∀ {w : List (D × D)} {v : List DictEntry}, RelE K H ι w v → RelE K H' ι' w v
  | _, _, .nil => .nil
  | _, _, .cons h1 h2 h3 h4 r => .cons (RelD.ext e h1) h2 (RelD.ext e h3) h4 (RelE.ext e r)
end
theorem RelDs.length : ∀ {w : List D} {v : List V}, RelDs K H ι w v → v.length = w.length
  | _, _, .nil => rfl
  | _, _, .cons _ r => by simp [RelDs.length r]
theorem RelDs.get : ∀ {ws : List D} {vs : List V} {i : Nat} {w : D}, RelDs K H ι ws vs → ws[i]? = some w → ∃ v, vs[i]? = some v ∧ RelD K H ι w v
  | _, _, _, _, .nil, e => by simp at e
  | _, _, 0, _, .cons r _, e => by simp at e; subst e; exact ⟨_, rfl, r⟩
  | _, _, i + 1, _, .cons _ r, e => RelDs.get (i := i) r (by simpa using e)
theorem RelDs.get' : ∀ {ws : List D} {vs : List V} {i : Nat} {v : V}, RelDs K H ι ws vs → vs[i]? = some v → ∃ w, ws[i]? = some w ∧ RelD K H ι w v
  | _, _, _, _, .nil, e => by simp at e
  | _, _, 0, _, .cons r _, e => by simp at e; subst e; exact ⟨_, rfl, r⟩
  | _, _, i + 1, _, .cons _ r, e => RelDs.get' (i := i) r (by simpa using e)
theorem RelDs.append : ∀ {ws xs : List D} {vs us : List V}, RelDs K H ι ws vs → RelDs K H ι xs us → RelDs K H ι (ws ++ xs) (vs ++ us)
  | _, _, _, _, .nil, s => s
  | _, _, _, _, .cons r t, s => .cons r (RelDs.append t s)
theorem RelDs.take : ∀ {ws : List D} {vs : List V} (n : Nat), RelDs K H ι ws vs → RelDs K H ι (ws.take n) (vs.take n)
  | _, _, 0, _ => .nil
  | _, _, _ + 1, .nil => .nil
  | _, _, n + 1, .cons r t => .cons r (RelDs.take n t)
theorem RelDs.drop : ∀ {ws : List D} {vs : List V} (n : Nat), RelDs K H ι ws vs → RelDs K H ι (ws.drop n) (vs.drop n)
  | _, _, 0, r => r
  | _, _, _ + 1, .nil => .nil
  | _, _, n + 1, .cons _ t => RelDs.drop n t
theorem RelDs.set {w : D} {v : V} (r : RelD K H ι w v) : ∀ {ws : List D} {vs : List V} (i : Nat), RelDs K H ι ws vs → RelDs K H ι (ws.set i w) (vs.set i v)
  | _, _, _, .nil => .nil
  | _, _, 0, .cons _ t => .cons r t
  | _, _, i + 1, .cons q t => .cons q (RelDs.set r i t)
theorem RelDs.eraseIdx : ∀ {ws : List D} {vs : List V} (i : Nat), RelDs K H ι ws vs → RelDs K H ι (ws.eraseIdx i) (vs.eraseIdx i)
  | _, _, _, .nil => .nil
  | _, _, 0, .cons _ t => t
  | _, _, i + 1, .cons q t => .cons q (RelDs.eraseIdx i t)
theorem RelDs.reverse : ∀ {ws : List D} {vs : List V}, RelDs K H ι ws vs → RelDs K H ι ws.reverse vs.reverse
  | _, _, .nil => .nil
  | _, _, .cons q t => by
    rw [List.reverse_cons, List.reverse_cons]
    exact (RelDs.reverse t).append (.cons q .nil)
/-- what a dict holds at a key -/
def lookD (kvs : List (D × D)) (x : Leaf) : Option D := (kvs.find? fun p => decide (leafOf p.1 = some x)).map (·.2)
theorem RelE.look {P : Program} {w : World} {x : Leaf} : ∀ {kvs : List (D × D)} {es : List DictEntry} {vs : List (Leaf × Value)}, RelE K H ι kvs es → Pairs (leafKind P w) es vs → kvs.map (fun p => leafOf p.1) = vs.map (fun p => some p.1) →
    (lookD kvs x = none ∧ valueAt vs x = none) ∨ ∃ d u v, lookD kvs x = some d ∧ valueAt vs x = some u ∧ RelD K H ι d v ∧ RelV v u
  | _, _, _, .nil, .nil, _ => .inl ⟨rfl, rfl⟩
  | _, _, _, .cons (k := k) (x := xd) (kvs := kvs) r1 q1 r2 q2 r3, .cons (kv := kv) (kvs := vs) p1 p2 p3, h => by
    have h1 : leafOf k = some kv.1 := (List.cons.inj h).1
    have h2 := (List.cons.inj h).2
    by_cases e : kv.1 = x
    · have e1 : lookD ((k, xd) :: kvs) x = some xd := by
        unfold lookD
        rw [List.find?_cons_of_pos (by rw [h1, e]; exact decide_eq_true rfl)]
        rfl
      have e2 : valueAt (kv :: vs) x = some kv.2 := by
        unfold valueAt
        rw [List.find?_cons_of_pos (by exact decide_eq_true e)]
        rfl
      exact .inr ⟨xd, kv.2, _, e1, e2, r2, p2 ▸ q2⟩
    · have e1 : lookD ((k, xd) :: kvs) x = lookD kvs x := by
        unfold lookD
        rw [List.find?_cons_of_neg (by rw [h1]; simpa using e)]
      have e2 : valueAt (kv :: vs) x = valueAt vs x := by
        unfold valueAt
        rw [List.find?_cons_of_neg (by simpa using e)]
      rw [e1, e2]
      exact RelE.look r3 p3 h2
theorem RelE.length : ∀ {w : List (D × D)} {v : List DictEntry}, RelE K H ι w v → v.length = w.length
  | _, _, .nil => rfl
  | _, _, .cons _ _ _ _ r => by simp [RelE.length r]
end

/-! ### own exceptions, made and not raised -/
/-- a class by the module's name of it -/
def ClsN (K : Frg) (c : Str) (cv : Value) : Prop := PySem.W.nsIn K mainGlobals c = some (some cv) ∨ (PySem.W.nsIn K mainGlobals c = some none ∧ bootBuiltins c = some cv)
theorem ClsN.eq {K : Frg} {c : Str} {u v : Value} (a : ClsN K c u) (b : ClsN K c v) : u = v := by
  rcases a with a | ⟨a, a'⟩ <;> rcases b with b | ⟨b, b'⟩
  · rw [a] at b; cases b; rfl
  · rw [a] at b; cases b
  · rw [a] at b; cases b
  · rw [a'] at b'; cases b'; rfl
abbrev xobj (C t : Addr) (d : Option Addr) : Obj := { cls := .ref C, dict := d, data := .fields #[.ref t, .none, .none, .none, .bool false, .none] }
def XO (C : Addr) (d : Option Addr) (a : Addr) : HO := .ext fun h => ∃ t : Addr, h.get? a = some (xobj C t d)
/-- its own dict -/
def XD (H : Hp) (ι : List Addr) (d : Option Addr) (fs : List (Str × V)) : Prop := (fs = [] ∧ d = none) ∨ ∃ d', d = some d' ∧ d' ∉ ι ∧ H d' = some (.xd fs)
theorem XD.go {H H' : Hp} {ι ι' : List Addr} {d : Option Addr} {fs : List (Str × V)} (q : XD H ι d fs) (h : ∀ d', H d' = some (.xd fs) → d' ∉ ι → H' d' = some (.xd fs) ∧ d' ∉ ι') : XD H' ι' d fs := by
  rcases q with q | ⟨d', e, n, r⟩
  · exact .inl q
  · exact .inr ⟨d', e, (h d' r n).2, (h d' r n).1⟩
theorem XD.ext {H H' : Hp} {ι ι' : List Addr} {d : Option Addr} {fs : List (Str × V)} (q : XD H ι d fs) (x : Ext H ι H' ι') : XD H' ι' d fs :=
  q.go fun d' r n => ⟨x.frame _ _ r n, fun z => by
    rcases x.fresh _ z with z | z
    · exact n z
    · rw [r] at z; cases z⟩
/-! ### the things that may change -/
def RelO (K : Ctx) (H : Hp) (ι : List Addr) (a : Addr) : MO → Prop
  | .lst ws => ∃ vs, H a = some (.lst vs) ∧ RelDs K H ι ws vs
  | .dct _ => False
  | .ins C fs => ∃ dx vs, H a = some (.ins C dx (fs.map (·.1) |>.zip vs)) ∧ RelDs K H ι (fs.map (·.2)) vs
  | .exc c fs => ∃ d vs, (∃ C, ClsN K.K c (.ref C) ∧ H a = some (XO C d a)) ∧ XD H ι d ((fs.map (·.1)).zip vs) ∧ RelDs K H ι (fs.map (·.2)) vs
  | .dead => True
structure MemD (K : Ctx) (H : Hp) (ι : List Addr) (M : MH) : Prop where
  len : ι.length = M.length
  nd : ι.Nodup
  obj : ∀ (n : Nat) (mo : MO) (a : Addr), M[n]? = some mo → ι[n]? = some a → RelO K H ι a mo
  there : ∀ (n : Nat) (a : Addr), ι[n]? = some a → ∃ o, H a = some o
abbrev DSt := List (Option D)
def RelS (K : Ctx) (H : Hp) (ι : List Addr) (σ : L2.St) (ρ : DSt) : Prop := ρ.length = σ.length ∧ ∀ (i : Nat) (w : D), ρ[i]? = some (some w) → ∃ v, σ[i]? = some (some v) ∧ RelD K H ι w v
theorem RelS.ext {K : Ctx} {H H' : Hp} {ι ι' : List Addr} (e : Ext H ι H' ι') {σ : L2.St} {ρ : DSt} (r : RelS K H ι σ ρ) : RelS K H' ι' σ ρ := ⟨r.1, fun i w h => by
  obtain ⟨v, h1, h2⟩ := r.2 i w h
  exact ⟨v, h1, h2.ext e⟩⟩

/-! ### results -/
inductive Res (α : Type) where
  | ok (a : α) (M : MH)
  | exc (c : Str) (fs : List (Str × D)) (M : MH)
  | stuck
abbrev Ev (α : Type) := DSt → MH → Res α
def Res.bind {α β : Type} (r : Res α) (f : α → MH → Res β) : Res β := match r with
  | .ok a M => f a M
  | .exc c fs M => .exc c fs M
  | .stuck => .stuck
def Ev.bind {α β : Type} (f : Ev α) (g : α → Ev β) : Ev β := fun ρ M => (f ρ M).bind fun a M1 => g a ρ M1
def Ev.ret {α : Type} (a : α) : Ev α := fun _ M => .ok a M
@[simp] theorem Res.bind_ok {α β : Type} (a : α) (M : MH) (f : α → MH → Res β) : (Res.ok a M).bind f = f a M := rfl
@[simp] theorem Res.bind_stuck {α β : Type} (f : α → MH → Res β) : (Res.stuck : Res α).bind f = .stuck := rfl
@[simp] theorem Res.bind_exc {α β : Type} (c : Str) (fs : List (Str × D)) (M : MH) (f : α → MH → Res β) : (Res.exc c fs M : Res α).bind f = .exc c fs M := rfl

/-- what is wanted of an exception: its class, its own dict and fields -/
def ExcW (K : Ctx) (H : Hp) (ι : List Addr) (c : Str) (fs : List (Str × D)) (M : MH) (W : Value → Option Addr → Hp → Prop) : Prop :=
  ∀ (cv : Value), ClsN K.K c cv → ∀ (d : Option Addr) (H' : Hp) (ι' : List Addr), Ext H ι H' ι' → MemD K H' ι' M →
    (fs ≠ [] → ∃ d' vs, d = some d' ∧ H' d' = some (.xd ((fs.map (·.1)).zip vs)) ∧ RelDs K H' ι' (fs.map (·.2)) vs) → W cv d H'
/-- what a result promises, from (H, ι) on -/
def Good {α : Type} (K : Ctx) (H : Hp) (ι : List Addr) (R : α → MH → Hp → List Addr → Prop) (W : Value → Option Addr → Hp → Prop) : Res α → Prop
  | .ok a M => ∀ H' ι', Ext H ι H' ι' → MemD K H' ι' M → R a M H' ι'
  | .exc c fs M => ExcW K H ι c fs M W
  | .stuck => False
theorem Good.ext {α : Type} {K : Ctx} {H H1 : Hp} {ι ι1 : List Addr} {R : α → MH → Hp → List Addr → Prop} {W : Value → Option Addr → Hp → Prop} {r : Res α} (e : Ext H ι H1 ι1) (g : Good K H ι R W r) : Good K H1 ι1 R W r := by
  cases r with
  | ok a M => exact fun H' ι' e' m => g H' ι' (e.trans e') m
  | exc c fs M => exact fun cv hv d H' ι' e' m h => g cv hv d H' ι' (e.trans e') m h
  | stuck => exact g

/-! ### readings of expressions, tests, arguments -/
def TD (K : Ctx) (Wx : WX) (f : Ev D) : TE := fun σ H Q => ∃ (ρ : DSt) (M : MH) (ι : List Addr), RelS K H ι σ ρ ∧ MemD K H ι M ∧
  Good K H ι (fun w _ H' ι' => ∀ v, RelD K H' ι' w v → Q v H') (fun c d H' => Wx c d σ H') (f ρ M)
def TB (K : Ctx) (Wx : WX) (f : Ev Bool) : TT := fun σ H Q => ∃ (ρ : DSt) (M : MH) (ι : List Addr), RelS K H ι σ ρ ∧ MemD K H ι M ∧
  Good K H ι (fun b _ H' _ => Q b H') (fun c d H' => Wx c d σ H') (f ρ M)
def TL (K : Ctx) (Wx : WX) (f : Ev (List D)) : TA := fun σ H Q => ∃ (ρ : DSt) (M : MH) (ι : List Addr), RelS K H ι σ ρ ∧ MemD K H ι M ∧
  Good K H ι (fun ws _ H' ι' => ∀ vs, RelDs K H' ι' ws vs → Q vs H') (fun c d H' => Wx c d σ H') (f ρ M)
structure FE (X : Cx) (e : Expr) (f : Ev D) : Prop where
  run : ∀ Wx, Takes X Wx → PE X e (TD X.cx Wx f)
structure FT (X : Cx) (e : Expr) (f : Ev Bool) : Prop where
  run : ∀ Wx, Takes X Wx → PT X e (TB X.cx Wx f)
structure FW (X : Cx) (e : Expr) (f : Ev Bool) : Prop where
  run : ∀ Wx, Takes X Wx → PW X e (TB X.cx Wx f)
structure FA (X : Cx) (es : List Expr) (f : Ev (List D)) : Prop where
  run : ∀ Wx, Takes X Wx → PA X es (TL X.cx Wx f)
theorem PE.imp {X : Cx} {e : Expr} {t t' : TE} (h : PE X e t) (i : ∀ σ H Q, t' σ H Q → t σ H Q) : PE X e t' := ⟨fun pins s σ H Q I q => h.run pins s σ H Q I (i σ H Q q)⟩
theorem PT.imp {X : Cx} {e : Expr} {t t' : TT} (h : PT X e t) (i : ∀ σ H Q, t' σ H Q → t σ H Q) : PT X e t' := ⟨fun pins s σ H Q I q => h.run pins s σ H Q I (i σ H Q q)⟩
theorem PW.imp {X : Cx} {e : Expr} {t t' : TT} (h : PW X e t) (i : ∀ σ H Q, t' σ H Q → t σ H Q) : PW X e t' := ⟨fun wh pins s σ H Q I q => h.run wh pins s σ H Q I (i σ H Q q)⟩
theorem PA.imp {X : Cx} {e : List Expr} {t t' : TA} (h : PA X e t) (i : ∀ σ H Q, t' σ H Q → t σ H Q) : PA X e t' := ⟨fun pos pins s σ H Q I q => h.run pos pins s σ H Q I (i σ H Q q)⟩
section
variable {K : Ctx} {Wx : WX} {σ : L2.St} {H : Hp}
/-- the first of two steps -/
theorem TD.bind {α : Type} {f : Ev D} {g : D → MH → Res α} {ρ : DSt} {M : MH} {ι : List Addr} {R : α → MH → Hp → List Addr → Prop} (hS : RelS K H ι σ ρ) (hM : MemD K H ι M)
    (h : Good K H ι R (fun c d H' => Wx c d σ H') ((f ρ M).bind g)) :
    TD K Wx f σ H fun v H1 => ∃ w M1 ι1, Ext H ι H1 ι1 ∧ RelS K H1 ι1 σ ρ ∧ MemD K H1 ι1 M1 ∧ RelD K H1 ι1 w v ∧ Good K H1 ι1 R (fun c d H' => Wx c d σ H') (g w M1) := by
  refine ⟨ρ, M, ι, hS, hM, ?_⟩
  cases e : f ρ M with
  | ok a M1 =>
    rw [e] at h
    exact fun H' ι' x m v r => ⟨a, M1, ι', x, hS.ext x, m, r, Good.ext x h⟩
  | exc c fs M1 => rw [e] at h; exact h
  | stuck => rw [e] at h; exact h
theorem TB.bind {α : Type} {f : Ev Bool} {g : Bool → MH → Res α} {ρ : DSt} {M : MH} {ι : List Addr} {R : α → MH → Hp → List Addr → Prop} (hS : RelS K H ι σ ρ) (hM : MemD K H ι M)
    (h : Good K H ι R (fun c d H' => Wx c d σ H') ((f ρ M).bind g)) :
    TB K Wx f σ H fun b H1 => ∃ M1 ι1, Ext H ι H1 ι1 ∧ RelS K H1 ι1 σ ρ ∧ MemD K H1 ι1 M1 ∧ Good K H1 ι1 R (fun c d H' => Wx c d σ H') (g b M1) := by
  refine ⟨ρ, M, ι, hS, hM, ?_⟩
  cases e : f ρ M with
  | ok a M1 =>
    rw [e] at h
    exact fun H' ι' x m => ⟨M1, ι', x, hS.ext x, m, Good.ext x h⟩
  | exc c fs M1 => rw [e] at h; exact h
  | stuck => rw [e] at h; exact h
theorem TL.bind {α : Type} {f : Ev (List D)} {g : List D → MH → Res α} {ρ : DSt} {M : MH} {ι : List Addr} {R : α → MH → Hp → List Addr → Prop} (hS : RelS K H ι σ ρ) (hM : MemD K H ι M)
    (h : Good K H ι R (fun c d H' => Wx c d σ H') ((f ρ M).bind g)) :
    TL K Wx f σ H fun vs H1 => ∃ ws M1 ι1, Ext H ι H1 ι1 ∧ RelS K H1 ι1 σ ρ ∧ MemD K H1 ι1 M1 ∧ RelDs K H1 ι1 ws vs ∧ Good K H1 ι1 R (fun c d H' => Wx c d σ H') (g ws M1) := by
  refine ⟨ρ, M, ι, hS, hM, ?_⟩
  cases e : f ρ M with
  | ok a M1 =>
    rw [e] at h
    exact fun H' ι' x m v r => ⟨a, M1, ι', x, hS.ext x, m, r, Good.ext x h⟩
  | exc c fs M1 => rw [e] at h; exact h
  | stuck => rw [e] at h; exact h
end

/-! ### names, constants -/
def eVar (i : Nat) : Ev D := fun ρ M => match ρ[i]? with | some (some w) => .ok w M | _ => .stuck
def eC (w : D) : Ev D := fun _ M => .ok w M
section
variable {X : Cx}
theorem fe_var {e : Expr} {i : Nat} (h : PE X e (tVar i)) : FE X e (eVar i) := ⟨fun Wx _ => PE.imp h fun σ H Q ⟨ρ, M, ι, hS, hM, g⟩ => by
  unfold eVar at g
  split at g
  · rename_i w hw
    obtain ⟨v, h1, h2⟩ := hS.2 i w hw
    exact ⟨v, h1, g H ι (Ext.refl _ _) hM v h2⟩
  · exact g.elim⟩
theorem fe_c {e : Expr} {v : V} {w : D} (h : PE X e (tC v)) (r : ∀ H ι, RelD X.cx H ι w v) : FE X e (eC w) := ⟨fun Wx _ => PE.imp h fun σ H Q ⟨ρ, M, ι, hS, hM, g⟩ =>
  g H ι (Ext.refl _ _) hM v (r H ι)⟩
theorem fe_int {i j pos} : FE X (.Constant (.int i) j pos) (eC (.int i)) := fe_c pe_int fun _ _ => .int _
theorem fe_bl {i j pos} : FE X (.Constant (.bool i) j pos) (eC (.bl i)) := fe_c pe_bl fun _ _ => .bl _
theorem fe_non {j pos} : FE X (.Constant .none j pos) (eC .non) := fe_c pe_non fun _ _ => .non
theorem fe_str {i j pos} : FE X (.Constant (.str i) j pos) (eC (.str i)) := fe_c pe_str fun _ _ => .str _

/-! ### operators -/
abbrev G2 := D → D → MH → Res D
def rD2 (K : Ctx) (g : G2) : R2 := fun x y H Q => ∃ (w1 w2 : D) (M : MH) (ι : List Addr), MemD K H ι M ∧ RelD K H ι w1 x ∧ RelD K H ι w2 y ∧
  Good K H ι (fun w _ H' ι' => ∀ v, RelD K H' ι' w v → Q v H') (fun _ _ _ => False) (g w1 w2 M)
def OpD (X : Cx) (f : Value → Value → Sem Value) (g : G2) : Prop := OpR X f (rD2 X.cx g)
def noX {α : Type} : Res α → Res α
  | .exc _ _ _ => .stuck
  | r => r
def e2 (g : G2) (f1 f2 : Ev D) : Ev D := fun ρ M => (f1 ρ M).bind fun x M1 => (f2 ρ M1).bind fun y M2 => noX (g x y M2)
theorem Good.noX {α : Type} {K : Ctx} {H : Hp} {ι : List Addr} {R : α → MH → Hp → List Addr → Prop} {W W' : Value → Option Addr → Hp → Prop} {r : Res α} (g : Good K H ι R W (noX r)) : Good K H ι R W' r := by
  cases r with
  | ok a M => exact g
  | exc c fs M => exact g.elim
  | stuck => exact g.elim
theorem tOp_of {K : Ctx} {Wx : WX} {g : G2} {f1 f2 : Ev D} {σ : L2.St} {H : Hp} {Q : VK} (h : TD K Wx (e2 g f1 f2) σ H Q) : tOp (rD2 K g) (TD K Wx f1) (TD K Wx f2) σ H Q := by
  obtain ⟨ρ, M, ι, hS, hM, h⟩ := h
  have h1 := TD.bind hS hM h
  obtain ⟨ρ', M', ι', a1, a2, a3⟩ := h1
  refine ⟨ρ', M', ι', a1, a2, ?_⟩
  revert a3
  cases f1 ρ' M' with
  | ok a M1 =>
    intro a3 H1 ι1 x m v r
    obtain ⟨w, M2, ι2, x2, s2, m2, r2, g2⟩ := a3 H1 ι1 x m v r
    obtain ⟨ρ3, M3, ι3, b1, b2, b3⟩ := TD.bind s2 m2 g2
    refine ⟨ρ3, M3, ι3, b1, b2, ?_⟩
    revert b3
    cases f2 ρ3 M3 with
    | ok a M1 =>
      intro b3 H3 ι3 x3 m3 v3 r3
      obtain ⟨w', M4, ι4, x4, s4, m4, r4, g4⟩ := b3 H3 ι3 x3 m3 v3 r3
      exact ⟨w, w', M4, ι4, m4, r2.ext x4, r4, g4.noX⟩
    | exc c fs M => exact id
    | stuck => exact id
  | exc c fs M => exact id
  | stuck => exact id
end
end FL

namespace FL
open PySem PySem.Spec PyProof.Rows L2
section
variable {K : Ctx} {Wx : WX} {σ : L2.St} {H : Hp}
theorem TD.mono {f : Ev D} {Q Q' : VK} (h : TD K Wx f σ H Q) (i : ∀ v H', Q v H' → Q' v H') : TD K Wx f σ H Q' := by
  obtain ⟨ρ, M, ι, s, m, g⟩ := h
  refine ⟨ρ, M, ι, s, m, ?_⟩
  revert g
  cases f ρ M with
  | ok a M1 => exact fun g H' ι' x m v r => i v H' (g H' ι' x m v r)
  | exc c fs M => exact id
  | stuck => exact id
theorem TB.mono {f : Ev Bool} {Q Q' : Bool → Hp → Prop} (h : TB K Wx f σ H Q) (i : ∀ v H', Q v H' → Q' v H') : TB K Wx f σ H Q' := by
  obtain ⟨ρ, M, ι, s, m, g⟩ := h
  refine ⟨ρ, M, ι, s, m, ?_⟩
  revert g
  cases f ρ M with
  | ok a M1 => exact fun g H' ι' x m => i a H' (g H' ι' x m)
  | exc c fs M => exact id
  | stuck => exact id
theorem TL.mono {f : Ev (List D)} {Q Q' : List V → Hp → Prop} (h : TL K Wx f σ H Q) (i : ∀ v H', Q v H' → Q' v H') : TL K Wx f σ H Q' := by
  obtain ⟨ρ, M, ι, s, m, g⟩ := h
  refine ⟨ρ, M, ι, s, m, ?_⟩
  revert g
  cases f ρ M with
  | ok a M1 => exact fun g H' ι' x m v r => i v H' (g H' ι' x m v r)
  | exc c fs M => exact id
  | stuck => exact id
end
section
variable {X : Cx} {a b c : Expr} {f1 f2 f3 : Ev D} {pos : Pos}
theorem fe_bin {op : Operator} {g : G2} (ho : OpD X (binaryOp op) g) (ha : FE X a f1) (hb : FE X b f2) : FE X (.BinOp a op b pos) (e2 g f1 f2) :=
  ⟨fun Wx tk => PE.imp (pe_op ho (ha.run Wx tk) (hb.run Wx tk)) fun _ _ _ h => tOp_of h⟩

/-! ### one value -/
abbrev G1 := D → MH → Res D
def rD1 (K : Ctx) (g : G1) : V → Hp → VK → Prop := fun x H Q => ∃ (w : D) (M : MH) (ι : List Addr), MemD K H ι M ∧ RelD K H ι w x ∧
  Good K H ι (fun w _ H' ι' => ∀ v, RelD K H' ι' w v → Q v H') (fun _ _ _ => False) (g w M)
def UnD (X : Cx) (f : Value → Sem Value) (g : G1) : Prop := UnR X f (rD1 X.cx g)
def e1 (g : G1) (f : Ev D) : Ev D := fun ρ M => (f ρ M).bind fun x M1 => noX (g x M1)
theorem fe_un {op : UnaryOp} {g : G1} (ho : UnD X (unaryOp op) g) (ha : FE X a f1) : FE X (.UnaryOp op a pos) (e1 g f1) :=
  ⟨fun Wx tk => PE.imp (pe_un ho (ha.run Wx tk)) fun σ H Q ⟨ρ, M, ι, hS, hM, h⟩ => (TD.bind hS hM h).mono fun v H1 ⟨w, M1, ι1, x, s, m, r, g⟩ => ⟨w, M1, ι1, m, r, g.noX⟩⟩

/-! ### comparisons: op is not in, nor not in; the mark's side is asked -/
theorem fe_cmp {op : CmpOp} {g : G2} (ho : OpD X (compareOp op) g) (ha : FE X a f1) (hb : FE X b f2) (hm : behindInMarks op b = false) : FE X (.Compare a [op] [b] pos) (e2 g f1 f2) :=
  ⟨fun Wx tk => PE.imp (pe_cmpR ho (ha.run Wx tk) (hb.run Wx tk) hm) fun _ _ _ h => tOp_of h⟩
/-- a truth -/
def asB : D → MH → Res Bool
  | .bl b, M => .ok b M
  | _, _ => .stuck
def eB (f : Ev D) : Ev Bool := fun ρ M => (f ρ M).bind fun w M1 => asB w M1
theorem tTest_of {f : Ev D} {K : Ctx} {Wx : WX} {σ : L2.St} {H : Hp} {Q : Bool → Hp → Prop} (h : TB K Wx (eB f) σ H Q) : TD K Wx f σ H fun x H' => ∃ k, x = .bl k ∧ Q k H' := by
  obtain ⟨ρ, M, ι, hS, hM, h⟩ := h
  refine (TD.bind hS hM h).mono fun v H1 ⟨w, M1, ι1, x, s, m, r, g⟩ => ?_
  cases r with
  | bl b => exact ⟨b, rfl, g H1 ι1 (Ext.refl _ _) m⟩
  | _ => exact g.elim
theorem ft_cmp {op : CmpOp} {g : G2} (ho : OpD X (compareOp op) g) (ha : FE X a f1) (hb : FE X b f2) (hm : behindInMarks op b = false) : FT X (.Compare a [op] [b] pos) (eB (e2 g f1 f2)) :=
  ⟨fun Wx tk => PT.imp (pt_cmpR ho (ha.run Wx tk) (hb.run Wx tk) hm) fun σ H Q h => tOp_of (Q := fun x H' => ∃ k, x = .bl k ∧ Q k H') (tTest_of h)⟩
theorem ft_val (ha : FE X a f1) (he : ∀ whole, isTrue a X.env whole = (do let v ← whole; standAt a.pos; holding [v] (truthy v)) := by intro _; rfl) : FT X a (eB f1) :=
  ⟨fun Wx tk => PT.imp (pt_val (ha.run Wx tk) he) fun σ H Q h => tTest_of h⟩
/-- truth of anything -/
def truD : D → MH → Res Bool
  | .non, M => .ok false M
  | .bl b, M => .ok b M
  | .int i, M => .ok (i != 0) M
  | .str x, M => if x.length ≤ sizeLine then .ok (x.length != 0) M else .stuck
  | .tup ws, M => .ok (!ws.isEmpty) M
  | .lst ws, M => .ok (!ws.isEmpty) M
  | .ob n, M => match M[n]? with
    | some (.lst ws) => .ok (!ws.isEmpty) M
    | _ => .stuck
  | _, _ => .stuck
def eT (f : Ev D) : Ev Bool := fun ρ M => (f ρ M).bind truD

/-! ### and, or, not; if else -/
def eAnd (f g : Ev Bool) : Ev Bool := fun ρ M => (f ρ M).bind fun b M1 => if b = true then g ρ M1 else .ok false M1
def eOr (f g : Ev Bool) : Ev Bool := fun ρ M => (f ρ M).bind fun b M1 => if b = true then .ok true M1 else g ρ M1
def eNot (f : Ev Bool) : Ev Bool := fun ρ M => (f ρ M).bind fun b M1 => .ok (!b) M1
variable {tA tB : Ev Bool} {rest : List Expr}
theorem FW.ft {e : Expr} {f : Ev Bool} (h : FW X e f) : FT X e f := ⟨fun Wx tk => (h.run Wx tk).pt⟩
theorem fw_and1 (ha : FT X a tA) : FW X (.BoolOp .And [a] pos) tA := ⟨fun Wx tk => pw_and1 (ha.run Wx tk)⟩
theorem fw_or1 (ha : FT X a tA) : FW X (.BoolOp .Or [a] pos) tA := ⟨fun Wx tk => pw_or1 (ha.run Wx tk)⟩
theorem fw_and (ha : FT X a tA) (hb : FW X (.BoolOp .And (b :: rest) pos) tB) : FW X (.BoolOp .And (a :: b :: rest) pos) (eAnd tA tB) :=
  ⟨fun Wx tk => PW.imp (pw_and (ha.run Wx tk) (hb.run Wx tk)) fun σ H Q ⟨ρ, M, ι, hS, hM, h⟩ => (TB.bind hS hM h).mono fun k H1 ⟨M1, ι1, x, s, m, g⟩ => by
    cases k with
    | true => exact (if_pos rfl : (if true = true then TB X.cx Wx tB σ H1 Q else Q false H1) = _) ▸ ⟨ρ, M1, ι1, s, m, g⟩
    | false => exact (if_neg (by decide) : (if false = true then TB X.cx Wx tB σ H1 Q else Q false H1) = _) ▸ g H1 ι1 (Ext.refl _ _) m⟩
theorem fw_or (ha : FT X a tA) (hb : FW X (.BoolOp .Or (b :: rest) pos) tB) : FW X (.BoolOp .Or (a :: b :: rest) pos) (eOr tA tB) :=
  ⟨fun Wx tk => PW.imp (pw_or (ha.run Wx tk) (hb.run Wx tk)) fun σ H Q ⟨ρ, M, ι, hS, hM, h⟩ => (TB.bind hS hM h).mono fun k H1 ⟨M1, ι1, x, s, m, g⟩ => by
    cases k with
    | false => exact (if_neg (by decide) : (if false = true then Q true H1 else TB X.cx Wx tB σ H1 Q) = _) ▸ ⟨ρ, M1, ι1, s, m, g⟩
    | true => exact (if_pos rfl : (if true = true then Q true H1 else TB X.cx Wx tB σ H1 Q) = _) ▸ g H1 ι1 (Ext.refl _ _) m⟩
theorem ft_not (ha : FT X a tA) : FT X (.UnaryOp .Not a pos) (eNot tA) :=
  ⟨fun Wx tk => PT.imp (pt_not (ha.run Wx tk)) fun σ H Q ⟨ρ, M, ι, hS, hM, h⟩ => (TB.bind hS hM h).mono fun k H1 ⟨M1, ι1, x, s, m, g⟩ => g H1 ι1 (Ext.refl _ _) m⟩
/-- as values, of truths (the last may be anything) -/
def eAndV (f g : Ev D) : Ev D := fun ρ M => (f ρ M).bind fun w M1 => match w with
  | .bl true => g ρ M1
  | .bl false => .ok (.bl false) M1
  | _ => .stuck
def eOrV (f g : Ev D) : Ev D := fun ρ M => (f ρ M).bind fun w M1 => match w with
  | .bl true => .ok (.bl true) M1
  | .bl false => g ρ M1
  | _ => .stuck
def gNot : G1 := fun w M => match w with
  | .bl b => .ok (.bl (!b)) M
  | _ => .stuck
theorem fe_one {op} (ha : FE X a f1) : FE X (.BoolOp op [a] pos) f1 := ⟨fun Wx tk => pe_one (ha.run Wx tk)⟩
theorem fe_and (ha : FE X a f1) (hb : FE X (.BoolOp .And (b :: rest) pos) f2) : FE X (.BoolOp .And (a :: b :: rest) pos) (eAndV f1 f2) :=
  ⟨fun Wx tk => PE.imp (pe_and (ha.run Wx tk) (hb.run Wx tk)) fun σ H Q ⟨ρ, M, ι, hS, hM, h⟩ => (TD.bind hS hM h).mono fun v H1 ⟨w, M1, ι1, x, s, m, r, g⟩ => by
    cases r with
    | bl k => cases k with
      | true => exact ⟨true, rfl, (if_pos rfl : (if true = true then TD X.cx Wx f2 σ H1 Q else Q (.bl false) H1) = _) ▸ ⟨ρ, M1, ι1, s, m, g⟩⟩
      | false => exact ⟨false, rfl, (if_neg (by decide) : (if false = true then TD X.cx Wx f2 σ H1 Q else Q (.bl false) H1) = _) ▸ g H1 ι1 (Ext.refl _ _) m _ (.bl _)⟩
    | _ => exact g.elim⟩
theorem fe_or (ha : FE X a f1) (hb : FE X (.BoolOp .Or (b :: rest) pos) f2) : FE X (.BoolOp .Or (a :: b :: rest) pos) (eOrV f1 f2) :=
  ⟨fun Wx tk => PE.imp (pe_or (ha.run Wx tk) (hb.run Wx tk)) fun σ H Q ⟨ρ, M, ι, hS, hM, h⟩ => (TD.bind hS hM h).mono fun v H1 ⟨w, M1, ι1, x, s, m, r, g⟩ => by
    cases r with
    | bl k => cases k with
      | true => exact ⟨true, rfl, (if_pos rfl : (if true = true then Q (.bl true) H1 else TD X.cx Wx f2 σ H1 Q) = _) ▸ g H1 ι1 (Ext.refl _ _) m _ (.bl _)⟩
      | false => exact ⟨false, rfl, (if_neg (by decide) : (if false = true then Q (.bl true) H1 else TD X.cx Wx f2 σ H1 Q) = _) ▸ ⟨ρ, M1, ι1, s, m, g⟩⟩
    | _ => exact g.elim⟩
def eNotV (f : Ev Bool) : Ev D := fun ρ M => (f ρ M).bind fun b M1 => .ok (.bl (!b)) M1
theorem fe_notV (ha : FE X a f1) : FE X (.UnaryOp .Not a pos) (eNotV (eB f1)) :=
  ⟨fun Wx tk => PE.imp (pe_not (ha.run Wx tk)) fun σ H Q ⟨ρ, M, ι, hS, hM, h⟩ => by
    have h' := TB.bind (f := eB f1) (Wx := Wx) (σ := σ) hS hM h
    exact (tTest_of h').mono fun v H1 ⟨k, e, M1, ι1, x, s, m, g⟩ => ⟨k, e, g H1 ι1 (Ext.refl _ _) m _ (.bl _)⟩⟩
def eIf (t : Ev Bool) (f g : Ev D) : Ev D := fun ρ M => (t ρ M).bind fun b M1 => if b = true then f ρ M1 else g ρ M1
theorem fe_if (hc : FT X c tA) (ha : FE X a f1) (hb : FE X b f2) : FE X (.IfExp c a b pos) (eIf tA f1 f2) :=
  ⟨fun Wx tk => PE.imp (pe_ifExp (hc.run Wx tk) (ha.run Wx tk) (hb.run Wx tk)) fun σ H Q ⟨ρ, M, ι, hS, hM, h⟩ => (TB.bind hS hM h).mono fun k H1 ⟨M1, ι1, x, s, m, g⟩ => by
    cases k with
    | true => exact (if_pos rfl : (if true = true then TD X.cx Wx f1 σ H1 Q else TD X.cx Wx f2 σ H1 Q) = _) ▸ ⟨ρ, M1, ι1, s, m, g⟩
    | false => exact (if_neg (by decide) : (if false = true then TD X.cx Wx f1 σ H1 Q else TD X.cx Wx f2 σ H1 Q) = _) ▸ ⟨ρ, M1, ι1, s, m, g⟩⟩

/-! ### arguments, displays -/
def eNil : Ev (List D) := fun _ M => .ok [] M
def eCons (f : Ev D) (r : Ev (List D)) : Ev (List D) := fun ρ M => (f ρ M).bind fun w M1 => (r ρ M1).bind fun ws M2 => .ok (w :: ws) M2
variable {es : List Expr} {fr : Ev (List D)} {e : Expr}
theorem fa_nil : FA X [] eNil := ⟨fun Wx _ => PA.imp pa_nil fun σ H Q ⟨ρ, M, ι, hS, hM, h⟩ => h H ι (Ext.refl _ _) hM [] .nil⟩
theorem fa_cons (ha : FE X e f1) (hr : FA X es fr) (hs : starEach (e :: es) X.env = (false, eval e X.env) :: starEach es X.env := by rfl) : FA X (e :: es) (eCons f1 fr) :=
  ⟨fun Wx tk => PA.imp (pa_cons (ha.run Wx tk) (hr.run Wx tk) hs) fun σ H Q ⟨ρ, M, ι, hS, hM, h⟩ => (TD.bind hS hM h).mono fun v H1 ⟨w, M1, ι1, x, s, m, r, g⟩ =>
    (TL.bind s m g).mono fun vs H2 ⟨ws, M2, ι2, x2, s2, m2, r2, g2⟩ => g2 H2 ι2 (Ext.refl _ _) m2 _ (.cons (r.ext x2) r2)⟩
/-- the heap with a new thing -/
theorem Ext.new {H : Hp} {ι : List Addr} {p : Addr} {o : HO} (hp : H p = none) : Ext H ι (upd H p o) ι :=
  ⟨List.prefix_refl _, fun _ h => .inl h, fun a o' h _ => by rw [upd_ne (ne_of_none h hp)]; exact h, fun a xs h => by rw [upd_ne (ne_of_none h hp)]; exact h, fun a ob u h => by rw [upd_ne (ne_of_none h hp)]; exact h⟩
theorem MemD.new {K : Ctx} {H : Hp} {ι : List Addr} {M : MH} {p : Addr} {o : HO} (hp : H p = none) (m : MemD K H ι M) : MemD K (upd H p o) ι M := by
  have x : Ext H ι (upd H p o) ι := Ext.new hp
  refine ⟨m.len, m.nd, fun n mo a h1 h2 => ?_, fun n a h => ?_⟩
  · have q := m.obj n mo a h1 h2
    cases mo with
    | lst ws =>
      obtain ⟨vs, h, r⟩ := q
      exact ⟨vs, by rw [upd_ne (ne_of_none h hp)]; exact h, r.ext x⟩
    | dct kvs => exact q.elim
    | ins C fs =>
      obtain ⟨dx, vs, h, r⟩ := q
      exact ⟨dx, vs, by rw [upd_ne (ne_of_none h hp)]; exact h, r.ext x⟩
    | exc C fs =>
      obtain ⟨d, vs, ⟨C', hC, h⟩, z, r⟩ := q
      exact ⟨d, vs, ⟨C', hC, by rw [upd_ne (ne_of_none h hp)]; exact h⟩, z.ext x, r.ext x⟩
    | dead => trivial
  · obtain ⟨o', h'⟩ := m.there n a h
    exact ⟨o', by rw [upd_ne (ne_of_none h' hp)]; exact h'⟩
def gTup (ws : List D) (M : MH) : Res D := if ws.length ≤ sizeLine then .ok (.tup ws) M else .stuck
def eTup (f : Ev (List D)) : Ev D := fun ρ M => (f ρ M).bind gTup
theorem fe_tup {x1} (ha : FA X es fr) : FE X (.Tuple es x1 pos) (eTup fr) :=
  ⟨fun Wx tk => PE.imp (pe_tup (ha.run Wx tk)) fun σ H Q ⟨ρ, M, ι, hS, hM, h⟩ => (TL.bind hS hM h).mono fun vs H1 ⟨ws, M1, ι1, x, s, m, r, g⟩ => by
    unfold gTup at g
    split at g
    · rename_i hl
      refine ⟨by rw [r.length]; exact hl, fun p hp => ?_⟩
      have x1 : Ext H1 ι1 (upd H1 p (.tup vs)) ι1 := Ext.new hp
      exact g _ ι1 x1 (m.new hp) _ (.tup (.inl (.inl upd_same)) (r.ext x1))
    · exact g.elim⟩
end
end FL

namespace FL
open PySem PySem.Spec PyProof.Rows L2

/-! ### a new thing is closed at once: from then on it is a tree -/
def frzK (Q : VK) : VK := fun v H => ∃ a u, v = .ref a ∧ H a = some u ∧ Mut (some u) ∧ ∀ o, Q v (upd H a (.frz o u))
theorem EP.frz {X : Cx} {pins : List (Addr × Obj)} {σ : L2.St} {Q : VK} {u : Value} {s : Shared} (h : EP X pins σ (frzK Q) u s) : EP X pins σ Q u s := by
  obtain ⟨v, H, I, r, a, o, e, h1, mu, q⟩ := h
  subst e
  obtain ⟨od, I'⟩ := I.lock h1 mu
  exact ⟨.ref a, _, I', r, q od⟩
section
variable {X : Cx} {e a b : Expr} {f1 f2 : Ev D} {pos : Pos}
theorem PE.frz {t : TE} (h : PE X e t) : PE X e (fun σ H Q => t σ H (frzK Q)) := ⟨fun pins s σ H Q I hw => thn (h.run pins s σ H _ I hw) fun _ _ q => EP.frz q⟩
theorem OpR.frz {f : Value → Value → Sem Value} {r : R2} (h : OpR X f r) : OpR X f (fun x y H Q => r x y H (frzK Q)) := fun pins s σ H x y v u Q I rx ry q => thn (h pins s σ H x y v u _ I rx ry q) fun _ _ q => EP.frz q
theorem CallR.frz {f : Value} {r : List V → Hp → VK → Prop} (h : CallR X f r) : CallR X f (fun xs H Q => r xs H (frzK Q)) := fun pins s σ H xs us Q I rx q => thn (h pins s σ H xs us _ I rx q) fun _ _ q => EP.frz q
theorem MtR.frz {id : String} {r : V → List V → Hp → VK → Prop} (h : MtR X id r) : MtR X id (fun x xs H Q => r x xs H (frzK Q)) := fun pins s σ H x xs v us Q I rx rxs q => thn (h pins s σ H x xs v us _ I rx rxs q) fun _ _ q => EP.frz q
theorem SlR.frz {r : V → Option Int → Option Int → Hp → VK → Prop} (h : SlR X r) : SlR X (fun x lo hi H Q => r x lo hi H (frzK Q)) := fun pins s σ H x v vl vu lo hi sl Q I rx hs pl pu q => by
  obtain ⟨T, id, h1, h2, h3⟩ := h pins s σ H x v vl vu lo hi sl _ I rx hs pl pu q
  exact ⟨T, id, h1, h2, thn h3 fun _ _ q => EP.frz q⟩
/-- what a new frozen list asks -/
theorem frz_new {K : Ctx} {H : Hp} {ι : List Addr} {M : MH} {ws : List D} {vs : List V} {W : Value → Option Addr → Hp → Prop} {Q : VK} (m : MemD K H ι M) (r : RelDs K H ι ws vs)
    (g : Good K H ι (fun w _ H' ι' => ∀ v, RelD K H' ι' w v → Q v H') W (.ok (.lst ws) M)) {p : Addr} (hp : H p = none) : frzK Q (.ref p) (upd H p (.lst vs)) := by
  refine ⟨p, .lst vs, rfl, upd_same, trivial, fun o => ?_⟩
  rw [upd_upd]
  have x1 : Ext H ι (upd H p (.frz o (.lst vs))) ι := Ext.new hp
  exact g _ ι x1 (m.new hp) _ (.lst (.inl ⟨o, upd_same⟩) (r.ext x1))
theorem new_tup {K : Ctx} {H : Hp} {ι : List Addr} {M : MH} {ws : List D} {vs : List V} {W : Value → Option Addr → Hp → Prop} {Q : VK} (m : MemD K H ι M) (r : RelDs K H ι ws vs)
    (g : Good K H ι (fun w _ H' ι' => ∀ v, RelD K H' ι' w v → Q v H') W (.ok (.tup ws) M)) {p : Addr} (hp : H p = none) : Q (.ref p) (upd H p (.tup vs)) := by
  have x1 : Ext H ι (upd H p (.tup vs)) ι := Ext.new hp
  exact g _ ι x1 (m.new hp) _ (.tup (.inl (.inl upd_same)) (r.ext x1))
def gLst (ws : List D) (M : MH) : Res D := if ws.length ≤ sizeLine then .ok (.lst ws) M else .stuck
def eLst (f : Ev (List D)) : Ev D := fun ρ M => (f ρ M).bind gLst
theorem fe_lst {es : List Expr} {fr : Ev (List D)} (ha : FA X es fr) : FE X (.List es pos) (eLst fr) :=
  ⟨fun Wx tk => PE.imp (PE.frz (pe_lst (ha.run Wx tk))) fun σ H Q ⟨ρ, M, ι, hS, hM, h⟩ => (TL.bind hS hM h).mono fun vs H1 ⟨ws, M1, ι1, x, s, m, r, g⟩ => by
    unfold gLst at g
    split at g
    · rename_i hl
      exact ⟨by rw [r.length]; exact hl, fun p hp => frz_new m r g hp⟩
    · exact g.elim⟩

/-! ### things that change: laid, put, closed -/
theorem MemD.put {K : Ctx} {H : Hp} {ι : List Addr} {M : MH} {n : Nat} {a : Addr} {o : HO} {mo : MO} (m : MemD K H ι M) (hn : ι[n]? = some a) (x : Ext H ι (upd H a o) ι) (hr : RelO K (upd H a o) ι a mo) : MemD K (upd H a o) ι (M.set n mo) := by
  refine ⟨by rw [List.length_set]; exact m.len, m.nd, fun k mo' b h1 h2 => ?_, fun k b h => ?_⟩
  · by_cases e : k = n
    · subst e
      rw [hn] at h2; cases h2
      have hlt : k < M.length := by
        have := (List.getElem?_eq_some_iff.mp hn).1
        rw [m.len] at this; exact this
      rw [List.getElem?_set_self hlt] at h1
      cases h1
      exact hr
    · rw [List.getElem?_set_ne (Ne.symm e)] at h1
      have hb : b ≠ a := fun z => by
        subst z
        exact e (nd_ix m.nd h2 hn)
      have q := m.obj k mo' b h1 h2
      cases mo' with
      | lst ws => obtain ⟨vs, h, r⟩ := q; exact ⟨vs, by rw [upd_ne hb]; exact h, r.ext x⟩
      | dct kvs => exact q.elim
      | ins C fs => obtain ⟨dx, vs, h, r⟩ := q; exact ⟨dx, vs, by rw [upd_ne hb]; exact h, r.ext x⟩
      | exc C fs => obtain ⟨d, vs, ⟨C', hC, h⟩, z, r⟩ := q; exact ⟨d, vs, ⟨C', hC, by rw [upd_ne hb]; exact h⟩, z.ext x, r.ext x⟩
      | dead => trivial
  · obtain ⟨o', h'⟩ := m.there k b h
    by_cases hb : b = a
    · subst hb; exact ⟨o, upd_same⟩
    · exact ⟨o', by rw [upd_ne hb]; exact h'⟩
theorem Ext.put {H : Hp} {ι : List Addr} {a : Addr} {o : HO} (ha : a ∈ ι) (mu : Mut (H a)) : Ext H ι (upd H a o) ι :=
  ⟨List.prefix_refl _, fun _ h => .inl h, fun b o' h hb => by rw [upd_ne (fun z => by subst z; exact hb ha)]; exact h, fun b xs h => by rw [upd_ne (fun z => by subst z; rw [h] at mu; exact mu)]; exact h, fun b ob u h => by rw [upd_ne (fun z => by subst z; rw [h] at mu; exact mu)]; exact h⟩
theorem Ext.add {H : Hp} {ι : List Addr} {p : Addr} {o : HO} (hp : H p = none) : Ext H ι (upd H p o) (ι ++ [p]) :=
  ⟨List.prefix_append _ _, fun a h => by
    rcases List.mem_append.mp h with h | h
    · exact .inl h
    · have e : a = p := by simpa using h
      exact .inr (e ▸ hp), (Ext.new (ι := ι) hp).frame, (Ext.new (ι := ι) hp).tups, (Ext.new (ι := ι) hp).frzs⟩
theorem MemD.add {K : Ctx} {H : Hp} {ι : List Addr} {M : MH} {p : Addr} {o : HO} {mo : MO} (m : MemD K H ι M) (hp : H p = none) (hr : RelO K (upd H p o) (ι ++ [p]) p mo) : MemD K (upd H p o) (ι ++ [p]) (M ++ [mo]) := by
  have x : Ext H ι (upd H p o) (ι ++ [p]) := Ext.add hp
  refine ⟨by simp [m.len], ?_, fun k mo' b h1 h2 => ?_, fun k b h => ?_⟩
  · rw [List.nodup_append]
    refine ⟨m.nd, by simp, fun b hb c hc z => ?_⟩
    have hc' : c = p := by simpa using hc
    subst hc'
    obtain ⟨i, hi⟩ := List.getElem?_of_mem hb
    obtain ⟨o', h'⟩ := m.there i b hi
    rw [z, hp] at h'; cases h'
  · by_cases e : k < M.length
    · rw [List.getElem?_append_left e] at h1
      rw [List.getElem?_append_left (by rw [m.len]; exact e)] at h2
      obtain ⟨o', h'⟩ := m.there k b h2
      have hb : b ≠ p := fun z => by rw [z, hp] at h'; cases h'
      have q := m.obj k mo' b h1 h2
      cases mo' with
      | lst ws => obtain ⟨vs, h, r⟩ := q; exact ⟨vs, by rw [upd_ne hb]; exact h, r.ext x⟩
      | dct kvs => exact q.elim
      | ins C fs => obtain ⟨dx, vs, h, r⟩ := q; exact ⟨dx, vs, by rw [upd_ne hb]; exact h, r.ext x⟩
      | exc C fs => obtain ⟨d, vs, ⟨C', hC, h⟩, z, r⟩ := q; exact ⟨d, vs, ⟨C', hC, by rw [upd_ne hb]; exact h⟩, z.ext x, r.ext x⟩
      | dead => trivial
    · have hk : k = M.length := by
        have := (List.getElem?_eq_some_iff.mp h1).1
        simp at this; omega
      subst hk
      rw [← m.len, List.getElem?_concat_length] at h2
      cases h2
      rw [List.getElem?_concat_length] at h1
      cases h1
      exact hr
  · by_cases e : k < ι.length
    · rw [List.getElem?_append_left e] at h
      obtain ⟨o', h'⟩ := m.there k b h
      have hb : b ≠ p := fun z => by rw [z, hp] at h'; cases h'
      exact ⟨o', by rw [upd_ne hb]; exact h'⟩
    · have hk : k = ι.length := by
        have := (List.getElem?_eq_some_iff.mp h).1
        simp at this; omega
      subst hk
      rw [List.getElem?_concat_length] at h
      cases h
      exact ⟨o, upd_same⟩
/-- a list that may change -/
def gNewL (ws : List D) (M : MH) : Res D := if ws.length ≤ sizeLine then .ok (.ob M.length) (M ++ [.lst ws]) else .stuck
theorem new_lst {K : Ctx} {H : Hp} {ι : List Addr} {M : MH} {ws : List D} {vs : List V} {W : Value → Option Addr → Hp → Prop} {Q : VK} (m : MemD K H ι M) (r : RelDs K H ι ws vs)
    (g : Good K H ι (fun w _ H' ι' => ∀ v, RelD K H' ι' w v → Q v H') W (.ok (.ob M.length) (M ++ [.lst ws]))) {p : Addr} (hp : H p = none) : Q (.ref p) (upd H p (.lst vs)) := by
  have x1 : Ext H ι (upd H p (.lst vs)) (ι ++ [p]) := Ext.add hp
  refine g _ _ x1 (m.add hp ⟨vs, upd_same, r.ext x1⟩) _ (.ob ?_)
  rw [← m.len]
  exact List.getElem?_concat_length
def eNewL (f : Ev (List D)) : Ev D := fun ρ M => (f ρ M).bind gNewL
theorem fe_newL {es : List Expr} {fr : Ev (List D)} (ha : FA X es fr) : FE X (.List es pos) (eNewL fr) :=
  ⟨fun Wx tk => PE.imp (pe_lst (ha.run Wx tk)) fun σ H Q ⟨ρ, M, ι, hS, hM, h⟩ => (TL.bind hS hM h).mono fun vs H1 ⟨ws, M1, ι1, x, s, m, r, g⟩ => by
    unfold gNewL at g
    split at g
    · rename_i hl
      exact ⟨by rw [r.length]; exact hl, fun p hp => new_lst m r g hp⟩
    · exact g.elim⟩
/-- a list that changes no more -/
def gFrz : G1 := fun w M => match w with
  | .ob n => match M[n]? with
    | some (.lst ws) => .ok (.lst ws) (M.set n .dead)
    | _ => .stuck
  | w => .ok w M
def eFrz (f : Ev D) : Ev D := fun ρ M => (f ρ M).bind gFrz
theorem PE.frz? {t : TE} (h : PE X e t) : PE X e (fun σ H Q => t σ H fun v H' => Q v H' ∨ frzK Q v H') := ⟨fun pins s σ H Q I hw => thn (h.run pins s σ H _ I hw) fun _ _ q => by
  obtain ⟨v, H', I', r, q | q⟩ := q
  · exact ⟨v, H', I', r, q⟩
  · exact EP.frz ⟨v, H', I', r, q⟩⟩
theorem fe_frz (ha : FE X e f1) : FE X e (eFrz f1) :=
  ⟨fun Wx tk => PE.imp (PE.frz? (ha.run Wx tk)) fun σ H Q ⟨ρ, M, ι, hS, hM, h⟩ => (TD.bind hS hM h).mono fun v H1 ⟨w, M1, ι1, x, s, m, r, g⟩ => by
    have nm : ∀ w', w = w' → (∀ n, w' ≠ .ob n) → Q v H1 ∨ frzK Q v H1 := fun w' ew hw => by
      subst ew
      refine .inl (?_ : Q v H1)
      have e : gFrz w M1 = .ok w M1 := by unfold gFrz; split <;> first | rfl | (rename_i n; exact absurd rfl (hw n))
      rw [e] at g
      exact g H1 ι1 (Ext.refl _ _) m v r
    cases r with
    | @ob n a hn =>
      unfold gFrz at g
      dsimp only at g
      split at g
      · rename_i ws hw
        obtain ⟨vs, h1, h2⟩ := m.obj n _ a hw hn
        refine .inr ⟨a, .lst vs, rfl, h1, trivial, fun o => ?_⟩
        have x1 : Ext H1 ι1 (upd H1 a (.frz o (.lst vs))) ι1 := Ext.put (List.mem_of_getElem? hn) (by rw [h1]; trivial)
        exact g _ ι1 x1 (m.put hn x1 trivial) _ (.lst (.inl ⟨o, upd_same⟩) (h2.ext x1))
      · exact g.elim
    | _ => exact nm _ rfl (by intro n z; cases z)⟩

/-! ### subscripts -/
def seqOf : D → MH → Option (List D)
  | .tup ws, _ => some ws
  | .lst ws, _ => some ws
  | .ob n, M => match M[n]? with
    | some (.lst ws) => some ws
    | _ => none
  | _, _ => none
theorem seqOf_rel {K : Ctx} {H : Hp} {ι : List Addr} {M : MH} {w : D} {v : V} {ws : List D} (m : MemD K H ι M) (r : RelD K H ι w v) (h : seqOf w M = some ws) : ∃ a vs, v = .ref a ∧ RelDs K H ι ws vs ∧ (SqL K.K H a vs ∨ SqT K.K H a vs) := by
  cases r with
  | tup h1 r => simp only [seqOf] at h; cases h; exact ⟨_, _, rfl, r, .inr h1⟩
  | lst h1 r => simp only [seqOf] at h; cases h; exact ⟨_, _, rfl, r, .inl h1.seq⟩
  | @ob n a hn =>
    simp only [seqOf] at h
    split at h
    · rename_i ws' hw
      cases h
      obtain ⟨vs, h1, h2⟩ := m.obj n _ a hw hn
      exact ⟨a, vs, rfl, h2, .inl (.inl (.inl h1))⟩
    · cases h
  | _ => simp [seqOf] at h
theorem seqOf_relX {K : Ctx} {H : Hp} {ι : List Addr} {M : MH} {w : D} {v : V} {ws : List D} (m : MemD K H ι M) (r : RelD K H ι w v) (h : seqOf w M = some ws) : ∃ a vs, v = .ref a ∧ RelDs K H ι ws vs ∧ (LstX K H a vs ∨ SqT K.K H a vs ∧ w = .tup ws) := by
  cases r with
  | tup h1 r => simp only [seqOf] at h; cases h; exact ⟨_, _, rfl, r, .inr ⟨h1, rfl⟩⟩
  | lst h1 r => simp only [seqOf] at h; cases h; exact ⟨_, _, rfl, r, .inl (.inr h1)⟩
  | @ob n a hn =>
    simp only [seqOf] at h
    split at h
    · rename_i ws' hw
      cases h
      obtain ⟨vs, h1, h2⟩ := m.obj n _ a hw hn
      exact ⟨a, vs, rfl, h2, .inl (.inl h1)⟩
    · cases h
  | _ => simp [seqOf] at h
def lstOf : D → MH → Option (List D)
  | .lst ws, _ => some ws
  | .ob n, M => match M[n]? with
    | some (.lst ws) => some ws
    | _ => none
  | _, _ => none
theorem lstOf_rel {K : Ctx} {H : Hp} {ι : List Addr} {M : MH} {w : D} {v : V} {ws : List D} (m : MemD K H ι M) (r : RelD K H ι w v) (h : lstOf w M = some ws) : ∃ a vs, v = .ref a ∧ RelDs K H ι ws vs ∧ LstX K H a vs := by
  cases r with
  | lst h1 r => simp only [lstOf] at h; cases h; exact ⟨_, _, rfl, r, .inr h1⟩
  | @ob n a hn =>
    simp only [lstOf] at h
    split at h
    · rename_i ws' hw
      cases h
      obtain ⟨vs, h1, h2⟩ := m.obj n _ a hw hn
      exact ⟨a, vs, rfl, h2, .inl h1⟩
    · cases h
  | _ => simp [lstOf] at h
theorem atI_rel {K : Ctx} {H : Hp} {ι : List Addr} {ws : List D} {vs : List V} {i : Int} {w : D} (r : RelDs K H ι ws vs) (h : atI ws i = some w) : ∃ v, atI vs i = some v ∧ RelD K H ι w v := by
  unfold atI at h ⊢
  rw [r.length]
  cases e : ixN ws.length i with
  | none => rw [e] at h; cases h
  | some j =>
    rw [e] at h
    exact r.get h
/-- a closed dict as the model's -/
theorem dct_at {pins : List (Addr × Obj)} {σ : L2.St} {H : Hp} {s : Shared} {ι : List Addr} (I : Inv X pins σ H s) {a : Addr} {es : List DictEntry} {vs : List (Leaf × Value)} (h : DctF X.cx H a es vs) : (a == sysModules) = false ∧ s.heap.DictOf (leafKind X.prog X.w) a vs ∧ vs.length ≤ sizeLine := by
  obtain ⟨ne, o, h1, n, h2, h3, h4, h5, h6, h7⟩ := h
  refine ⟨by simpa using ne, ⟨o, es.toArray, n, ?_, h2, h3, h5, by simpa using h6, h7⟩, by rw [← h6.length]; exact h4⟩
  rcases h1 with ⟨u, h1⟩ | h1
  · exact (I.hok a _ h1).1
  · exact I.kIn a o h1
theorem leaf_is {P : Program} {w : World} {K : Ctx} {H : Hp} {ι : List Addr} {d : D} {v : V} {u : Value} {x : Leaf} (r : RelD K H ι d v) (rv : RelV v u) (h : leafOf d = some x) : (leafKind P w).is x u = true := by
  cases r with
  | non => cases h; cases rv; rfl
  | bl b => cases h; cases rv; exact decide_eq_true rfl
  | int i => cases h; obtain ⟨t, rfl⟩ := rv; exact decide_eq_true rfl
  | str i =>
    cases h; obtain ⟨t, rfl⟩ := rv
    show (i == i) = true
    simp
  | _ => cases h
def gIxD (kvs : List (D × D)) (y : D) (M : MH) : Res D := match leafOf y with
  | some l => match lookD kvs l with
    | some w => .ok w M
    | none => .stuck
  | none => .stuck
def gIx : G2 := fun x y M => match x, y with
  | .dct kvs, y => gIxD kvs y M
  | x, .int i => match x with
    | .str z => if z.length ≤ sizeLine then match atI z.cps.toList i with
        | some c => .ok (.str ⟨#[c]⟩) M
        | none => .stuck else .stuck
    | x => match seqOf x M with
      | some ws => match atI ws i with
        | some w => .ok w M
        | none => .stuck
      | none => .stuck
  | _, _ => .stuck
theorem ix_D : IxR X (rD2 X.cx gIx) := by
  intro value slice pins s σ H x y v u Q I rx ry h hs
  obtain ⟨w1, w2, M, ι, m, r1, r2, g⟩ := h
  unfold gIx at g
  split at g
  · rename_i kvs
    unfold gIxD at g
    split at g
    · rename_i l hl
      split at g
      · rename_i w hw
        cases r1 with
        | dct hD hE hk =>
          cases rx
          obtain ⟨_, dd, _⟩ := dct_at (ι := ι) I hD
          have hp := hD
          obtain ⟨_, _, _, _, _, _, _, _, hp, _⟩ := hD
          rcases hE.look (x := l) hp hk with ⟨e, _⟩ | ⟨d, u', v', e1, e2, e3, e4⟩
          · rw [e] at hw; cases hw
          · rw [e1] at hw; cases hw
            exact tail_any dd.mapOf.typeIs slot_dict_getitem.lookup (wpAny_getItem_of (leaf_is r2 ry hl) dd.mapOf e2 ⟨v', H, I.tok _, e4, g H ι (Ext.refl _ _) m _ e3⟩) hs
      · exact g.elim
    · exact g.elim
  · refine ix_seq value slice pins s σ H x y v u Q I rx ry ?_ hs
    rename_i x1 i hx1
    cases r2 with
    | int i =>
      split at g
      · rename_i z
        cases r1
        split at g
        · rename_i hz
          split at g
          · rename_i c hc
            exact .inr (.inr ⟨z, i, c, rfl, rfl, hz, hc, g H ι (Ext.refl _ _) m _ (.str _)⟩)
          · exact g.elim
        · exact g.elim
      · split at g
        · rename_i ws hs
          split at g
          · rename_i w hw
            obtain ⟨a, vs, e, rr, hq⟩ := seqOf_rel m r1 hs
            obtain ⟨v', h1, h2⟩ := atI_rel rr hw
            have q := g H ι (Ext.refl _ _) m _ h2
            rcases hq with hq | hq
            · exact .inl ⟨a, vs, i, v', e, rfl, hq, h1, q⟩
            · exact .inr (.inl ⟨a, vs, i, v', e, rfl, hq, h1, q⟩)
          · exact g.elim
        · exact g.elim
  · exact g.elim
theorem fe_ix (ha : FE X a f1) (hb : FE X b f2) (hs : PlainIx b) : FE X (.Subscript a b pos) (e2 gIx f1 f2) :=
  ⟨fun Wx tk => PE.imp (pe_ix ix_D (ha.run Wx tk) (hb.run Wx tk) hs) fun _ _ _ h => tOp_of h⟩
/-! ### slices -/
def TO' (K : Ctx) (Wx : WX) (f : Ev (Option Int)) : TO := fun σ H Q => ∃ (ρ : DSt) (M : MH) (ι : List Addr), RelS K H ι σ ρ ∧ MemD K H ι M ∧
  Good K H ι (fun o _ H' _ => Q o H') (fun c d H' => Wx c d σ H') (f ρ M)
structure FO (X : Cx) (e : Option Expr) (f : Ev (Option Int)) : Prop where
  run : ∀ Wx, Takes X Wx → PO X e (TO' X.cx Wx f)
theorem PO.imp {e : Option Expr} {t t' : TO} (h : PO X e t) (i : ∀ σ H Q, t' σ H Q → t σ H Q) : PO X e t' := ⟨fun pins s σ H Q I q => h.run pins s σ H Q I (i σ H Q q)⟩
theorem TO'.bind {α : Type} {K : Ctx} {Wx : WX} {σ : L2.St} {H : Hp} {f : Ev (Option Int)} {g : Option Int → MH → Res α} {ρ : DSt} {M : MH} {ι : List Addr} {R : α → MH → Hp → List Addr → Prop} (hS : RelS K H ι σ ρ) (hM : MemD K H ι M)
    (h : Good K H ι R (fun c d H' => Wx c d σ H') ((f ρ M).bind g)) {Q : Option Int → Hp → Prop}
    (i : ∀ o H1 M1 ι1, Ext H ι H1 ι1 → RelS K H1 ι1 σ ρ → MemD K H1 ι1 M1 → Good K H1 ι1 R (fun c d H' => Wx c d σ H') (g o M1) → Q o H1) : TO' K Wx f σ H Q := by
  refine ⟨ρ, M, ι, hS, hM, ?_⟩
  cases e : f ρ M with
  | ok a M1 =>
    rw [e] at h
    exact fun H' ι' x m => i a H' M1 ι' x (hS.ext x) m (Good.ext x h)
  | exc c fs M1 => rw [e] at h; exact h
  | stuck => rw [e] at h; exact h
def eNoPart : Ev (Option Int) := fun _ M => .ok none M
def ePart (f : Ev D) : Ev (Option Int) := fun ρ M => (f ρ M).bind fun w M1 => match w with
  | .int i => .ok (some i) M1
  | _ => .stuck
theorem fo_none : FO X none eNoPart := ⟨fun Wx _ => PO.imp po_none fun σ H Q ⟨ρ, M, ι, hS, hM, h⟩ => h H ι (Ext.refl _ _) hM⟩
theorem fo_some (ha : FE X e f1) : FO X (some e) (ePart f1) := ⟨fun Wx tk => PO.imp (po_some (ha.run Wx tk)) fun σ H Q ⟨ρ, M, ι, hS, hM, h⟩ => (TD.bind hS hM h).mono fun v H1 ⟨w, M1, ι1, x, s, m, r, g⟩ => by
  cases r with
  | int i => exact ⟨i, rfl, g H1 ι1 (Ext.refl _ _) m⟩
  | _ => exact g.elim⟩
def cutD {α : Type} (xs : List α) (lo hi : Option Int) : List α := (xs.drop (HT.sIx xs.length 0 lo)).take (HT.sIx xs.length xs.length hi - HT.sIx xs.length 0 lo)
theorem cut_rel {K : Ctx} {H : Hp} {ι : List Addr} {ws : List D} {vs : List V} (r : RelDs K H ι ws vs) (lo hi : Option Int) : RelDs K H ι (cutD ws lo hi) (cutV vs lo hi) := by
  unfold cutD cutV
  rw [r.length]
  exact (r.drop _).take _
end
end FL

namespace FL
open PySem PySem.Spec PyProof.Rows L2

/-! ### a def and its function -/
def spOf (K : Ctx) (n : Nat) (φ : List D → MH → Res D) : Sp := fun vs H Q E => vs.length = n ∧ ∃ (ws : List D) (M : MH) (ι : List Addr), MemD K H ι M ∧ RelDs K H ι ws vs ∧
  Good K H ι (fun w _ H' ι' => ∀ v, RelD K H' ι' w v → Q v H') E (φ ws M)
/-- the def at f does what φ says, wherever no repr is under way -/
structure FnG (P : Program) (w : World) (K : Frg) (mg : Str → Option Value) (base : Heap) (k : Nat) (f : Addr) (fd : FuncData) (ps : List Str) (φ : List D → MH → Res D) : Prop where
  run : ∀ (A : Around) (outer : List Env) (s : Shared) (H : Hp) (args : Args) (us : List Value) (vs : List V) (Q : VK) (E : XK), Room k A → A.guards = some [] → Env0 P w K mg base A outer s H →
    BindsTo s fd args (ps.zip us) → Vals vs us → spOf ⟨P, w, K⟩ ps.length φ vs H Q E → codeAny (model P w) A (.call (.ref f) args) (CR (L2.CX P w) outer P w H s Q E) s
section
variable {P : Program} {w : World} {K : Frg} {mg : Str → Option Value} {base : Heap}
theorem FnG.mono {j k : Nat} {f : Addr} {fd : FuncData} {ps : List Str} {φ : List D → MH → Res D} (F : FnG P w K mg base j f fd ps φ) (h : j ≤ k) : FnG P w K mg base k f fd ps φ :=
  ⟨fun A outer s H args us vs Q E hr hg => F.run A outer s H args us vs Q E (hr.mono h) hg⟩
/-- a def of the text by its body -/
theorem Fun.okG {x qual : Str} {st : Stmt} {f : Addr} {fd : FuncData} {N ps : List Str} {k : Nat} {φ : List D → MH → Res D} (F : Fun K x qual st f fd) (S : FnScope N ps (defScope st))
    (hbody : ∀ (cdv : Value) (A : Around) (outer : List Env) (s : Shared) (H : Hp) (vs : List V) (Q : VK) (E : XK), Room k (A.deeper (envOfC qual (defScope st) s.heap.objs.size f cdv)) → A.guards = some [] → spOf ⟨P, w, K⟩ ps.length φ vs H Q E →
      ∃ t, PSs (cxOf (L2.CX P w) P w K mg base N qual (defScope st) f cdv A outer s H E) (defBody st) t ∧ t { nx := fun _ H' => Q .non H', rt := Q } (L2.start N vs) H) : FnG P w K mg base (k + 1) f fd ps φ := by
  obtain ⟨oc, od, kV, doc, pm, an, cdv, ct, osl, rfl, lk, hcd⟩ := F.ex
  constructor
  intro A outer s H args us vs Q E hr hG e0 hb r hsp
  have KX : K.In s.heap := e0.mod.kin.keeps (fun b o e => (e0.bs b o e).1)
  have kinds : ∀ y ∈ ps.zip us, (defScope st).names.lookup y.1 = some .local ∨
      ((defScope st).names.lookup y.1 = some .cell ∧ ((cellsFrom (s.heap.objs.size + 1) (defScope st).names []).lookup y.1).isSome = true) := by
    rintro ⟨n, v⟩ hy
    cases S.par n (List.of_mem_zip hy).1 with
    | inl q => exact .inl q
    | inr q => exact .inr ⟨q, PySem.W.cellsFrom_some _ _ _ (.inl q)⟩
  apply codeAny_call_function hr.depth (KX _ _ lk) rfl S.co S.gen rfl (PySem.W.codeRec_of KX hcd)
  apply hb
  apply wpAny_newFunctionEnv_cells S.kind kinds
  intro env he s1 x
  subst he
  refine ⟨(e0.mod.nolimit.keeps fun b o e => (e0.bs b o e).1).keeps x.toInCall.keep, codeAny_func ?_⟩
  obtain ⟨t, ht, hq⟩ := hbody cdv A outer s H vs Q E (hr.deeper _) hG hsp
  have I := inv_start (CX := L2.CX P w) (E := E) (cd := cdv) (qual := qual) (f := f) S hr.hd e0 hsp.1 r x
  refine wpAny_mono (ht.run [] s1 (L2.start N vs) H _ I hq) ?_ (fun e s' hs => hs)
  intro fl s' hs
  cases fl with
  | ret u => obtain ⟨v, σ', H', J, rv, q⟩ := hs; exact ⟨v, H', J.os, J.bare, J.base, J.hok, rv, q⟩
  | next => obtain ⟨σ', H', J, q⟩ := hs; exact ⟨V.non, H', J.os, J.bare, J.base, J.hok, (rfl : RelV V.non Value.none), q⟩
  | brk => obtain ⟨_, _, _, q⟩ := hs; exact q.elim
  | cont => obtain ⟨_, _, _, q⟩ := hs; exact q.elim
end
/-! ### a call of a def -/
def eCall (φ : List D → MH → Res D) (dws : List D) (fr : Ev (List D)) : Ev D := fun ρ M => (fr ρ M).bind fun ws M1 => φ (ws ++ dws) M1
section
variable {X : Cx} {k : Nat} {f : Addr} {fd : FuncData} {ps : List Str} {φ : List D → MH → Res D} {dws : List D} {dvs : List V} {ds : List Value} {x : Str} {p pos : Pos} {e : Expr} {es : List Expr} {fr : Ev (List D)}
theorem run_G {pins : List (Addr × Obj)} {σ : L2.St} {H : Hp} {s : Shared} {Q : VK} {Wx : WX} {us : List Value} {vs : List V} (F : FnG X.prog X.w X.K X.mg X.base k f fd ps φ) (hr : Room k X.A) (hG : X.A.guards = some []) (hb : Binds X.K fd ps ds) (hd : Vals dvs ds) (tk : Takes X Wx)
    (I : Inv X pins σ H s) (r : Vals vs us) (h : spOf X.cx ps.length φ (vs ++ dvs) H Q (WE Wx σ)) : wpAny (model X.prog X.w) X.A (call (.ref f) us) (EP X pins σ Q) X.xe s := by
  have r2 := r.append hd
  have hl : (us ++ ds).length = ps.length := r2.length.symm.trans h.1
  apply wpAny_call
  refine codeAny_mono (F.run X.A X.stack s H ⟨us, []⟩ (us ++ ds) (vs ++ dvs) Q (WE Wx σ) hr hG I.env0 (hb s us I.kIn hl) r2 h) ?_
  intro res s' hq
  cases res with
  | error ex => exact passAt tk σ pins H s ex s' I hq
  | ok fl => cases fl with
    | ret u => exact I.after hq
    | next => exact hq.elim
    | brk => exact hq.elim
    | cont => exact hq.elim
/-- a default's value -/
def DsRel (K : Ctx) (dws : List D) (dvs : List V) : Prop := ∀ H ι, RelDs K H ι dws dvs
theorem DsRel.nil {K : Ctx} : DsRel K [] [] := fun _ _ => .nil
theorem sp_call {σ : L2.St} {H : Hp} {ι : List Addr} {M : MH} {Q : VK} {Wx : WX} {ws : List D} {vs : List V} {K : Ctx} (hn : ws.length + dws.length = ps.length) (hd : DsRel K dws dvs) (m : MemD K H ι M) (r : RelDs K H ι ws vs)
    (g : Good K H ι (fun w _ H' ι' => ∀ v, RelD K H' ι' w v → Q v H') (fun c d H' => Wx c d σ H') (φ (ws ++ dws) M)) : spOf K ps.length φ (vs ++ dvs) H Q (WE Wx σ) := by
  refine ⟨?_, ws ++ dws, M, ι, m, r.append (hd H ι), g⟩
  rw [List.length_append, r.length, (hd H ι).length, hn]
/-- how many arguments come -/
def cnt (n : Nat) (fr : Ev (List D)) : Prop := ∀ ρ M ws M', fr ρ M = .ok ws M' → ws.length = n
theorem cnt_nil : cnt 0 eNil := fun ρ M ws M' h => by cases h; rfl
theorem cnt_cons {n : Nat} {f : Ev D} (h : cnt n fr) : cnt (n + 1) (eCons f fr) := fun ρ M ws M' e => by
  unfold eCons at e
  cases e1 : f ρ M with
  | ok a M1 =>
    rw [e1, Res.bind_ok] at e
    cases e2 : fr ρ M1 with
    | ok b M2 =>
      rw [e2, Res.bind_ok] at e
      cases e
      rw [List.length_cons, h ρ M1 b _ e2]
    | exc c fs M2 => rw [e2] at e; cases e
    | stuck => rw [e2] at e; cases e
  | exc c fs M2 => rw [e1] at e; cases e
  | stuck => rw [e1] at e; cases e
theorem TL.bind' {K : Ctx} {Wx : WX} {σ : L2.St} {H : Hp} {α : Type} {f : Ev (List D)} {g : List D → MH → Res α} {ρ : DSt} {M : MH} {ι : List Addr} {R : α → MH → Hp → List Addr → Prop} (hS : RelS K H ι σ ρ) (hM : MemD K H ι M)
    (h : Good K H ι R (fun c d H' => Wx c d σ H') ((f ρ M).bind g)) :
    TL K Wx f σ H fun vs H1 => ∃ ws M1 ι1, f ρ M = .ok ws M1 ∧ Ext H ι H1 ι1 ∧ RelS K H1 ι1 σ ρ ∧ MemD K H1 ι1 M1 ∧ RelDs K H1 ι1 ws vs ∧ Good K H1 ι1 R (fun c d H' => Wx c d σ H') (g ws M1) := by
  refine ⟨ρ, M, ι, hS, hM, ?_⟩
  cases e : f ρ M with
  | ok a M1 =>
    rw [e] at h
    exact fun H' ι' x m v r => ⟨a, M1, ι', rfl, x, hS.ext x, m, r, Good.ext x h⟩
  | exc c fs M1 => rw [e] at h; exact h
  | stuck => rw [e] at h; exact h
theorem fe_call {n : Nat} (F : FnG X.prog X.w X.K X.mg X.base k f fd ps φ) (hr : Room k X.A) (hG : X.A.guards = some []) (hg : Gl X x) (hm : X.mg x = some (.ref f)) (hk : PySem.W.keepIn X.K (.ref f) = true) (hb : Binds X.K fd ps ds) (hd : Vals dvs ds) (hw : DsRel X.cx dws dvs)
    (ha : FA X (e :: es) fr) (hc : cnt n fr) (hn : n + dws.length = ps.length) (hdb : (x == ("__debug__" : Str)) = false := by decide) (he : starEach (e :: es) X.env = (false, eval e X.env) :: starEach es X.env := by rfl) (hpl : (backTo pos (starEach es X.env)).any (·.1) = false := by rfl) :
    FE X (.Call (.Name x p) (e :: es) [] pos) (eCall φ dws fr) := by
  constructor
  intro Wx tk
  constructor
  intro pins s σ H Q I h
  obtain ⟨ρ, M, ι, hS, hM, h⟩ := h
  apply wpAny_Call_Name_kw
  apply ld_glob I hg hm _ hdb
  refine PySem.W.callWith_K (h₀ := X.base) I.ok.mod.kin hk ?_ he hpl
  refine thn ((ha.run Wx tk).run pos pins s σ H _ I (TL.bind' hS hM h)) ?_
  rintro us s1 ⟨vs, H1, I1, r, ws, M1, ι1, ew, x1, s2, m1, r1, g⟩
  refine ⟨I1.kIn, run_G F hr hG hb hd tk I1 r (sp_call ?_ hw m1 r1 g)⟩
  rw [hc ρ M ws M1 ew, hn]
theorem fe_call0 (F : FnG X.prog X.w X.K X.mg X.base k f fd ps φ) (hr : Room k X.A) (hG : X.A.guards = some []) (hg : Gl X x) (hm : X.mg x = some (.ref f)) (hk : PySem.W.keepIn X.K (.ref f) = true) (hb : Binds X.K fd ps ds) (hd : Vals dvs ds) (hw : DsRel X.cx dws dvs)
    (hn : dws.length = ps.length) (hdb : (x == ("__debug__" : Str)) = false := by decide) : FE X (.Call (.Name x p) [] [] pos) (eCall φ dws eNil) := by
  constructor
  intro Wx tk
  constructor
  intro pins s σ H Q I h
  obtain ⟨ρ, M, ι, hS, hM, h⟩ := h
  apply wpAny_Call_Name_kw
  apply ld_glob I hg hm _ hdb
  refine PySem.W.callWith_K0 I.kIn hk (run_G (us := []) F hr hG hb hd tk I .nil (sp_call (ws := []) (M := M) (ι := ι) (by simpa using hn) hw hM .nil h))
end

/-! ### statements -/
inductive SR where
  | nx (ρ : DSt) (M : MH)
  | rt (w : D) (M : MH)
  | bk (ρ : DSt) (M : MH)
  | ct (ρ : DSt) (M : MH)
  | exc (c : Str) (fs : List (Str × D)) (ρ : DSt) (M : MH)
  | stuck
abbrev Es := DSt → MH → SR
def ExcS (K : Ctx) (H : Hp) (ι : List Addr) (c : Str) (fs : List (Str × D)) (ρ : DSt) (M : MH) (Wx : WX) : Prop :=
  ∀ (cv : Value), ClsN K.K c cv → ∀ (d : Option Addr) (σ' : L2.St) (H' : Hp) (ι' : List Addr), Ext H ι H' ι' → RelS K H' ι' σ' ρ → MemD K H' ι' M →
    (fs ≠ [] → ∃ d' vs, d = some d' ∧ H' d' = some (.xd ((fs.map (·.1)).zip vs)) ∧ RelDs K H' ι' (fs.map (·.2)) vs) → Wx cv d σ' H'
def GoodS (K : Ctx) (Wx : WX) (H : Hp) (ι : List Addr) (Dd : Ends) : SR → Prop
  | .nx ρ M => ∀ σ' H' ι', Ext H ι H' ι' → RelS K H' ι' σ' ρ → MemD K H' ι' M → Dd.nx σ' H'
  | .rt w M => ∀ v H' ι', Ext H ι H' ι' → RelD K H' ι' w v → MemD K H' ι' M → Dd.rt v H'
  | .bk ρ M => ∀ σ' H' ι', Ext H ι H' ι' → RelS K H' ι' σ' ρ → MemD K H' ι' M → Dd.bk σ' H'
  | .ct ρ M => ∀ σ' H' ι', Ext H ι H' ι' → RelS K H' ι' σ' ρ → MemD K H' ι' M → Dd.ct σ' H'
  | .exc c fs ρ M => ExcS K H ι c fs ρ M Wx
  | .stuck => False
theorem GoodS.ext {K : Ctx} {Wx : WX} {H H1 : Hp} {ι ι1 : List Addr} {Dd : Ends} {r : SR} (x : Ext H ι H1 ι1) (g : GoodS K Wx H ι Dd r) : GoodS K Wx H1 ι1 Dd r := by
  cases r with
  | nx ρ M => exact fun σ' H' ι' y => g σ' H' ι' (x.trans y)
  | rt w M => exact fun v H' ι' y => g v H' ι' (x.trans y)
  | bk ρ M => exact fun σ' H' ι' y => g σ' H' ι' (x.trans y)
  | ct ρ M => exact fun σ' H' ι' y => g σ' H' ι' (x.trans y)
  | exc c fs ρ M => exact fun cv hv d σ' H' ι' y => g cv hv d σ' H' ι' (x.trans y)
  | stuck => exact g
def TSt (K : Ctx) (Wx : WX) (g : Es) : TS := fun Dd σ H => ∃ (ρ : DSt) (M : MH) (ι : List Addr), RelS K H ι σ ρ ∧ MemD K H ι M ∧ GoodS K Wx H ι Dd (g ρ M)
structure FS (X : Cx) (st : Stmt) (g : Es) : Prop where
  run : ∀ Wx, Takes X Wx → PS X st (TSt X.cx Wx g)
structure FSs (X : Cx) (st : List Stmt) (g : Es) : Prop where
  run : ∀ Wx, Takes X Wx → PSs X st (TSt X.cx Wx g)
theorem PS.imp {X : Cx} {st : Stmt} {t t' : TS} (h : PS X st t) (i : ∀ Dd σ H, t' Dd σ H → t Dd σ H) : PS X st t' := ⟨fun pins s σ H Dd I q => h.run pins s σ H Dd I (i Dd σ H q)⟩
theorem PSs.imp {X : Cx} {st : List Stmt} {t t' : TS} (h : PSs X st t) (i : ∀ Dd σ H, t' Dd σ H → t Dd σ H) : PSs X st t' := ⟨fun pins s σ H Dd I q => h.run pins s σ H Dd I (i Dd σ H q)⟩
def SR.seq (r : SR) (g : Es) : SR := match r with
  | .nx ρ M => g ρ M
  | r => r
def sSeq (g1 g2 : Es) : Es := fun ρ M => (g1 ρ M).seq g2
def sNext : Es := fun ρ M => .nx ρ M
/-- a statement's end handed on -/
theorem TSt.seq {K : Ctx} {Wx : WX} {g1 g2 : Es} {Dd : Ends} {σ : L2.St} {H : Hp} (h : TSt K Wx (sSeq g1 g2) Dd σ H) : TSt K Wx g1 { Dd with nx := TSt K Wx g2 Dd } σ H := by
  obtain ⟨ρ, M, ι, s, m, g⟩ := h
  refine ⟨ρ, M, ι, s, m, ?_⟩
  unfold sSeq at g
  cases e : g1 ρ M with
  | nx ρ1 M1 =>
    rw [e] at g
    exact fun σ' H' ι' x s' m' => ⟨ρ1, M1, ι', s', m', GoodS.ext (r := g2 ρ1 M1) x g⟩
  | rt w M1 => rw [e] at g; exact g
  | bk ρ1 M1 => rw [e] at g; exact g
  | ct ρ1 M1 => rw [e] at g; exact g
  | exc c fs ρ1 M1 => rw [e] at g; exact g
  | stuck => rw [e] at g; exact g
section
variable {X : Cx} {st : Stmt} {rest : List Stmt} {g1 g2 : Es} {e : Expr} {f1 : Ev D} {pos : Pos}
theorem fss_nil : FSs X [] sNext := ⟨fun Wx _ => PSs.imp pss_nil fun Dd σ H ⟨ρ, M, ι, s, m, g⟩ => g σ H ι (Ext.refl _ _) s m⟩
theorem fss_cons (h1 : FS X st g1) (h2 : FSs X rest g2) : FSs X (st :: rest) (sSeq g1 g2) := ⟨fun Wx tk => PSs.imp (pss_cons (h1.run Wx tk) (h2.run Wx tk)) fun Dd σ H h => h.seq⟩
theorem fss_one (h1 : FS X st g1) : FSs X [st] g1 := ⟨fun Wx tk => pss_one (h1.run Wx tk)⟩
theorem fs_pass : FS X (.Pass pos) sNext := ⟨fun Wx _ => PS.imp ps_pass fun Dd σ H ⟨ρ, M, ι, s, m, g⟩ => g σ H ι (Ext.refl _ _) s m⟩
theorem fs_break : FS X (.Break pos) (fun ρ M => .bk ρ M) := ⟨fun Wx _ => PS.imp ps_break fun Dd σ H ⟨ρ, M, ι, s, m, g⟩ => g σ H ι (Ext.refl _ _) s m⟩
theorem fs_continue : FS X (.Continue pos) (fun ρ M => .ct ρ M) := ⟨fun Wx _ => PS.imp ps_continue fun Dd σ H ⟨ρ, M, ι, s, m, g⟩ => g σ H ι (Ext.refl _ _) s m⟩
/-- a value, then a statement's end -/
def Res.sk {α : Type} (r : Res α) (ρ : DSt) (k : α → MH → SR) : SR := match r with
  | .ok a M => k a M
  | .exc c fs M => .exc c fs ρ M
  | .stuck => .stuck
@[simp] theorem Res.sk_ok {α : Type} (a : α) (M : MH) (ρ : DSt) (k : α → MH → SR) : (Res.ok a M).sk ρ k = k a M := rfl
@[simp] theorem Res.sk_stuck {α : Type} (ρ : DSt) (k : α → MH → SR) : (Res.stuck : Res α).sk ρ k = .stuck := rfl
@[simp] theorem Res.sk_exc {α : Type} (c : Str) (fs : List (Str × D)) (M : MH) (ρ : DSt) (k : α → MH → SR) : (Res.exc c fs M : Res α).sk ρ k = .exc c fs ρ M := rfl
theorem TD.sk {K : Ctx} {Wx : WX} {f : Ev D} {k : D → MH → SR} {σ : L2.St} {H : Hp} {ρ : DSt} {M : MH} {ι : List Addr} {Dd : Ends} (hS : RelS K H ι σ ρ) (hM : MemD K H ι M) (h : GoodS K Wx H ι Dd ((f ρ M).sk ρ k)) :
    TD K Wx f σ H fun v H1 => ∃ w M1 ι1, Ext H ι H1 ι1 ∧ RelS K H1 ι1 σ ρ ∧ MemD K H1 ι1 M1 ∧ RelD K H1 ι1 w v ∧ GoodS K Wx H1 ι1 Dd (k w M1) := by
  refine ⟨ρ, M, ι, hS, hM, ?_⟩
  cases e : f ρ M with
  | ok a M1 =>
    rw [e] at h
    exact fun H' ι' x m v r => ⟨a, M1, ι', x, hS.ext x, m, r, GoodS.ext x h⟩
  | exc c fs M1 => rw [e] at h; exact fun cv hv d H' ι' x m q => h cv hv d σ H' ι' x (hS.ext x) m q
  | stuck => rw [e] at h; exact h
theorem TB.sk {K : Ctx} {Wx : WX} {f : Ev Bool} {k : Bool → MH → SR} {σ : L2.St} {H : Hp} {ρ : DSt} {M : MH} {ι : List Addr} {Dd : Ends} (hS : RelS K H ι σ ρ) (hM : MemD K H ι M) (h : GoodS K Wx H ι Dd ((f ρ M).sk ρ k)) :
    TB K Wx f σ H fun b H1 => ∃ M1 ι1, Ext H ι H1 ι1 ∧ RelS K H1 ι1 σ ρ ∧ MemD K H1 ι1 M1 ∧ GoodS K Wx H1 ι1 Dd (k b M1) := by
  refine ⟨ρ, M, ι, hS, hM, ?_⟩
  cases e : f ρ M with
  | ok a M1 =>
    rw [e] at h
    exact fun H' ι' x m => ⟨M1, ι', x, hS.ext x, m, GoodS.ext x h⟩
  | exc c fs M1 => rw [e] at h; exact fun cv hv d H' ι' x m q => h cv hv d σ H' ι' x (hS.ext x) m q
  | stuck => rw [e] at h; exact h
def sExpr (f : Ev D) : Es := fun ρ M => (f ρ M).sk ρ fun _ M1 => .nx ρ M1
theorem fs_expr (he : FE X e f1) (hs : swapsWith e none pos.line X.env = pure false := by rfl) : FS X (.Expr e pos) (sExpr f1) :=
  ⟨fun Wx tk => PS.imp (ps_expr (he.run Wx tk) hs) fun Dd σ H ⟨ρ, M, ι, s, m, g⟩ => (TD.sk s m g).mono fun v H1 ⟨w, M1, ι1, x, s1, m1, r1, g1⟩ => g1 σ H1 ι1 (Ext.refl _ _) s1 m1⟩
theorem fs_doc {x j pos pos'} : FS X (.Expr (.Constant (.str x) j pos) pos') sNext := ⟨fun Wx _ => PS.imp ps_doc fun Dd σ H ⟨ρ, M, ι, s, m, g⟩ => g σ H ι (Ext.refl _ _) s m⟩
def sRet (f : Ev D) : Es := fun ρ M => (f ρ M).sk ρ fun w M1 => .rt w M1
theorem fs_ret (he : FE X e f1) : FS X (.Return (some e) pos) (sRet f1) :=
  ⟨fun Wx tk => PS.imp (ps_ret (he.run Wx tk)) fun Dd σ H ⟨ρ, M, ι, s, m, g⟩ => (TD.sk s m g).mono fun v H1 ⟨w, M1, ι1, x, s1, m1, r1, g1⟩ => g1 v H1 ι1 (Ext.refl _ _) r1 m1⟩
theorem fs_retN : FS X (.Return none pos) (fun ρ M => .rt .non M) := ⟨fun Wx _ => PS.imp ps_retN fun Dd σ H ⟨ρ, M, ι, s, m, g⟩ => g .non H ι (Ext.refl _ _) .non m⟩
def sIf (t : Ev Bool) (g1 g2 : Es) : Es := fun ρ M => (t ρ M).sk ρ fun b M1 => if b = true then g1 ρ M1 else g2 ρ M1
theorem fs_if {c : Expr} {a b : List Stmt} {t : Ev Bool} (hc : FT X c t) (ha : FSs X a g1) (hb : FSs X b g2) : FS X (.If c a b pos) (sIf t g1 g2) :=
  ⟨fun Wx tk => PS.imp (ps_if (hc.run Wx tk) (ha.run Wx tk) (hb.run Wx tk)) fun Dd σ H ⟨ρ, M, ι, s, m, g⟩ => (TB.sk s m g).mono fun k H1 ⟨M1, ι1, x, s1, m1, g'⟩ => by
    cases k with
    | true => exact (if_pos rfl : (if true = true then TSt X.cx Wx g1 Dd σ H1 else TSt X.cx Wx g2 Dd σ H1) = _) ▸ ⟨ρ, M1, ι1, s1, m1, g'⟩
    | false => exact (if_neg (by decide) : (if false = true then TSt X.cx Wx g1 Dd σ H1 else TSt X.cx Wx g2 Dd σ H1) = _) ▸ ⟨ρ, M1, ι1, s1, m1, g'⟩⟩
theorem RelS.set {K : Ctx} {H : Hp} {ι : List Addr} {σ : L2.St} {ρ : DSt} {w : D} {v : V} (r : RelS K H ι σ ρ) (q : RelD K H ι w v) (i : Nat) : RelS K H ι (σ.set i (some v)) (ρ.set i (some w)) := by
  refine ⟨by rw [List.length_set, List.length_set]; exact r.1, fun j w' h => ?_⟩
  by_cases e : i = j
  · subst e
    by_cases hl : i < ρ.length
    · rw [List.getElem?_set_self hl] at h
      cases h
      exact ⟨v, List.getElem?_set_self (by rw [← r.1]; exact hl), q⟩
    · rw [List.getElem?_eq_none (by simpa using hl)] at h; cases h
  · rw [List.getElem?_set_ne e] at h ⊢
    exact r.2 j w' h
def sSet (i : Nat) (f : Ev D) : Es := fun ρ M => (f ρ M).sk ρ fun w M1 => .nx (ρ.set i (some w)) M1
theorem fs_set {i : Nat} {x : Str} {pos' : Pos} (hN : X.N.Nodup) (hi : X.N[i]? = some x) (hx : Loc X.env.scope x) (he : FE X e f1) (hs : swapsWith e (some (.Name x pos')) pos.line X.env = pure false := by rfl) (hf : X.fn x = true ∨ X.env.scope.names.lookup x = some .local := by first | exact .inl rfl | exact .inr rfl | assumption) :
    FS X (.Assign [.Name x pos'] e pos) (sSet i f1) :=
  ⟨fun Wx tk => PS.imp (ps_set hN hi hx (he.run Wx tk) hs hf) fun Dd σ H ⟨ρ, M, ι, s, m, g⟩ => (TD.sk s m g).mono fun v H1 ⟨w, M1, ι1, x, s1, m1, r1, g1⟩ => g1 _ H1 ι1 (Ext.refl _ _) (s1.set r1 i) m1⟩
end

/-! ### targets -/
abbrev Tgt := D → DSt → Option DSt
/-- a target: what it stores; vs: the slots that it may change -/
def TGd (K : Ctx) (vs : List Nat) (h : Tgt) : TG := fun v σ H Q => ∃ (w : D) (ρ : DSt) (ι : List Addr) (ρ' : DSt), RelD K H ι w v ∧ RelS K H ι σ ρ ∧ h w ρ = some ρ' ∧
  ∀ σ', RelS K H ι σ' ρ' → σ'.length = σ.length → (∀ i, i ∉ vs → σ'[i]? = σ[i]?) → Q σ' H
structure FG (X : Cx) (tg : Expr) (vs : List Nat) (h : Tgt) : Prop where
  run : PG X tg (TGd X.cx vs h)
def TGds (K : Ctx) (vs : List Nat) (h : List D → DSt → Option DSt) : TGs := fun us σ H Q => ∃ (ws : List D) (ρ : DSt) (ι : List Addr) (ρ' : DSt), RelDs K H ι ws us ∧ RelS K H ι σ ρ ∧ h ws ρ = some ρ' ∧
  ∀ σ', RelS K H ι σ' ρ' → σ'.length = σ.length → (∀ i, i ∉ vs → σ'[i]? = σ[i]?) → Q σ' H
structure FGs (X : Cx) (tg : List Expr) (vs : List Nat) (h : List D → DSt → Option DSt) : Prop where
  run : PGs X tg (TGds X.cx vs h)
theorem PG.imp {X : Cx} {tg : Expr} {t t' : TG} (h : PG X tg t) (i : ∀ v σ H Q, t' v σ H Q → t v σ H Q) : PG X tg t' := ⟨fun pins s σ H v u Q I r q => h.run pins s σ H v u Q I r (i v σ H Q q)⟩
theorem PGs.imp {X : Cx} {tg : List Expr} {t t' : TGs} (h : PGs X tg t) (i : ∀ v σ H Q, t' v σ H Q → t v σ H Q) : PGs X tg t' := ⟨fun pins s σ H v u Q I r q => h.run pins s σ H v u Q I r (i v σ H Q q)⟩
def tgName (i : Nat) : Tgt := fun w ρ => some (ρ.set i (some w))
def tgNil : List D → DSt → Option DSt
  | [], ρ => some ρ
  | _ :: _, _ => none
def tgCons (h : Tgt) (k : List D → DSt → Option DSt) : List D → DSt → Option DSt
  | [], _ => none
  | w :: ws, ρ => match h w ρ with
    | some ρ1 => k ws ρ1
    | none => none
def tgTup (n : Nat) (k : List D → DSt → Option DSt) : Tgt := fun w ρ => match w with
  | .tup ws => if ws.length = n then k ws ρ else none
  | _ => none
section
variable {X : Cx} {pos : Pos}
theorem fg_name {i : Nat} {x : Str} (hN : X.N.Nodup) (hi : X.N[i]? = some x) (hx : Loc X.env.scope x) (hf : X.fn x = true ∨ X.env.scope.names.lookup x = some .local := by first | exact .inl rfl | exact .inr rfl | assumption) : FG X (.Name x pos) [i] (tgName i) :=
  ⟨PG.imp (pg_name hN hi hx hf) fun v σ H Q ⟨w, ρ, ι, ρ', r, s, e, q⟩ => by
    cases e
    exact q _ (s.set r i) (List.length_set ..) fun j hj => List.getElem?_set_ne (by simpa [eq_comm] using hj)⟩
theorem fgs_nil : FGs X [] [] tgNil := ⟨PGs.imp pgs_nil fun v σ H Q ⟨w, ρ, ι, ρ', r, s, e, q⟩ => by
  cases r with
  | nil => cases e; exact ⟨rfl, q σ s rfl fun _ _ => rfl⟩
  | cons => cases e⟩
theorem fgs_cons {e : Expr} {es : List Expr} {h : Tgt} {k : List D → DSt → Option DSt} {v1 v2 : List Nat} (h1 : FG X e v1 h) (h2 : FGs X es v2 k)
    (hs : (assignEach (e :: es) X.env).map (·.2) = assign e X.env :: (assignEach es X.env).map (·.2) := by rfl) : FGs X (e :: es) (v1 ++ v2) (tgCons h k) :=
  ⟨PGs.imp (pgs_cons h1.run h2.run hs) fun us σ H Q ⟨ws, ρ, ι, ρ', r, s, e, q⟩ => by
    cases r with
    | nil => cases e
    | @cons w v ws vs r1 r2 =>
      unfold tgCons at e
      dsimp only at e
      cases e1 : h w ρ with
      | none => rw [e1] at e; cases e
      | some ρ1 =>
        rw [e1] at e
        refine ⟨v, vs, rfl, w, ρ, ι, ρ1, r1, s, e1, fun σ1 s1 l1 k1 => ⟨ws, ρ1, ι, ρ', r2, s1, e, fun σ2 s2 l2 k2 => q σ2 s2 (l2.trans l1) fun i hi => ?_⟩⟩
        rw [List.mem_append, not_or] at hi
        exact (k2 i hi.2).trans (k1 i hi.1)⟩
theorem fg_tup {es : List Expr} {k : Nat} {h : List D → DSt → Option DSt} {n : Nat} {vs : List Nat} (hc : X.calm = true) (h1 : FGs X es vs h) (hn : (assignEach es X.env).length = n := by rfl) (hst : (assignEach es X.env).findIdx? (·.1) = none := by rfl) : FG X (.Tuple es k pos) vs (tgTup n h) :=
  ⟨PG.imp (pg_tup hc h1.run hn hst) fun v σ H Q ⟨w, ρ, ι, ρ', r, s, e, q⟩ => by
    cases r with
    | tup hT rr =>
      unfold tgTup at e
      dsimp only at e
      split at e
      · rename_i hl
        exact ⟨_, _, rfl, hT, by rw [rr.length]; exact hl, _, ρ, ι, ρ', rr, s, e, q⟩
      · cases e
    | _ => cases e⟩
/-- tuple = value -/
def sAsg (h : Tgt) (f : Ev D) : Es := fun ρ M => (f ρ M).sk ρ fun w M1 => match h w ρ with
  | some ρ' => .nx ρ' M1
  | none => .stuck
theorem fs_asg {tg e : Expr} {f1 : Ev D} {vs : List Nat} {h : Tgt} (he : FE X e f1) (hg : FG X tg vs h) (hs : swapsWithSole [tg] e pos.line X.env = pure false := by rfl) (hw : swappedStores [tg] e X.env = pure none := by rfl)
    (h1 : (assignEach [tg] X.env).map (·.2) = [assign tg X.env] := by rfl) : FS X (.Assign [tg] e pos) (sAsg h f1) :=
  ⟨fun Wx tk => PS.imp (ps_asg (he.run Wx tk) hg.run hs hw h1) fun Dd σ H ⟨ρ, M, ι, s, m, g⟩ => (TD.sk s m g).mono fun v H1 ⟨w, M1, ι1, x, s1, m1, r1, g1⟩ => by
    cases e1 : h w ρ with
    | none => rw [e1] at g1; exact g1.elim
    | some ρ' =>
      rw [e1] at g1
      exact ⟨w, ρ, ι1, ρ', r1, s1, e1, fun σ' s' _ _ => g1 σ' H1 ι1 (Ext.refl _ _) s' m1⟩⟩
end
end FL

namespace FL
open PySem PySem.Spec PyProof.Rows L2

/-! ### what is walked -/
def WalkD (K : Ctx) (H : Hp) (ι : List Addr) (J : It) (items : List D) : Prop := ∃ (G : Hp → Prop) (Y : Nat → Hp → V → Hp → Prop), Walk J items.length G Y ∧ (∀ H' ι', Ext H ι H' ι' → G H') ∧
    ∀ i H1 ι1 x H2, Ext H ι H1 ι1 → i < items.length → Y i H1 x H2 → ∃ d, items[i]? = some d ∧ Ext H1 ι1 H2 ι1 ∧ RelD K H2 ι1 d x ∧ ∀ M, MemD K H1 ι1 M → MemD K H2 ι1 M
def TI' (K : Ctx) (Wx : WX) (f : Ev (List D)) : TI := fun σ H R => ∃ (ρ : DSt) (M : MH) (ι : List Addr), RelS K H ι σ ρ ∧ MemD K H ι M ∧
  Good K H ι (fun items _ H' ι' => ∀ J, WalkD K H' ι' J items → R J H') (fun c d H' => Wx c d σ H') (f ρ M)
structure FI (X : Cx) (tg iter : Expr) (f : Ev (List D)) : Prop where
  run : ∀ Wx, Takes X Wx → PI X tg iter (TI' X.cx Wx f)
theorem PI.imp {X : Cx} {tg iter : Expr} {t t' : TI} (h : PI X tg iter t) (i : ∀ σ H R, t' σ H R → t σ H R) : PI X tg iter t' := ⟨fun pins s σ H R I q => h.run pins s σ H R I (i σ H R q)⟩
theorem PI_or {X : Cx} {tg iter : Expr} {t t' : TI} (h : PI X tg iter t) (h' : PI X tg iter t') : PI X tg iter (fun σ H R => t σ H R ∨ t' σ H R) := ⟨fun pins s σ H R I q => by
  rcases q with q | q
  · exact h.run pins s σ H R I q
  · exact h'.run pins s σ H R I q⟩
theorem WalkD.list {K : Ctx} {H : Hp} {ι : List Addr} {a : Addr} {ws : List D} {vs : List V} (h : LstF K H a vs) (r : RelDs K H ι ws vs) : WalkD K H ι (Itl K.K a) ws :=
  ⟨fun H' => SqL K.K H' a vs, YAt vs, by rw [← r.length]; exact walk_list, fun H' ι' x => (x.lstF h).seq, fun i H1 ι1 y H2 x hi ⟨e, hy⟩ => by
    subst e
    obtain ⟨d, h1, h2⟩ := r.get' hy
    exact ⟨d, h1, Ext.refl _ _, h2.ext x, fun _ m => m⟩⟩
theorem WalkD.tup {K : Ctx} {H : Hp} {ι : List Addr} {a : Addr} {ws : List D} {vs : List V} (h : SqT K.K H a vs) (r : RelDs K H ι ws vs) : WalkD K H ι (Itt K.K a) ws :=
  ⟨fun H' => SqT K.K H' a vs, YAt vs, by rw [← r.length]; exact walk_tup, fun H' ι' x => x.sqT h, fun i H1 ι1 y H2 x hi ⟨e, hy⟩ => by
    subst e
    obtain ⟨d, h1, h2⟩ := r.get' hy
    exact ⟨d, h1, Ext.refl _ _, h2.ext x, fun _ m => m⟩⟩
def signs (x : Str) : List D := x.cps.toList.map fun c => .str ⟨#[c]⟩
theorem WalkD.text {K : Ctx} {H : Hp} {ι : List Addr} {x : Str} : WalkD K H ι (Its x) (signs x) :=
  ⟨fun _ => True, _, by rw [signs, List.length_map, Array.length_toList]; exact walk_str, fun _ _ _ => trivial, fun i H1 ι1 y H2 _ hi q => by
    obtain ⟨e, c, hc, hy⟩ := q
    subst e; subst hy
    exact ⟨.str ⟨#[c]⟩, by simp [signs, hc], Ext.refl _ _, .str _, fun _ m => m⟩⟩
def itemsOf : D → MH → Res (List D)
  | .tup ws, M => .ok ws M
  | .lst ws, M => .ok ws M
  | .str x, M => .ok (signs x) M
  | _, _ => .stuck
def eItems (f : Ev D) : Ev (List D) := fun ρ M => (f ρ M).bind itemsOf
section
variable {X : Cx} {tg e : Expr} {f1 : Ev D} {pos : Pos}
theorem fi_any (he : FE X e f1) : FI X tg e (eItems f1) := ⟨fun Wx tk => by
  have p1 := pi_list (tg := tg) (he.run Wx tk)
  have p2 := pi_tup (tg := tg) (he.run Wx tk)
  have p3 := pi_str (tg := tg) (he.run Wx tk)
  refine PI.imp (PI_or p1 (PI_or p2 p3)) fun σ H R ⟨ρ, M, ι, hS, hM, g⟩ => ?_
  unfold eItems at g
  cases q : f1 ρ M with
  | exc c fs M1 =>
    rw [q] at g
    exact .inl ⟨ρ, M, ι, hS, hM, by rw [q]; exact g⟩
  | stuck => rw [q] at g; exact g.elim
  | ok w M1 =>
    rw [q, Res.bind_ok] at g
    cases w with
    | tup ws =>
      refine .inr (.inl ⟨ρ, M, ι, hS, hM, ?_⟩)
      rw [q]
      intro H' ι' x m v r
      cases r with
      | tup hT rr => exact ⟨_, rfl, ⟨_, hT⟩, g H' ι' x m _ (WalkD.tup hT rr)⟩
    | lst ws =>
      refine .inl ⟨ρ, M, ι, hS, hM, ?_⟩
      rw [q]
      intro H' ι' x m v r
      cases r with
      | lst hT rr => exact ⟨_, rfl, ⟨_, hT.seq⟩, g H' ι' x m _ (WalkD.list hT rr)⟩
    | str z =>
      refine .inr (.inr ⟨ρ, M, ι, hS, hM, ?_⟩)
      rw [q]
      intro H' ι' x m v r
      cases r with
      | str => exact ⟨z, rfl, g H' ι' x m _ WalkD.text⟩
    | _ => exact g.elim⟩
theorem WalkD.range {K : Ctx} {H : Hp} {ι : List Addr} {lo : Int} {n : Nat} : WalkD K H ι (Itr lo n) ((List.range n).map fun i => .int (lo + (i : Nat))) :=
  ⟨fun _ => True, _, by rw [List.length_map, List.length_range]; exact walk_range, fun _ _ _ => trivial, fun i H1 ι1 y H2 _ hi q => by
    obtain ⟨e, hy⟩ := q
    subst e; subst hy
    rw [List.length_map, List.length_range] at hi
    exact ⟨.int (lo + (i : Nat)), by simp [hi], Ext.refl _ _, .int _, fun _ m => m⟩⟩
def rangeD (lo : Int) (n : Nat) : List D := (List.range n).map fun i => .int (lo + (i : Nat))
def gRange1 (ws : List D) (M : MH) : Res (List D) := match ws with
  | [.int j] => if -(2 ^ 62) ≤ j ∧ j < 2 ^ 62 then .ok (rangeD 0 j.toNat) M else .stuck
  | _ => .stuck
def gRange2 (ws : List D) (M : MH) : Res (List D) := match ws with
  | [.int i, .int j] => if -(2 ^ 62) ≤ i ∧ i < 2 ^ 62 ∧ -(2 ^ 62) ≤ j ∧ j < 2 ^ 62 then .ok (rangeD i (j - i).toNat) M else .stuck
  | _ => .stuck
def eRange1 (fr : Ev (List D)) : Ev (List D) := fun ρ M => (fr ρ M).bind gRange1
def eRange2 (fr : Ev (List D)) : Ev (List D) := fun ρ M => (fr ρ M).bind gRange2
variable {fr : Ev (List D)} {e1 e2 : Expr} {p : Pos}
theorem RelDs.one {K : Ctx} {H : Hp} {ι : List Addr} {w : D} {vs : List V} (r : RelDs K H ι [w] vs) : ∃ v, vs = [v] ∧ RelD K H ι w v := by
  cases r with
  | cons r1 r2 => cases r2; exact ⟨_, rfl, r1⟩
theorem RelDs.two {K : Ctx} {H : Hp} {ι : List Addr} {w x : D} {vs : List V} (r : RelDs K H ι [w, x] vs) : ∃ v u, vs = [v, u] ∧ RelD K H ι w v ∧ RelD K H ι x u := by
  cases r with
  | cons r1 r2 => obtain ⟨u, rfl, q⟩ := r2.one; exact ⟨_, u, rfl, r1, q⟩
theorem fi_range1 (hg : Gl X "range") (hm : X.mg "range" = none) (ha : FA X [e1] fr) (hs : starEach [e1] X.env = [(false, eval e1 X.env)] := by rfl) : FI X tg (.Call (.Name "range" p) [e1] [] pos) (eRange1 fr) :=
  ⟨fun Wx tk => PI.imp (pi_range1 hg hm (ha.run Wx tk) hs) fun σ H R ⟨ρ, M, ι, hS, hM, g⟩ => (TL.bind hS hM g).mono fun vs H1 ⟨ws, M1, ι1, x, s, m, r, g1⟩ => by
    unfold gRange1 at g1
    split at g1
    · rename_i j
      split at g1
      · rename_i hj
        obtain ⟨v, rfl, r1⟩ := r.one
        cases r1
        exact ⟨j, rfl, hj.1, hj.2, g1 H1 ι1 (Ext.refl _ _) m _ WalkD.range⟩
      · exact g1.elim
    · exact g1.elim⟩
theorem fi_range2 (hg : Gl X "range") (hm : X.mg "range" = none) (ha : FA X [e1, e2] fr) (hs : starEach [e1, e2] X.env = [(false, eval e1 X.env), (false, eval e2 X.env)] := by rfl) (hs2 : starEach [e2] X.env = [(false, eval e2 X.env)] := by rfl) : FI X tg (.Call (.Name "range" p) [e1, e2] [] pos) (eRange2 fr) :=
  ⟨fun Wx tk => PI.imp (pi_range2 hg hm (ha.run Wx tk) hs hs2) fun σ H R ⟨ρ, M, ι, hS, hM, g⟩ => (TL.bind hS hM g).mono fun vs H1 ⟨ws, M1, ι1, x, s, m, r, g1⟩ => by
    unfold gRange2 at g1
    split at g1
    · rename_i i j
      split at g1
      · rename_i hj
        obtain ⟨v, u, rfl, r1, r2⟩ := r.two
        cases r1
        cases r2
        exact ⟨i, j, rfl, hj, g1 H1 ι1 (Ext.refl _ _) m _ WalkD.range⟩
      · exact g1.elim
    · exact g1.elim⟩
end

/-! ### for -/
def forD (h : Tgt) (body : Es) : List D → DSt → MH → SR
  | [], ρ, M => .nx ρ M
  | w :: r, ρ, M => match h w ρ with
    | none => .stuck
    | some ρ1 => match body ρ1 M with
      | .nx ρ2 M2 => forD h body r ρ2 M2
      | .ct ρ2 M2 => forD h body r ρ2 M2
      | .bk ρ2 M2 => .nx ρ2 M2
      | r' => r'
def sFor (src : Ev (List D)) (h : Tgt) (body : Es) : Es := fun ρ M => (src ρ M).sk ρ fun items M1 => forD h body items ρ M1
section
variable {X : Cx} {iter tg : Expr} {body : List Stmt} {src : Ev (List D)} {h : Tgt} {g : Es} {vs : List Nat} {pos : Pos}
theorem drop_cons {α : Type} {l : List α} {i : Nat} {x : α} (h : l[i]? = some x) : l.drop i = x :: l.drop (i + 1) := by
  obtain ⟨h1, h2⟩ := List.getElem?_eq_some_iff.mp h
  rw [List.drop_eq_getElem_cons h1, h2]
theorem fs_for (hp : PassesOwn (model X.prog X.w) X.A X.env X.xe) (hc : X.calm = true) (hi : FI X tg iter src) (hg : FG X tg vs h) (hb : FSs X body g) (hs : ∀ x, foldedSetIterable iter X.env x = pure x := by intro _; rfl) :
    FS X (.For tg iter body [] pos) (sFor src h g) :=
  ⟨fun Wx tk => PS.imp (ps_for hp hc (hi.run Wx tk) hg.run (hb.run Wx tk) hs) fun Dd σ H ⟨ρ, M, ι, hS, hM, q⟩ => by
    refine ⟨ρ, M, ι, hS, hM, ?_⟩
    unfold sFor at q
    cases e : src ρ M with
    | stuck => rw [e] at q; exact q.elim
    | exc c fs M1 => rw [e] at q; exact fun cv hv d H' ι' x m z => q cv hv d σ H' ι' x (hS.ext x) m z
    | ok items M1 =>
      rw [e, Res.sk_ok] at q
      intro H1 ι1 x1 m1 J wd
      obtain ⟨G, Y, wk, hG, hY⟩ := wd
      refine for_it wk (fun i σ' H' => ∃ (ρ' : DSt) (M' : MH) (ι' : List Addr), Ext H1 ι1 H' ι' ∧ RelS X.cx H' ι' σ' ρ' ∧ MemD X.cx H' ι' M' ∧ GoodS X.cx Wx H ι Dd (forD h g (items.drop i) ρ' M')) ?_ ?_ ?_ ?_
      · exact ⟨ρ, M1, ι1, Ext.refl _ _, hS.ext x1, m1, q⟩
      · rintro i σ' H' _ ⟨ρ', M', ι', x, _⟩
        exact hG H' ι' x
      · rintro i y σ' H' H2 hi' ⟨ρ', M', ι', x, s', m', q'⟩ hy
        obtain ⟨d, hd, x2, r2, mm⟩ := hY i H' ι' y H2 x hi' hy
        rw [drop_cons hd, forD] at q'
        cases e1 : h d ρ' with
        | none => rw [e1] at q'; exact q'.elim
        | some ρ1 =>
          rw [e1] at q'
          refine ⟨d, ρ', ι', ρ1, r2, s'.ext x2, e1, fun σ3 s3 _ _ => ⟨ρ1, M', ι', s3, mm M' m', ?_⟩⟩
          have xx : Ext H ι H2 ι' := x1.trans (x.trans x2)
          dsimp only at q'
          cases e2 : g ρ1 M' with
          | nx ρ2 M2 =>
            rw [e2] at q'
            exact fun σ4 H4 ι4 x4 s4 m4 => ⟨ρ2, M2, ι4, x.trans (x2.trans x4), s4, m4, q'⟩
          | ct ρ2 M2 =>
            rw [e2] at q'
            exact fun σ4 H4 ι4 x4 s4 m4 => ⟨ρ2, M2, ι4, x.trans (x2.trans x4), s4, m4, q'⟩
          | bk ρ2 M2 =>
            rw [e2] at q'
            exact fun σ4 H4 ι4 x4 s4 m4 => q' σ4 H4 ι4 (xx.trans x4) s4 m4
          | rt w M2 =>
            rw [e2] at q'
            exact fun v H4 ι4 x4 s4 m4 => q' v H4 ι4 (xx.trans x4) s4 m4
          | exc c fs ρ2 M2 =>
            rw [e2] at q'
            exact fun cv hv d σ4 H4 ι4 x4 s4 m4 z => q' cv hv d σ4 H4 ι4 (xx.trans x4) s4 m4 z
          | stuck => rw [e2] at q'; exact q'
      · rintro σ' H' ⟨ρ', M', ι', x, s', m', q'⟩
        rw [List.drop_length, forD] at q'
        exact q' σ' H' ι' (x1.trans x) s' m'⟩
end

/-! ### comprehensions -/
def wipeD (ρ : DSt) : List Nat → DSt
  | [] => ρ
  | v :: vs => (wipeD ρ vs).set v none
theorem RelS.clear {K : Ctx} {H : Hp} {ι : List Addr} {σ : L2.St} {ρ : DSt} (r : RelS K H ι σ ρ) (i : Nat) : RelS K H ι (σ.set i none) (ρ.set i none) := by
  refine ⟨by rw [List.length_set, List.length_set]; exact r.1, fun j w' h => ?_⟩
  by_cases e : i = j
  · subst e
    by_cases hl : i < ρ.length
    · rw [List.getElem?_set_self hl] at h; cases h
    · rw [List.getElem?_eq_none (by simpa using hl)] at h; cases h
  · rw [List.getElem?_set_ne e] at h ⊢
    exact r.2 j w' h
theorem RelS.wipe {K : Ctx} {H : Hp} {ι : List Addr} {σ : L2.St} {ρ : DSt} (r : RelS K H ι σ ρ) : ∀ vs, RelS K H ι (L2.wipe σ vs) (wipeD ρ vs)
  | [] => r
  | v :: vs => (RelS.wipe r vs).clear v
theorem wipe_get {σ : L2.St} {i : Nat} : ∀ {vs : List Nat}, (L2.wipe σ vs)[i]? = if i ∈ vs then (if i < σ.length then some none else none) else σ[i]?
  | [] => by simp [L2.wipe]
  | v :: vs => by
    unfold L2.wipe
    by_cases e : v = i
    · subst e
      rw [if_pos (List.mem_cons_self)]
      by_cases hl : v < σ.length
      · rw [if_pos hl, List.getElem?_set_self (by rw [wipe_length]; exact hl)]
      · rw [if_neg hl, List.getElem?_eq_none (by rw [List.length_set, wipe_length]; omega)]
    · rw [List.getElem?_set_ne e, wipe_get (vs := vs)]
      have : (i ∈ v :: vs) ↔ i ∈ vs := by simp [Ne.symm e]
      simp [this]
theorem wipe_eq {σ σ' : L2.St} {vs us : List Nat} (hl : σ'.length = σ.length) (hsub : ∀ i ∈ us, i ∈ vs) (h : ∀ i, i ∉ us → σ'[i]? = (L2.wipe σ vs)[i]?) : L2.wipe σ' vs = L2.wipe σ vs := by
  apply List.ext_getElem?
  intro i
  rw [wipe_get, wipe_get, hl]
  by_cases hi : i ∈ vs
  · rw [if_pos hi, if_pos hi]
  · rw [if_neg hi, if_neg hi, h i (fun z => hi (hsub i z)), wipe_get, if_neg hi]
def lcD (h : Tgt) (t : Ev Bool) (f : Ev D) (ρ0 : DSt) : List D → MH → Res (List D)
  | [], M => .ok [] M
  | w :: r, M => match h w ρ0 with
    | none => .stuck
    | some ρ1 => (noX (t ρ1 M)).bind fun b M1 => if b = true then (noX (f ρ1 M1)).bind fun y M2 => (lcD h t f ρ0 r M2).bind fun ys M3 => .ok (y :: ys) M3
      else lcD h t f ρ0 r M1
/-- a comprehension's list, closed -/
def eLc (src : Ev (List D)) (h : Tgt) (t : Ev Bool) (f : Ev D) (vs : List Nat) : Ev D := fun ρ M => (src ρ M).bind fun items M1 => if items.length ≤ sizeLine then (lcD h t f (wipeD ρ vs) items M1).bind fun ys M2 => .ok (.lst ys) M2 else .stuck
structure FTs (X : Cx) (es : List Expr) (f : Ev Bool) : Prop where
  run : ∀ Wx, Takes X Wx → PTs X es (TB X.cx Wx f)
section
variable {X : Cx} {tg e iter elt : Expr} {ifs : List Expr} {f : Ev D} {t : Ev Bool} {src : Ev (List D)} {h : Tgt} {pos : Pos} {scope : Scope} {own : List (Str × Nat)} {us : List Nat}
theorem PTs.imp {ifs : List Expr} {t t' : TT} (h : PTs X ifs t) (i : ∀ σ H Q, t' σ H Q → t σ H Q) : PTs X ifs t' := ⟨fun pins s σ H Q I q => h.run pins s σ H Q I (i σ H Q q)⟩
def eYes : Ev Bool := fun _ M => .ok true M
theorem fts_nil : FTs X [] eYes := ⟨fun Wx _ => PTs.imp pts_nil fun σ H Q ⟨ρ, M, ι, s, m, g⟩ => g H ι (Ext.refl _ _) m⟩
theorem fts_one (h : FT X e t) : FTs X [e] t := ⟨fun Wx tk => pts_one (h.run Wx tk)⟩
theorem MemD.other {K : Ctx} {H : Hp} {ι : List Addr} {M : MH} {p : Addr} {o : HO} (m : MemD K H ι M) (hp : p ∉ ι) (hd : ∀ d fs, H d = some (.xd fs) → d ≠ p) (hx : ∀ ws vs, RelDs K H ι ws vs → RelDs K (upd H p o) ι ws vs) : MemD K (upd H p o) ι M := by
  refine ⟨m.len, m.nd, fun n mo a h1 h2 => ?_, fun n a h => ?_⟩
  · have hb : a ≠ p := fun z => hp (z ▸ List.mem_of_getElem? h2)
    have q := m.obj n mo a h1 h2
    cases mo with
    | lst ws => obtain ⟨vs, h, r⟩ := q; exact ⟨vs, by rw [upd_ne hb]; exact h, hx _ _ r⟩
    | dct kvs => exact q.elim
    | ins C fs => obtain ⟨dx, vs, h, r⟩ := q; exact ⟨dx, vs, by rw [upd_ne hb]; exact h, hx _ _ r⟩
    | exc C fs => obtain ⟨d, vs, ⟨C', hC, h⟩, z, r⟩ := q; exact ⟨d, vs, ⟨C', hC, by rw [upd_ne hb]; exact h⟩, z.go fun d' e n => ⟨by rw [upd_ne (hd _ _ e)]; exact e, n⟩, hx _ _ r⟩
    | dead => trivial
  · obtain ⟨o', h'⟩ := m.there n a h
    by_cases hb : a = p
    · subst hb; exact ⟨o, upd_same⟩
    · exact ⟨o', by rw [upd_ne hb]; exact h'⟩
/-- a change of a list that is not ours: what is related stays so -/
theorem Ext.side {H : Hp} {p : Addr} {vs : List V} {o : HO} {ι : List Addr} (hp : H p = some (.lst vs)) : Ext H (p :: ι) (upd H p o) (p :: ι) :=
  Ext.put List.mem_cons_self (by rw [hp]; trivial)
mutual
theorem RelD.side {K : Ctx} {H : Hp} {ι : List Addr} {p : Addr} {vs : List V} {o : HO} (hp : H p = some (.lst vs)) : ∀ {w : D} {v : V}, RelD K H ι w v → RelD K (upd H p o) ι w v
  | _, _, .non => .non
  | _, _, .bl b => .bl b
  | _, _, .int b => .int b
  | _, _, .str b => .str b
  | _, _, .ty b => .ty b
  | _, _, .glb b => .glb b
  | _, _, .tup h r => .tup ((Ext.side (ι := ι) hp).sqT h) (RelDs.side hp r)
  | _, _, .lst h r => .lst ((Ext.side (ι := ι) hp).lstF h) (RelDs.side hp r)
  | _, _, .dct h r z => .dct ((Ext.side (ι := ι) hp).dctF h) (RelE.side hp r) z
  | _, _, .set h => .set ((Ext.side (ι := ι) hp).setF h)
  | _, _, .ob h => .ob h
theorem RelDs.side {K : Ctx} {H : Hp} {ι : List Addr} {p : Addr} {vs : List V} {o : HO} (hp : H p = some (.lst vs)) : ∀ {w : List D} {v : List V}, RelDs K H ι w v → RelDs K (upd H p o) ι w v
  | _, _, .nil => .nil
  | _, _, .cons h r => .cons (RelD.side hp h) (RelDs.side hp r)
theorem RelE.side {K : Ctx} {H : Hp} {ι : List Addr} {p : Addr} {vs : List V} {o : HO} (hp : H p = some (.lst vs)) : ∀ {w : List (D × D)} {v : List DictEntry}, RelE K H ι w v → RelE K (upd H p o) ι w v
  | _, _, .nil => .nil
  | _, _, .cons h1 h2 h3 h4 r => .cons (RelD.side hp h1) h2 (RelD.side hp h3) h4 (RelE.side hp r)
end
theorem Ext.behind {H H1 : Hp} {ι ι1 : List Addr} {p : Addr} {o : HO} {vs : List V} (x : Ext H ι H1 ι1) (h0 : H p = none) (h1 : H1 p = some (.lst vs)) : Ext H ι (upd H1 p o) ι1 where
  pre := x.pre
  fresh := x.fresh
  frame := fun a ob h hb => by rw [upd_ne (ne_of_none h h0)]; exact x.frame a ob h hb
  tups := fun a xs h => by rw [upd_ne (ne_of_none h h0)]; exact x.tups a xs h
  frzs := fun a ob u h => by rw [upd_ne (ne_of_none h h0)]; exact x.frzs a ob u h
theorem noX_ok {α β : Type} {K : Ctx} {H : Hp} {ι : List Addr} {R : β → MH → Hp → List Addr → Prop} {W : Value → Option Addr → Hp → Prop} {r : Res α} {k : α → MH → Res β} (g : Good K H ι R W ((noX r).bind k)) : ∃ a M, r = .ok a M ∧ Good K H ι R W (k a M) := by
  cases r with
  | ok a M => exact ⟨a, M, rfl, g⟩
  | exc c fs M => exact g.elim
  | stuck => exact g.elim
def accB (acc : List D) (r : Res (List D)) : Res D := r.bind fun ys M => .ok (.lst (acc ++ ys)) M
theorem lc_reads {X : Cx} {vs : List Nat} {Wx : WX} {σ : L2.St} {H : Hp} {Q Z : VK} (hsub : ∀ i ∈ us, i ∈ vs) (hh : TD X.cx Wx (eLc src h t f vs) σ H Q) (iz : ∀ v H', frzK Q v H' → Z v H') :
    tLc (TI' X.cx Wx src) (TGd X.cx us h) (TB X.cx (fun _ _ _ _ => False) t) (TD X.cx (fun _ _ _ _ => False) f) vs σ H Z := by
    obtain ⟨ρ, M, ι, hS, hM, q⟩ := hh
    refine ⟨ρ, M, ι, hS, hM, ?_⟩
    unfold eLc at q
    cases e : src ρ M with
    | stuck => rw [e] at q; exact q.elim
    | exc c fs M1 => rw [e] at q; exact q
    | ok items M1 =>
      rw [e, Res.bind_ok] at q
      split at q
      · rename_i hlen
        intro H1 ι1 x1 m1 J wd Dl hD
        obtain ⟨G, Y, wk, hG, hY⟩ := wd
        have s1 : RelS X.cx H1 ι1 (L2.wipe σ vs) (wipeD ρ vs) := (hS.ext x1).wipe _
        have q1 := Good.ext x1 q
        refine lc_it (Qd := fun H' => Z (.ref Dl) H') wk (fun i H' => ∃ (M' : MH) (ι' : List Addr) (acc : List D) (av : List V), Ext H1 ι1 H' ι' ∧ MemD X.cx H' ι' M' ∧ H' Dl = some (.lst av) ∧ RelDs X.cx H' ι' acc av ∧ Dl ∉ ι' ∧ acc.length ≤ i ∧
          Good X.cx H1 ι1 (fun w _ H' ι' => ∀ v, RelD X.cx H' ι' w v → Q v H') (fun c d H' => Wx c d σ H') (accB acc (lcD h t f (wipeD ρ vs) (items.drop i) M'))) ?_ ?_ ?_ ?_
        · refine ⟨M1, ι1, [], [], Ext.new hD, m1.new hD, upd_same, .nil, fun z => ?_, Nat.le_refl _, ?_⟩
          · obtain ⟨n, hn⟩ := List.getElem?_of_mem z
            obtain ⟨o, ho⟩ := m1.there n Dl hn
            rw [hD] at ho; cases ho
          · exact q1
        · rintro i H' _ ⟨M', ι', acc, av, x, _⟩
          exact hG H' ι' x
        · rintro i y H' H2 hi' ⟨M', ι', acc, av, x, m', hDl, ra, nD, la, q'⟩ hy
          obtain ⟨d, hd, x2, r2, mm⟩ := hY i H' ι' y H2 x hi' hy
          rw [drop_cons hd, lcD] at q'
          cases e1 : h d (wipeD ρ vs) with
          | none => rw [e1] at q'; exact q'.elim
          | some ρ1 =>
            rw [e1] at q'
            have nD2 : H2 Dl = some (.lst av) := x2.frame Dl _ hDl nD
            refine ⟨d, _, ι', ρ1, r2, s1.ext (x.trans x2), e1, fun σ3 s3 l3 k3 => ⟨wipe_eq (us := us) (l3.trans (wipe_length _ _)) hsub k3, ρ1, M', ι', s3, mm M' m', ?_⟩⟩
            dsimp only at q'
            -- the test
            cases e2 : t ρ1 M' with
            | stuck => rw [e2] at q'; exact q'.elim
            | exc c fs M2 => rw [e2] at q'; exact q'.elim
            | ok b M2 =>
              rw [e2] at q'
              intro H3 ι3 x3 m3
              have nD3 : Dl ∉ ι3 := fun z => by
                rcases x3.fresh Dl z with z2 | z2
                · exact nD z2
                · rw [nD2] at z2; cases z2
              have hD3 : H3 Dl = some (.lst av) := x3.frame Dl _ nD2 nD
              have ra3 := (ra.ext x2).ext x3
              cases b with
              | false =>
                refine (iteF ?_ : if false = true then _ else _)
                exact ⟨M2, ι3, acc, av, x.trans (x2.trans x3), m3, hD3, ra3, nD3, Nat.le_succ_of_le la, q'⟩
              | true =>
                refine (iteT ?_ : if true = true then _ else _)
                refine ⟨ρ1, M2, ι3, s3.ext x3, m3, ?_⟩
                have q2 : Good X.cx H1 ι1 (fun w _ H' ι' => ∀ v, RelD X.cx H' ι' w v → Q v H') (fun c d H' => Wx c d σ H') (accB acc ((noX (f ρ1 M2)).bind fun y M2 => (lcD h t f (wipeD ρ vs) (items.drop (i + 1)) M2).bind fun ys M3 => .ok (y :: ys) M3)) := q'
                cases e4 : f ρ1 M2 with
                | stuck => rw [e4] at q2; exact q2.elim
                | exc c fs M4 => rw [e4] at q2; exact q2.elim
                | ok yd M4 =>
                  rw [e4] at q2
                  intro H4 ι4 x4 m4 v rv
                  have nD4 : Dl ∉ ι4 := fun z => by
                    rcases x4.fresh Dl z with z2 | z2
                    · exact nD3 z2
                    · rw [hD3] at z2; cases z2
                  have hD4 : H4 Dl = some (.lst av) := x4.frame Dl _ hD3 nD3
                  have ra4 := ra3.ext x4
                  refine ⟨av, hD4, ?_, M4, ι4, acc ++ [yd], av ++ [v], Ext.behind (x.trans (x2.trans (x3.trans x4))) hD hD4, m4.other nD4 (fun _ _ e z => by rw [z, hD4] at e; cases e) (fun _ _ r => r.side hD4), upd_same, (ra4.side hD4).append (.cons (rv.side hD4) .nil), nD4, ?_, ?_⟩
                  · rw [ra4.length]; omega
                  · rw [List.length_append]; simp; omega
                  · have q3 : Good X.cx H1 ι1 (fun w _ H' ι' => ∀ v, RelD X.cx H' ι' w v → Q v H') (fun c d H' => Wx c d σ H') (accB acc ((lcD h t f (wipeD ρ vs) (items.drop (i + 1)) M4).bind fun ys M3 => .ok (yd :: ys) M3)) := q2
                    revert q3
                    unfold accB
                    cases lcD h t f (wipeD ρ vs) (items.drop (i + 1)) M4 with
                    | ok ys M5 =>
                      simp only [Res.bind_ok, List.append_assoc, List.singleton_append]
                      exact id
                    | exc c fs M5 => exact id
                    | stuck => exact id
        · rintro H' ⟨M', ι', acc, av, x, m', hDl, ra, nD, la, q'⟩
          rw [List.drop_length, lcD] at q'
          have q2 : Good X.cx H1 ι1 (fun w _ H' ι' => ∀ v, RelD X.cx H' ι' w v → Q v H') (fun c d H' => Wx c d σ H') (.ok (.lst (acc ++ [])) M') := q'
          rw [List.append_nil] at q2
          refine iz _ _ ⟨Dl, .lst av, rfl, hDl, trivial, fun o => ?_⟩
          have xx : Ext H1 ι1 (upd H' Dl (.frz o (.lst av))) ι' := x.behind hD hDl
          exact q2 _ ι' xx (m'.other nD (fun _ _ e z => by rw [z, hDl] at e; cases e) (fun _ _ r => r.side hDl)) _ (.lst (.inl ⟨o, upd_same⟩) (ra.side hDl))
      · exact q.elim
theorem fe_lc (hc : X.calm = true) (hN : X.N.Nodup) (hi : FI X tg iter src) (ok : BlkOk X.N X.env.scope scope own) (hsub : ∀ i ∈ us, i ∈ own.map (·.2))
    (hg : ∀ (s : Shared) (H : Hp) (C : Addr) (cl : List (Str × Addr)) (fp : List Addr), FG (X.blk s H scope (compEnvC scope cl C X.env) fp) tg us h) (ht : ∀ (s : Shared) (H : Hp) (C : Addr) (cl : List (Str × Addr)) (fp : List Addr), FTs (X.blk s H scope (compEnvC scope cl C X.env) fp) ifs t)
    (he : ∀ (s : Shared) (H : Hp) (C : Addr) (cl : List (Str × Addr)) (fp : List Addr), FE (X.blk s H scope (compEnvC scope cl C X.env) fp) elt f) (hs : ∀ x, foldedSetIterable iter X.env x = pure x := by intro _; rfl) :
    FE X (.ListComp elt [⟨tg, iter, ifs, 0⟩] scope pos) (eLc src h t f (own.map (·.2))) :=
  ⟨fun Wx tk => PE.imp (PE.frz (pe_lc (g := TGd X.cx us h) (tt := TB X.cx (fun _ _ _ _ => False) t) (te := TD X.cx (fun _ _ _ _ => False) f) hc hN (hi.run Wx tk) ok (fun s H C cl fp => (hg s H C cl fp).run) (fun s H C cl fp => (ht s H C cl fp).run (fun _ _ _ _ => False) takes0) (fun s H C cl fp => (he s H C cl fp).run (fun _ _ _ _ => False) takes0) hs)) fun σ H Q q => lc_reads hsub q fun _ _ z => z⟩
/-- what was just stored is closed -/
def frzN (nx : L2.St → Hp → Prop) : L2.St → Hp → Prop := fun σ H => ∃ a u, H a = some u ∧ Mut (some u) ∧ ∀ o, nx σ (upd H a (.frz o u))
theorem PS.frzN {st : Stmt} {tS : TS} (hp : PS X st tS) : PS X st (fun Dd σ H => tS { Dd with nx := FL.frzN Dd.nx } σ H) := ⟨fun pins s σ H Dd I hw => thn (hp.run pins s σ H _ I hw) fun fl s' q => by
  cases fl with
  | next =>
    obtain ⟨σ', H', I', a, u, h1, mu, q⟩ := q
    obtain ⟨od, I2⟩ := I'.lock h1 mu
    exact ⟨σ', _, I2, q od⟩
  | brk => exact q
  | cont => exact q
  | ret u => exact q⟩
theorem fs_setLc {i : Nat} {y : Str} {py spos : Pos} (hc : X.calm = true) (hN : X.N.Nodup) (hy : X.N[i]? = some y) (hyl : X.env.scope.names.lookup y = some .local) (hi : FI X tg iter src) (ok : BlkOk X.N X.env.scope scope own) (hsub : ∀ i ∈ us, i ∈ own.map (·.2))
    (hg : ∀ (s : Shared) (H : Hp) (C : Addr) (cl : List (Str × Addr)) (fp : List Addr), FG (X.blk s H scope (compEnvC scope cl C X.env) fp) tg us h) (ht : ∀ (s : Shared) (H : Hp) (C : Addr) (cl : List (Str × Addr)) (fp : List Addr), FTs (X.blk s H scope (compEnvC scope cl C X.env) fp) ifs t)
    (he : ∀ (s : Shared) (H : Hp) (C : Addr) (cl : List (Str × Addr)) (fp : List Addr), FE (X.blk s H scope (compEnvC scope cl C X.env) fp) elt f) (hsw : swapsWith (.ListComp elt [⟨tg, iter, ifs, 0⟩] scope pos) (some (.Name y py)) spos.line X.env = pure true) (hs : ∀ x, foldedSetIterable iter X.env x = pure x := by intro _; rfl) :
    FS X (.Assign [.Name y py] (.ListComp elt [⟨tg, iter, ifs, 0⟩] scope pos) spos) (sSet i (eLc src h t f (own.map (·.2)))) :=
  ⟨fun Wx tk => PS.imp (PS.frzN (ps_setLc (g := TGd X.cx us h) (tt := TB X.cx (fun _ _ _ _ => False) t) (te := TD X.cx (fun _ _ _ _ => False) f) hc hN hy hyl hsw (hi.run Wx tk) ok (fun s H C cl fp => (hg s H C cl fp).run) (fun s H C cl fp => (ht s H C cl fp).run (fun _ _ _ _ => False) takes0) (fun s H C cl fp => (he s H C cl fp).run (fun _ _ _ _ => False) takes0) hs)) fun Dd σ H q => by
    obtain ⟨ρ, M, ι, hS, hM, q⟩ := q
    have q2 : TD X.cx Wx (eLc src h t f (own.map (·.2))) σ H (fun v H1 => Dd.nx (σ.set i (some v)) H1) := (TD.sk hS hM q).mono fun v H1 z => by
      obtain ⟨w, M1, ι1, x, s1, m1, r1, g1⟩ := z
      exact g1 _ H1 ι1 (Ext.refl _ _) (s1.set r1 i) m1
    refine lc_reads hsub q2 fun v H' z => ?_
    obtain ⟨a, u, e, h1, mu, z⟩ := z
    exact ⟨a, u, h1, mu, fun o => z o⟩⟩
end
end FL

namespace FL
open PySem PySem.Spec PyProof.Rows L2

/-! ### trees as data -/
mutual
def pyD : D → Option PyData
  | .non => some .none
  | .bl b => some (.bool b)
  | .int i => some (.int i)
  | .str x => some (.str x)
  | .ty _ => none
  | .glb _ => none
  | .ob _ => none
  | .set _ => none
  | .tup ws => (pyDs ws).map PyData.tuple
  | .lst ws => (pyDs ws).map PyData.list
  | .dct kvs => (pyKv kvs).map PyData.dict
def pyDs : List D → Option (List PyData)
  | [] => some []
  | w :: ws => match pyD w, pyDs ws with
    | some d, some ds => some (d :: ds)
    | _, _ => none
def pyKv : List (D × D) → Option (List (PyData × PyData))
  | [] => some []
  | (k, w) :: r => match pyD k, pyD w, pyKv r with
    | some a, some b, some c => some ((a, b) :: c)
    | _, _, _ => none
end
/-- .. a list that may change, too -/
def pyM (M : MH) : D → Option PyData
  | .ob n => match M[n]? with
    | some (.lst ws) => (pyDs ws).map PyData.list
    | _ => none
  | w => pyD w
section
variable {X : Cx} {pins : List (Addr × Obj)} {σ : L2.St} {H : Hp} {s : Shared} {ι : List Addr}
def SysOk (X : Cx) : Prop := ∃ m, X.base.Ns sysModules m
theorem sysData (I : Inv X pins σ H s) (hS : SysOk X) : ∃ o es n, s.heap.get? sysModules = some o ∧ o.data = .dict es n ∧ H sysModules = none := by
  obtain ⟨m, o, es, n, e, hd, _⟩ := hS
  exact ⟨o, es, n, (I.bs _ _ e).1, hd, (I.bs _ _ e).2⟩
theorem ne_sys_of_seq (I : Inv X pins σ H s) (hS : SysOk X) {a : Addr} {o : Obj} {vs : Array Value} {n : Nat} (e : s.heap.get? a = some o) (hd : o.data = .seq vs n) : a ≠ sysModules := by
  intro z
  subst z
  obtain ⟨o', es, n', e', hd', _⟩ := sysData I hS
  rw [e] at e'; cases e'
  rw [hd] at hd'; cases hd'
theorem DctF.there (I : Inv X pins σ H s) (hS : SysOk X) {a : Addr} {es : List DictEntry} {vs : List (Leaf × Value)} (h : DctF X.cx H a es vs) : a ≠ sysModules ∧ ∃ o n, s.heap.get? a = some o ∧ o.ExactDict ∧ o.data = .dict es.toArray n := by
  obtain ⟨ne, o, h1, n, h2, h3, _⟩ := h
  rcases h1 with ⟨u, h1⟩ | h1
  · obtain ⟨e, _⟩ := I.hok a _ h1
    exact ⟨ne, o, n, e, h2, h3⟩
  · exact ⟨ne, o, n, I.kIn a o h1, h2, h3⟩
abbrev NoSys (as : List Addr) : Prop := ∀ a ∈ as, a ≠ sysModules
theorem NoSys.nil : NoSys [] := fun _ h => by cases h
theorem NoSys.append {as bs : List Addr} (h : NoSys as) (h' : NoSys bs) : NoSys (as ++ bs) := fun a ha => (List.mem_append.mp ha).elim (h a) (h' a)
theorem NoSys.cons {a : Addr} {as : List Addr} (h : a ≠ sysModules) (h' : NoSys as) : NoSys (a :: as) := fun b hb => by
  rcases List.mem_cons.mp hb with e | hb
  · exact e ▸ h
  · exact h' b hb
mutual
theorem RelD.reads (I : Inv X pins σ H s) (hS : SysOk X) : ∀ {w : D} {v : V} {u : Value} {d : PyData}, RelD X.cx H ι w v → RelV v u → pyD w = some d → ∃ as, Reads s.heap u d as ∧ NoSys as
  | _, _, _, _, .non, r, e => by cases e; cases r; exact ⟨[], .none, .nil⟩
  | _, _, _, _, .bl b, r, e => by cases e; cases r; exact ⟨[], .bool b, .nil⟩
  | _, _, _, _, .int b, r, e => by cases e; obtain ⟨t, rfl⟩ := r; exact ⟨[], .int b t, .nil⟩
  | _, _, _, _, .str b, r, e => by cases e; obtain ⟨t, rfl⟩ := r; exact ⟨[], .str b t, .nil⟩
  | _, _, _, _, .ty b, r, e => by cases e
  | _, _, _, _, .glb b, r, e => by cases e
  | _, _, _, _, .ob h, r, e => by cases e
  | _, _, _, _, .set h, r, e => by cases e
  | _, _, _, _, .tup (ws := ws) h rs, r, e => by
    cases r
    rw [pyD] at e
    cases q : pyDs ws with
    | none => rw [q] at e; cases e
    | some ds =>
      rw [q] at e; cases e
      obtain ⟨its, rv, ⟨o, ho, hc, n, hd⟩, _⟩ := I.tuple h
      obtain ⟨as, ra, na⟩ := RelDs.reads I hS rs rv q
      exact ⟨as, .tuple ho hc hd ra, na⟩
  | _, _, _, _, .lst (ws := ws) h rs, r, e => by
    cases r
    rw [pyD] at e
    cases q : pyDs ws with
    | none => rw [q] at e; cases e
    | some ds =>
      rw [q] at e; cases e
      obtain ⟨its, rv, ⟨o, n, ho, hc, _, hd⟩, _⟩ := I.list h.seq
      obtain ⟨as, ra, na⟩ := RelDs.reads I hS rs rv q
      exact ⟨_, .list ho hc hd ra, .cons (ne_sys_of_seq I hS ho hd) na⟩
  | _, _, _, _, .dct (kvs := kvs) h rs _, r, e => by
    cases r
    rw [pyD] at e
    cases q : pyKv kvs with
    | none => rw [q] at e; cases e
    | some ds =>
      rw [q] at e; cases e
      obtain ⟨ne, o, n, ho, hx, hd⟩ := h.there I hS
      obtain ⟨as, bs, ra, rb, na, nb⟩ := RelE.reads I hS rs q
      exact ⟨_, .dict ho hx.1 hd ra rb, NoSys.append (.cons ne na) nb⟩
theorem RelDs.reads (I : Inv X pins σ H s) (hS : SysOk X) : ∀ {ws : List D} {vs : List V} {us : List Value} {ds : List PyData}, RelDs X.cx H ι ws vs → Vals vs us → pyDs ws = some ds → ∃ as, ReadsAll s.heap us ds as ∧ NoSys as
  | _, _, _, _, .nil, r, e => by cases e; cases r; exact ⟨[], .nil, .nil⟩
  | _, _, _, _, .cons (w := w) (ws := ws) h rs, r, e => by
    rw [pyDs] at e
    cases q1 : pyD w with
    | none => rw [q1] at e; cases e
    | some d =>
      cases q2 : pyDs ws with
      | none => rw [q1, q2] at e; cases e
      | some ds =>
        rw [q1, q2] at e; cases e
        cases r with
        | cons r1 r2 =>
          obtain ⟨as, ra, na⟩ := RelD.reads I hS h r1 q1
          obtain ⟨bs, rb, nb⟩ := RelDs.reads I hS rs r2 q2
          exact ⟨_, .cons ra rb, na.append nb⟩
theorem RelE.reads (I : Inv X pins σ H s) (hS : SysOk X) : ∀ {kvs : List (D × D)} {es : List DictEntry} {ds : List (PyData × PyData)}, RelE X.cx H ι kvs es → pyKv kvs = some ds →
    ∃ as bs, ReadsAll s.heap (es.map (·.key)) (ds.map (·.1)) as ∧ ReadsAll s.heap (es.map (·.val)) (ds.map (·.2)) bs ∧ NoSys as ∧ NoSys bs
  | _, _, _, .nil, e => by cases e; exact ⟨[], [], .nil, .nil, .nil, .nil⟩
  | _, _, _, .cons (k := k) (x := x) (kvs := kvs) h1 h2 h3 h4 rs, e => by
    rw [pyKv] at e
    cases q1 : pyD k with
    | none => rw [q1] at e; cases e
    | some a =>
      cases q2 : pyD x with
      | none => rw [q1, q2] at e; cases e
      | some b =>
        cases q3 : pyKv kvs with
        | none => rw [q1, q2, q3] at e; cases e
        | some c =>
          rw [q1, q2, q3] at e; cases e
          obtain ⟨as1, ra, na⟩ := RelD.reads I hS h1 h2 q1
          obtain ⟨bs1, rb, nb⟩ := RelD.reads I hS h3 h4 q2
          obtain ⟨as, bs, r1, r2, n1, n2⟩ := RelE.reads I hS rs q3
          exact ⟨_, _, .cons ra r1, .cons rb r2, na.append n1, nb.append n2⟩
end
theorem RelD.readsM (I : Inv X pins σ H s) (hS : SysOk X) {w : D} {v : V} {u : Value} {d : PyData} {M : MH} (m : MemD X.cx H ι M) (r : RelD X.cx H ι w v) (rv : RelV v u) (e : pyM M w = some d) : ∃ as, Reads s.heap u d as ∧ NoSys as := by
  cases r with
  | @ob n a hn =>
    cases rv
    rw [pyM] at e
    split at e
    · rename_i ws hw
      cases q : pyDs ws with
      | none => rw [q] at e; cases e
      | some ds =>
        rw [q] at e; cases e
        obtain ⟨vs, h1, h2⟩ := m.obj n _ a hw hn
        obtain ⟨its, rv, ⟨o, n, ho, hc, _, hd⟩, _⟩ := I.list (SqL.of h1)
        obtain ⟨as, ra, na⟩ := RelDs.reads I hS h2 rv q
        exact ⟨_, .list ho hc hd ra, .cons (ne_sys_of_seq I hS ho hd) na⟩
    · cases e
  | non => exact RelD.reads I hS (.non (ι := ι)) rv e
  | bl b => exact RelD.reads I hS (.bl (ι := ι) b) rv e
  | int b => exact RelD.reads I hS (.int (ι := ι) b) rv e
  | str b => exact RelD.reads I hS (.str (ι := ι) b) rv e
  | ty b => cases e
  | glb b => cases e
  | tup h r => exact RelD.reads I hS (.tup h r) rv e
  | lst h r => exact RelD.reads I hS (.lst h r) rv e
  | set h => cases e
  | dct h r z => exact RelD.reads I hS (.dct h r z) rv e
end

/-! ### == and != of data, repr -/
def lenNe : Option (List D) → Option (List D) → Bool
  | some a, some b => a.length != b.length
  | _, _ => false
def gEqv (neg : Bool) : G2 := fun x y M => match x, y with
  | .str i, .str j => .ok (.bl (if neg then !(i == j) else i == j)) M
  | x, y => if lenNe (lstOf x M) (lstOf y M) = true then .ok (.bl neg) M else match pyM M x, pyM M y with
    | some a, some b => if SeqAt.shaped a = true ∧ SeqAt.shaped b = true then .ok (.bl (if neg then !PyData.eqv a b else PyData.eqv a b)) M else .stuck
    | _, _ => .stuck
abbrev gEq : G2 := gEqv false
abbrev gNe : G2 := gEqv true
section
variable {X : Cx}
theorem lens_of {pins : List (Addr × Obj)} {σ : L2.St} {H : Hp} {s : Shared} {ι : List Addr} {M : MH} {w1 w2 : D} {x y : V} (I : Inv X pins σ H s) (m : MemD X.cx H ι M) (r1 : RelD X.cx H ι w1 x) (r2 : RelD X.cx H ι w2 y) (h : lenNe (lstOf w1 M) (lstOf w2 M) = true) :
    ∃ a b i1 i2, x = .ref a ∧ y = .ref b ∧ s.heap.IsList a i1 ∧ s.heap.IsList b i2 ∧ (i1.size != i2.size) = true := by
  cases e1 : lstOf w1 M with
  | none => rw [e1] at h; cases h
  | some as =>
    cases e2 : lstOf w2 M with
    | none => rw [e1, e2] at h; cases h
    | some bs =>
      rw [e1, e2] at h
      obtain ⟨a, vs, rfl, q1, hA⟩ := lstOf_rel m r1 e1
      obtain ⟨b, us, rfl, q2, hB⟩ := lstOf_rel m r2 e2
      obtain ⟨its, n, rr, ea, _⟩ := hA.at I
      obtain ⟨its2, n2, rr2, eb, _⟩ := hB.at I
      refine ⟨a, b, its.toArray, its2.toArray, rfl, rfl, ⟨_, ea, rfl, _, rfl⟩, ⟨_, eb, rfl, _, rfl⟩, ?_⟩
      rw [List.size_toArray, List.size_toArray, ← rr.length, ← rr2.length, q1.length, q2.length]
      exact h
theorem op_Eqv_reads (neg : Bool) (hS : SysOk X) {pins : List (Addr × Obj)} {σ : L2.St} {H : Hp} {s : Shared} {ι : List Addr} {M : MH} {w1 w2 : D} {x y : V} {v u : Value} {R : Res D → Prop} (I : Inv X pins σ H s) (m : MemD X.cx H ι M) (r1 : RelD X.cx H ι w1 x) (r2 : RelD X.cx H ι w2 y)
    (rx : RelV x v) (ry : RelV y u) (hst : ¬ R .stuck)
    (g : R (match pyM M w1, pyM M w2 with
      | some a, some b => if SeqAt.shaped a = true ∧ SeqAt.shaped b = true then .ok (.bl (if neg then !PyData.eqv a b else PyData.eqv a b)) M else .stuck
      | _, _ => .stuck)) : ∃ a b as bs, Reads s.heap v a as ∧ Reads s.heap u b bs ∧ SeqAt.shaped a = true ∧ SeqAt.shaped b = true ∧ R (.ok (.bl (if neg then !PyData.eqv a b else PyData.eqv a b)) M) := by
  split at g
  · rename_i a b e1 e2
    split at g
    · rename_i hsh
      obtain ⟨as, ra, _⟩ := RelD.readsM I hS m r1 rx e1
      obtain ⟨bs, rb, _⟩ := RelD.readsM I hS m r2 ry e2
      exact ⟨a, b, as, bs, ra, rb, hsh.1, hsh.2, g⟩
    · exact (hst g).elim
  · exact (hst g).elim
theorem op_Eq (hS : SysOk X) (hu : X.A.units + 64 < cLine) : OpD X (compareOp .Eq) gEq := by
  intro pins s σ H x y v u Q I rx ry h
  obtain ⟨w1, w2, M, ι, m, r1, r2, g⟩ := h
  unfold gEq gEqv at g
  split at g
  · rename_i i j
    cases r1; cases r2
    exact op_eq pins s σ H _ _ v u Q I rx ry ⟨rfl, by rw [dec_str]; exact g H ι (Ext.refl _ _) m _ (.bl _)⟩
  · split at g
    · rename_i hl
      obtain ⟨a, b, i1, i2, rfl, rfl, l1, l2, hz⟩ := lens_of I m r1 r2 hl
      cases rx; cases ry
      exact SeqAt.eq_list_lengthsAt l1 l2 hz (by omega) ⟨.bl _, H, I, rfl, g H ι (Ext.refl _ _) m _ (.bl _)⟩
    · obtain ⟨a, b, as, bs, ra, rb, s1, s2, g⟩ := op_Eqv_reads false hS (R := fun r => Good X.cx H ι (fun w _ H' ι' => ∀ v, RelD X.cx H' ι' w v → Q v H') (fun _ _ _ => False) r) I m r1 r2 rx ry id g
      exact SeqAt.compareEq_shaped ra rb s1 s2 hu ⟨.bl _, H, I, rfl, g H ι (Ext.refl _ _) m _ (.bl _)⟩
theorem op_Ne (hS : SysOk X) (hu : X.A.units + 64 < cLine) : OpD X (compareOp .NotEq) gNe := by
  intro pins s σ H x y v u Q I rx ry h
  obtain ⟨w1, w2, M, ι, m, r1, r2, g⟩ := h
  unfold gNe gEqv at g
  split at g
  · rename_i i j
    cases r1; cases r2
    exact op_ne pins s σ H _ _ v u Q I rx ry ⟨rfl, by rw [dec_str]; exact g H ι (Ext.refl _ _) m _ (.bl _)⟩
  · split at g
    · rename_i hl
      obtain ⟨a, b, i1, i2, rfl, rfl, l1, l2, hz⟩ := lens_of I m r1 r2 hl
      cases rx; cases ry
      exact SeqAt.RcNeAt.lists_lengths l1 l2 hz (by omega) X.prog X.w _ _ ⟨.bl _, H, I, rfl, g H ι (Ext.refl _ _) m _ (.bl _)⟩
    · obtain ⟨a, b, as, bs, ra, rb, s1, s2, g⟩ := op_Eqv_reads true hS (R := fun r => Good X.cx H ι (fun w _ H' ι' => ∀ v, RelD X.cx H' ι' w v → Q v H') (fun _ _ _ => False) r) I m r1 r2 rx ry id g
      exact SeqAt.compareNe_shaped ra rb s1 s2 hu ⟨.bl _, H, I, rfl, g H ι (Ext.refl _ _) m _ (.bl _)⟩
/-- built-ins, by values -/
abbrev GN := List D → MH → Res D
def rDn (K : Ctx) (g : GN) : List V → Hp → VK → Prop := fun vs H Q => ∃ (ws : List D) (M : MH) (ι : List Addr), MemD K H ι M ∧ RelDs K H ι ws vs ∧
  Good K H ι (fun w _ H' ι' => ∀ v, RelD K H' ι' w v → Q v H') (fun _ _ _ => False) (g ws M)
def CallD (X : Cx) (f : Value) (g : GN) : Prop := CallR X f (rDn X.cx g)
def eB1 (g : GN) (fr : Ev (List D)) : Ev D := fun ρ M => (fr ρ M).bind fun ws M1 => noX (g ws M1)
variable {x : Str} {p pos : Pos} {e : Expr} {es : List Expr} {fr : Ev (List D)} {g : GN}
theorem tCB_of {K : Ctx} {Wx : WX} {σ : L2.St} {H : Hp} {Q : VK} (h : TD K Wx (eB1 g fr) σ H Q) : tCB (rDn K g) (TL K Wx fr) σ H Q := by
  obtain ⟨ρ, M, ι, hS, hM, h⟩ := h
  exact (TL.bind hS hM h).mono fun vs H1 ⟨ws, M1, ι1, x, s, m, r, g1⟩ => ⟨ws, M1, ι1, m, r, g1.noX⟩
theorem fe_callB {id : String} (hc : CallD X (.builtin id) g) (hg : Gl X x) (hm : X.mg x = none) (hv : bootBuiltins x = some (.builtin id)) (ha : FA X (e :: es) fr) (hn : x ≠ "__name__" := by decide) (hdb : (x == ("__debug__" : Str)) = false := by decide)
    (he : starEach (e :: es) X.env = (false, eval e X.env) :: starEach es X.env := by rfl) (hpl : (backTo pos (starEach es X.env)).any (·.1) = false := by rfl) : FE X (.Call (.Name x p) (e :: es) [] pos) (eB1 g fr) :=
  ⟨fun Wx tk => PE.imp (pe_callB hc hg hm hv (ha.run Wx tk) hn hdb he hpl) fun _ _ _ h => tCB_of h⟩
theorem fe_callTy {T : String} (hc : CallD X (.type T) g) (hg : Gl X x) (hm : X.mg x = none) (hv : bootBuiltins x = some (.type T)) (ha : FA X (e :: es) fr) (hn : x ≠ "__name__" := by decide) (hdb : (x == ("__debug__" : Str)) = false := by decide)
    (he : starEach (e :: es) X.env = (false, eval e X.env) :: starEach es X.env := by rfl) (hpl : (backTo pos (starEach es X.env)).any (·.1) = false := by rfl) : FE X (.Call (.Name x p) (e :: es) [] pos) (eB1 g fr) :=
  ⟨fun Wx tk => PE.imp (pe_callTy hc hg hm hv (ha.run Wx tk) hn hdb he hpl) fun _ _ _ h => tCB_of h⟩
end
end FL

namespace FL
open PySem PySem.Spec PyProof.Rows L2

/-! ### types -/
def tyName (M : MH) : D → Option String
  | .non => some "NoneType"
  | .bl _ => some "bool"
  | .int _ => some "int"
  | .str _ => some "str"
  | .tup _ => some "tuple"
  | .lst _ => some "list"
  | .dct _ => some "dict"
  | .set _ => some "set"
  | .ob n => match M[n]? with
    | some (.lst _) => some "list"
    | some (.dct _) => some "dict"
    | _ => none
  | _ => none
section
variable {X : Cx} {pins : List (Addr × Obj)} {σ : L2.St} {H : Hp} {s : Shared} {ι : List Addr} {M : MH} {w : D} {v : V} {u : Value} {T : String}
theorem DctF.there' (I : Inv X pins σ H s) {a : Addr} {es : List DictEntry} {vs : List (Leaf × Value)} (h : DctF X.cx H a es vs) : ∃ o n, s.heap.get? a = some o ∧ o.ExactDict ∧ o.data = .dict es.toArray n := by
  obtain ⟨_, o, h1, n, h2, h3, _⟩ := h
  rcases h1 with ⟨u, h1⟩ | h1
  · obtain ⟨e, _⟩ := I.hok a _ h1
    exact ⟨o, n, e, h2, h3⟩
  · exact ⟨o, n, I.kIn a o h1, h2, h3⟩
theorem kit_D (I : Inv X pins σ H s) (m : MemD X.cx H ι M) (r : RelD X.cx H ι w v) (rv : RelV v u) (e : tyName M w = some T) : ∃ P : Heap → Prop, PySem.W.KitX X.K u (.type T) P ∧ P s.heap ∧ u ≠ .builtin "__main__.__loader__#opaque" := by
  cases r with
  | non => cases e; cases rv; exact ⟨_, PySem.W.kitx_none, True.intro, fun z => nomatch z⟩
  | bl b => cases e; cases rv; exact ⟨_, PySem.W.kitx_bool, True.intro, fun z => nomatch z⟩
  | int i => cases e; obtain ⟨t, rfl⟩ := rv; exact ⟨_, PySem.W.kitx_int, True.intro, fun z => nomatch z⟩
  | str i => cases e; obtain ⟨t, rfl⟩ := rv; exact ⟨_, PySem.W.kitx_str, True.intro, fun z => nomatch z⟩
  | tup h _ =>
    cases e; cases rv
    obtain ⟨_, _, ⟨o, h1, h2, _⟩, _⟩ := I.tuple h
    exact ⟨_, PySem.W.kitx_tuple, ⟨o, h1, h2⟩, fun z => nomatch z⟩
  | lst h _ =>
    cases e; cases rv
    obtain ⟨_, _, ⟨o, _, h1, h2, _⟩, _⟩ := I.list h.seq
    exact ⟨_, PySem.W.kitx_list, ⟨o, h1, h2⟩, fun z => nomatch z⟩
  | dct h _ _ =>
    cases e; cases rv
    obtain ⟨o, n, h1, h2, _⟩ := h.there' I
    exact ⟨_, PySem.W.kitx_dict, ⟨o, h1, h2.1⟩, fun z => nomatch z⟩
  | set h =>
    cases e; cases rv
    obtain ⟨o, u, h1, _, _, _, hx, _⟩ := h
    exact ⟨_, PySem.W.kitx_set, ⟨o, (I.hok _ _ h1).1, hx.1⟩, fun z => nomatch z⟩
  | ty => cases e
  | glb => cases e
  | @ob n a hn =>
    cases rv
    unfold tyName at e
    dsimp only at e
    split at e
    · rename_i ws hw
      cases e
      obtain ⟨vs, h1, h2⟩ := m.obj n _ a hw hn
      obtain ⟨_, _, ⟨o, _, h1, h2, _⟩, _⟩ := I.list (SqL.of h1)
      exact ⟨_, PySem.W.kitx_list, ⟨o, h1, h2⟩, fun z => nomatch z⟩
    · rename_i ws hw
      exact (m.obj n _ a hw hn).elim
    · cases e
theorem ty_D (I : Inv X pins σ H s) (m : MemD X.cx H ι M) (r : RelD X.cx H ι w v) (rv : RelV v u) (e : tyName M w = some T) : s.TypeIs u T ∧ ∀ a, u = .ref a → ∃ ob, s.heap.get? a = some ob ∧ (T ≠ "tuple" → ob.dict = none) := by
  cases r with
  | non => cases e; cases rv; exact ⟨rfl, fun _ z => nomatch z⟩
  | bl b => cases e; cases rv; exact ⟨rfl, fun _ z => nomatch z⟩
  | int i => cases e; obtain ⟨t, rfl⟩ := rv; exact ⟨typeIs_int s i t, fun _ z => nomatch z⟩
  | str i => cases e; obtain ⟨t, rfl⟩ := rv; exact ⟨typeIs_str s i t, fun _ z => nomatch z⟩
  | tup h _ =>
    cases e; cases rv
    obtain ⟨_, _, ⟨o, h1, h2, _⟩, _⟩ := I.tuple h
    exact ⟨⟨o, h1, h2⟩, fun a z => by cases z; exact ⟨o, h1, fun z => absurd rfl z⟩⟩
  | lst h _ =>
    cases e; cases rv
    obtain ⟨_, _, ⟨o, _, h1, h2, h3, _⟩, _⟩ := I.list h.seq
    exact ⟨⟨o, h1, h2⟩, fun a z => by cases z; exact ⟨o, h1, fun _ => h3⟩⟩
  | dct h _ _ =>
    cases e; cases rv
    obtain ⟨o, n, h1, h2, _⟩ := h.there' I
    exact ⟨⟨o, h1, h2.1⟩, fun a z => by cases z; exact ⟨o, h1, fun _ => h2.2.1⟩⟩
  | set h =>
    cases e; cases rv
    obtain ⟨o, u, h1, _, _, _, hx, _⟩ := h
    exact ⟨⟨o, (I.hok _ _ h1).1, hx.1⟩, fun a z => by cases z; exact ⟨o, (I.hok _ _ h1).1, fun _ => hx.2.1⟩⟩
  | ty => cases e
  | glb => cases e
  | @ob n a hn =>
    cases rv
    unfold tyName at e
    dsimp only at e
    split at e
    · rename_i ws hw
      cases e
      obtain ⟨vs, h1, h2⟩ := m.obj n _ a hw hn
      obtain ⟨_, _, ⟨o, _, h1, h2, h3, _⟩, _⟩ := I.list (SqL.of h1)
      exact ⟨⟨o, h1, h2⟩, fun a z => by cases z; exact ⟨o, h1, fun _ => h3⟩⟩
    · rename_i ws hw
      exact (m.obj n _ a hw hn).elim
    · cases e
end
def gIsi : GN := fun ws M => match ws with
  | [x, .ty n] => match tyName M x with
    | some t => match kitB t n with
      | some b => .ok (.bl b) M
      | none => .stuck
    | none => .stuck
  | _ => .stuck
section
variable {X : Cx} {e o : Expr} {es : List Expr} {f1 f2 : Ev D} {fr : Ev (List D)} {name : Str} {apos cpos pos : Pos} {T id : String}
theorem cd_isi : CallD X (.builtin "isinstance") gIsi := by
  intro pins s σ H vs us Q I rv h
  obtain ⟨ws, M, ι, m, r, g⟩ := h
  unfold gIsi at g
  split at g
  · rename_i x n
    split at g
    · rename_i t ht
      split at g
      · rename_i b hb
        obtain ⟨v, c, rfl, r1, r2⟩ := r.two
        obtain ⟨u1, u2, rfl, q1, q2⟩ := vals2 rv
        cases r2
        cases q2
        obtain ⟨P, Z, p, hx⟩ := kit_D I m r1 q1 ht
        exact PySem.W.kia_one Z I.kIn p (kit_ty hb) hx fun tk => ⟨.bl b, H, I.tok tk, rfl, g H ι (Ext.refl _ _) m _ (.bl _)⟩
      · exact g.elim
    · exact g.elim
  · exact g.elim

/-! ### methods of built-in types -/
abbrev GM := D → List D → MH → Res D
def rMD (K : Ctx) (g : GM) : V → List V → Hp → VK → Prop := fun x vs H Q => ∃ (w : D) (ws : List D) (M : MH) (ι : List Addr), MemD K H ι M ∧ RelD K H ι w x ∧ RelDs K H ι ws vs ∧
  Good K H ι (fun w _ H' ι' => ∀ v, RelD K H' ι' w v → Q v H') (fun _ _ _ => False) (g w ws M)
def MtD (X : Cx) (id : String) (g : GM) : Prop := MtR X id (rMD X.cx g)
noncomputable def eM (T : String) (g : GM) (f : Ev D) (fr : Ev (List D)) : Ev D := fun ρ M => (f ρ M).bind fun w M1 => @ite _ (tyName M1 w = some T ∧ T ≠ "tuple") (Classical.propDecidable _) ((fr ρ M1).bind fun ws M2 => noX (g w ws M2)) .stuck
theorem fe_bm {g : GM} (pa : PlainAttrs T) (slot : Slot T name id) (hty : typeOf (.builtin id) = pure (.type "method_descriptor")) (hm : MtD X id g) (ho : FE X o f1) (ha : FA X (e :: es) fr)
    (hbase : attributeBase o name X.env (eval o X.env) = eval o X.env := by rfl)
    (hfew : ((backTo cpos (starEach (e :: es) X.env)).all (fun x => !x.1) && (backToKw cpos (keywordEach [] X.env)).all (fun x => x.1.isSome)
      && decide ((e :: es).length + ([] : List Keyword).length + (if ([] : List Keyword).isEmpty then 0 else 1) < 30)) = true := by rfl)
    (hline : (apos.endLine == cpos.line) = true := by rfl) (hs : starEach (e :: es) X.env = (false, eval e X.env) :: starEach es X.env := by rfl) (hplain : (backTo cpos (starEach es X.env)).any (·.1) = false := by rfl) :
    FE X (.Call (.Attribute o name apos) (e :: es) [] cpos) (eM T g f1 fr) := by
  refine ⟨fun Wx tk => ⟨fun pins s σ H Q I h => ?_⟩⟩
  obtain ⟨ρ, M, ι, hS, hM, h⟩ := h
  refine wpAny_Call_method_late hbase hfew hline rfl (thn ((ho.run Wx tk).run pins s σ H _ I (TD.bind hS hM h)) ?_)
  rintro v s1 ⟨x, H1, I1, r1, w, M1, ι1, x1, s2, m1, rw', g1⟩
  split at g1
  · rename_i ht
    obtain ⟨h1, h2⟩ := ty_D I1 m1 rw' r1 ht.1
    refine ⟨T, id, pa, slot, hty, h1, fun a ea => ?_, ?_⟩
    · obtain ⟨ob, q1, q2⟩ := h2 a ea
      exact ⟨ob, q1, q2 ht.2⟩
    have hA := (ha.run Wx tk).run cpos pins s1 σ H1 _ I1 (TL.bind s2 m1 g1)
    rw [hs] at hA ⊢
    refine Calls.callWith_builtin (by show (false || (backTo cpos (starEach es X.env)).any (·.1)) = false; rw [hplain] <;> rfl) (Calls.evalArgs_plain ?_)
    refine thn hA ?_
    rintro us s3 ⟨vs, H2, I2, r2, ws, M2, ι2, x2, s4, m2, rws, g2⟩
    exact hm pins s3 σ H2 x vs v us Q I2 r1 r2 ⟨w, ws, M2, ι2, m2, rw'.ext x2, rws, g2.noX⟩
  · exact g1.elim
theorem fe_bm0 {g : GM} (pa : PlainAttrs T) (slot : Slot T name id) (hty : typeOf (.builtin id) = pure (.type "method_descriptor")) (hm : MtD X id g) (ho : FE X o f1)
    (hbase : attributeBase o name X.env (eval o X.env) = eval o X.env := by rfl) (hline : (apos.endLine == cpos.line) = true := by rfl) : FE X (.Call (.Attribute o name apos) [] [] cpos) (eM T g f1 eNil) := by
  refine ⟨fun Wx tk => ⟨fun pins s σ H Q I h => ?_⟩⟩
  obtain ⟨ρ, M, ι, hS, hM, h⟩ := h
  refine wpAny_Call_method0_late hbase hline (thn ((ho.run Wx tk).run pins s σ H _ I (TD.bind hS hM h)) ?_)
  rintro v s1 ⟨x, H1, I1, r1, w, M1, ι1, x1, s2, m1, rw', g1⟩
  split at g1
  · rename_i ht
    obtain ⟨h1, h2⟩ := ty_D I1 m1 rw' r1 ht.1
    refine ⟨T, id, pa, slot, hty, h1, fun a ea => ?_, ?_⟩
    · obtain ⟨ob, q1, q2⟩ := h2 a ea
      exact ⟨ob, q1, q2 ht.2⟩
    have g2 : Good X.cx H1 ι1 (fun w _ H' ι' => ∀ v, RelD X.cx H' ι' w v → Q v H') (fun c d H' => Wx c d σ H') (noX (g w [] M1)) := g1
    exact Calls.callWith_builtin rfl (PySem.evalArgs_none (hm pins s1 σ H1 x [] v [] Q I1 r1 .nil ⟨w, [], M1, ι1, m1, rw', .nil, g2.noX⟩))
  · exact g1.elim
/-- xs.append(y) -/
def gAppend : GM := fun w ws M => match w, ws with
  | .ob n, [y] => match M[n]? with
    | some (.lst xs) => if xs.length < sizeLine then .ok .non (M.set n (.lst (xs ++ [y]))) else .stuck
    | _ => .stuck
  | _, _ => .stuck
theorem md_append : MtD X "list.append" gAppend := by
  intro pins s σ H x vs v us Q I rv rvs h
  obtain ⟨w, ws, M, ι, m, r, rs, g⟩ := h
  refine mt_append pins s σ H x vs v us Q I rv rvs ?_
  unfold gAppend at g
  split at g
  · rename_i n y
    split at g
    · rename_i xs hw
      split at g
      · rename_i hl
        cases r with
        | @ob _ a hn =>
          obtain ⟨vs1, h1, h2⟩ := m.obj n _ a hw hn
          obtain ⟨yv, rfl, ry⟩ := rs.one
          refine ⟨a, vs1, yv, rfl, rfl, h1, by rw [h2.length]; exact hl, ?_⟩
          have x1 : Ext H ι (upd H a (.lst (vs1 ++ [yv]))) ι := Ext.put (List.mem_of_getElem? hn) (by rw [h1]; trivial)
          exact g _ ι x1 (m.put hn x1 ⟨_, upd_same, (h2.append (.cons ry .nil)).ext x1⟩) _ .non
      · exact g.elim
    · exact g.elim
  · exact g.elim
/-- sep.join(xs) -/
def strsOf : List D → Option (List Str)
  | [] => some []
  | .str x :: r => (strsOf r).map (x :: ·)
  | _ :: _ => none
theorem strs_rel {K : Ctx} {H : Hp} {ι : List Addr} : ∀ {ws : List D} {vs : List V} {ys : List Str}, RelDs K H ι ws vs → strsOf ws = some ys → vs = ys.map V.str
  | _, _, _, .nil, e => by cases e; rfl
  | _, _, _, .cons (w := w) (ws := ws) r rs, e => by
    cases r with
    | str x =>
      rw [strsOf] at e
      cases q : strsOf ws with
      | none => rw [q] at e; cases e
      | some ys => rw [q] at e; cases e; rw [List.map_cons, strs_rel rs q]
    | _ => cases e
def gJoin : GM := fun w ws M => match w, ws with
  | .str a, [y] => match seqOf y M with
    | some xs => match strsOf xs with
      | some ys => if (ys.map (·.length)).sum + ys.length * a.length ≤ 16777216 then .ok (.str (Txt.join a ys)) M else .stuck
      | none => .stuck
    | none => .stuck
  | _, _ => .stuck
theorem md_join : MtD X "str.join" gJoin := by
  intro pins s σ H x vs v us Q I rv rvs h
  obtain ⟨w, ws, M, ι, m, r, rs, g⟩ := h
  refine mt_join pins s σ H x vs v us Q I rv rvs ?_
  unfold gJoin at g
  split at g
  · rename_i a y
    split at g
    · rename_i xs hs
      split at g
      · rename_i ys hy
        split at g
        · rename_i hl
          cases r
          obtain ⟨yv, rfl, ry⟩ := rs.one
          obtain ⟨p, pv, rfl, rp, hq⟩ := seqOf_rel m ry hs
          have e := strs_rel rp hy
          subst e
          exact ⟨a, p, ys, rfl, rfl, hq, hl, g H ι (Ext.refl _ _) m _ (.str _)⟩
        · exact g.elim
      · exact g.elim
    · exact g.elim
  · exact g.elim

/-! ### built-in functions -/
def gLen : GN := fun ws M => match ws with
  | [.str x] => if x.length ≤ sizeLine then .ok (.int x.length) M else .stuck
  | [.set ws] => .ok (.int ws.length) M
  | [.dct kvs] => .ok (.int kvs.length) M
  | [x] => match seqOf x M with
    | some xs => .ok (.int xs.length) M
    | none => .stuck
  | _ => .stuck
theorem cd_len : CallD X (.builtin "len") gLen := by
  intro pins s σ H vs us Q I rv h
  obtain ⟨ws, M, ι, m, r, g⟩ := h
  unfold gLen at g
  split at g
  · rename_i x
    refine call_len pins s σ H vs us Q I rv ?_
    split at g
    · rename_i hl
      obtain ⟨v, rfl, r1⟩ := r.one
      cases r1
      exact ⟨_, _, rfl, ⟨hl, rfl⟩, g H ι (Ext.refl _ _) m _ (.int _)⟩
    · exact g.elim
  · obtain ⟨v, rfl, r1⟩ := r.one
    obtain ⟨u, rfl, ru⟩ := rv.one
    cases r1 with
    | set hs =>
      cases ru
      obtain ⟨o, u, h1, es, ep, t, h2, h3, _, _, hb, hf, hn, _⟩ := hs
      have e := (I.hok _ _ h1).1
      refine call_len_set e h2 h3 hf (by
        have : scanBound = 4096 := rfl
        omega) ⟨.int _, H, I.tok _, ⟨_, rfl⟩, ?_⟩
      rw [hn]
      exact g H ι (Ext.refl _ _) m _ (.int _)
  · obtain ⟨v, rfl, r1⟩ := r.one
    obtain ⟨u, rfl, ru⟩ := rv.one
    cases r1 with
    | dct hD hE hk =>
      cases ru
      obtain ⟨hd, dd, hz⟩ := dct_at (ι := ι) I hD
      have hl := congrArg List.length hk
      rw [List.length_map, List.length_map] at hl
      refine call_len_dict hd dd (by rw [sizeLine_eq] at hz; omega) ⟨.int _, H, I.tok _, ⟨_, rfl⟩, ?_⟩
      rw [← hl]
      exact g H ι (Ext.refl _ _) m _ (.int _)
  · rename_i x _ _ _
    refine call_len pins s σ H vs us Q I rv ?_
    split at g
    · rename_i xs hs
      obtain ⟨v, rfl, r1⟩ := r.one
      obtain ⟨p, pv, rfl, rp, hq⟩ := seqOf_rel m r1 hs
      refine ⟨_, xs.length, rfl, ?_, g H ι (Ext.refl _ _) m _ (.int _)⟩
      rcases hq with hq | hq
      · exact .inl ⟨pv, hq, rp.length.symm⟩
      · exact .inr ⟨pv, hq, rp.length.symm⟩
    · exact g.elim
  · exact g.elim
def gAbs : GN := fun ws M => match ws with
  | [.int i] => .ok (.int (if i < 0 then -i else i)) M
  | _ => .stuck
theorem cd_abs : CallD X (.builtin "abs") gAbs := by
  intro pins s σ H vs us Q I rv h
  obtain ⟨ws, M, ι, m, r, g⟩ := h
  unfold gAbs at g
  split at g
  · obtain ⟨v, rfl, r1⟩ := r.one
    cases r1
    exact call_abs pins s σ H _ us Q I rv ⟨_, rfl, g H ι (Ext.refl _ _) m _ (.int _)⟩
  · exact g.elim
def gInt : GN := fun ws M => match ws with
  | [.int i] => .ok (.int i) M
  | [.bl b] => .ok (.int (if b then 1 else 0)) M
  | _ => .stuck
theorem cd_int : CallD X (.type "int") gInt := by
  intro pins s σ H vs us Q I rv h
  obtain ⟨ws, M, ι, m, r, g⟩ := h
  unfold gInt at g
  split at g
  · obtain ⟨v, rfl, r1⟩ := r.one
    cases r1
    exact call_int1 pins s σ H _ us Q I rv (.inl ⟨_, rfl, g H ι (Ext.refl _ _) m _ (.int _)⟩)
  · obtain ⟨v, rfl, r1⟩ := r.one
    cases r1
    exact call_int1 pins s σ H _ us Q I rv (.inr ⟨_, rfl, g H ι (Ext.refl _ _) m _ (.int _)⟩)
  · exact g.elim
def gMax2 : GN := fun ws M => match ws with
  | [.int i, .int j] => .ok (.int (if j > i then j else i)) M
  | _ => .stuck
def gMin2 : GN := fun ws M => match ws with
  | [.int i, .int j] => .ok (.int (if j < i then j else i)) M
  | _ => .stuck
theorem cd_max2 (hc : X.calm = true) : CallD X (.builtin "max") gMax2 := by
  intro pins s σ H vs us Q I rv h
  obtain ⟨ws, M, ι, m, r, g⟩ := h
  unfold gMax2 at g
  split at g
  · obtain ⟨v, u, rfl, r1, r2⟩ := r.two
    cases r1
    cases r2
    exact call_max2 hc pins s σ H _ us Q I rv ⟨_, _, rfl, g H ι (Ext.refl _ _) m _ (.int _)⟩
  · exact g.elim
theorem cd_min2 (hc : X.calm = true) : CallD X (.builtin "min") gMin2 := by
  intro pins s σ H vs us Q I rv h
  obtain ⟨ws, M, ι, m, r, g⟩ := h
  unfold gMin2 at g
  split at g
  · obtain ⟨v, u, rfl, r1, r2⟩ := r.two
    cases r1
    cases r2
    exact call_min2 hc pins s σ H _ us Q I rv ⟨_, _, rfl, g H ι (Ext.refl _ _) m _ (.int _)⟩
  · exact g.elim
def bools : List D → Option (List Bool)
  | [] => some []
  | .bl b :: r => (bools r).map (b :: ·)
  | _ :: _ => none
theorem bools_rel {K : Ctx} {H : Hp} {ι : List Addr} : ∀ {ws : List D} {vs : List V} {ys : List Bool}, RelDs K H ι ws vs → bools ws = some ys → vs = ys.map V.bl
  | _, _, _, .nil, e => by cases e; rfl
  | _, _, _, .cons (w := w) (ws := ws) r rs, e => by
    cases r with
    | bl x =>
      rw [bools] at e
      cases q : bools ws with
      | none => rw [q] at e; cases e
      | some ys => rw [q] at e; cases e; rw [List.map_cons, bools_rel rs q]
    | _ => cases e
def gAll : GN := fun ws M => match ws with
  | [.lst xs] => match bools xs with
    | some bs => .ok (.bl (bs.all fun b => b)) M
    | none => .stuck
  | _ => .stuck
theorem cd_all (hc : X.calm = true) : CallD X (.builtin "all") gAll := by
  intro pins s σ H vs us Q I rv h
  obtain ⟨ws, M, ι, m, r, g⟩ := h
  unfold gAll at g
  split at g
  · split at g
    · rename_i bs hb
      obtain ⟨v, rfl, r1⟩ := r.one
      cases r1 with
      | lst hl rr =>
        have e := bools_rel rr hb
        subst e
        exact cr_all hc pins s σ H _ us Q I rv ⟨_, bs, rfl, hl.seq, g H ι (Ext.refl _ _) m _ (.bl _)⟩
    · exact g.elim
  · exact g.elim
/-- tuple(x): x a sequence -/
def gTuple : GN := fun ws M => match ws with
  | [x] => match seqOf x M with
    | some xs => .ok (.tup xs) M
    | none => .stuck
  | _ => .stuck
theorem cd_tuple : CallD X (.type "tuple") gTuple := by
  intro pins s σ H vs us Q I rv h
  obtain ⟨ws, M, ι, m, r, g⟩ := h
  unfold gTuple at g
  split at g
  · split at g
    · rename_i xs hs
      obtain ⟨v, rfl, r1⟩ := r.one
      obtain ⟨p, pv, rfl, rp, hq⟩ := seqOf_rel m r1 hs
      refine call_tuple_of pins s σ H _ us Q I rv ⟨p, pv, rfl, ?_⟩
      rcases hq with hq | hq
      · refine .inl ⟨hq, fun l hl => ?_⟩
        have x1 : Ext H ι (upd H l (.tup pv)) ι := Ext.new hl
        exact g _ ι x1 (m.new hl) _ (.tup (.inl (.inl upd_same)) (rp.ext x1))
      · exact .inr ⟨hq, g H ι (Ext.refl _ _) m _ (.tup hq rp)⟩
    · exact g.elim
  · exact g.elim
/-- list(x), closed -/
def gList : GN := fun ws M => match ws with
  | [x] => match seqOf x M with
    | some xs => .ok (.lst xs) M
    | none => .stuck
  | _ => .stuck
theorem cd_list : CallD X (.type "list") gList := by
  intro pins s σ H vs us Q I rv h
  obtain ⟨ws, M, ι, m, r, g⟩ := h
  unfold gList at g
  split at g
  · split at g
    · rename_i xs hs
      obtain ⟨v, rfl, r1⟩ := r.one
      obtain ⟨p, pv, rfl, rp, hq⟩ := seqOf_rel m r1 hs
      exact CallR.frz call_list_of pins s σ H _ us Q I rv ⟨p, pv, rfl, hq, fun l hl => frz_new m rp g hl⟩
    · exact g.elim
  · exact g.elim
/-- list(x), to be changed -/
def gListM : GN := fun ws M => match ws with
  | [x] => match seqOf x M with
    | some xs => .ok (.ob M.length) (M ++ [.lst xs])
    | none => .stuck
  | _ => .stuck
theorem cd_listM : CallD X (.type "list") gListM := by
  intro pins s σ H vs us Q I rv h
  obtain ⟨ws, M, ι, m, r, g⟩ := h
  unfold gListM at g
  split at g
  · split at g
    · rename_i xs hs
      obtain ⟨v, rfl, r1⟩ := r.one
      obtain ⟨p, pv, rfl, rp, hq⟩ := seqOf_rel m r1 hs
      exact call_list_of pins s σ H _ us Q I rv ⟨p, pv, rfl, hq, fun l hl => new_lst m rp g hl⟩
    · exact g.elim
  · exact g.elim
/-- repr -/
def gRepr : GN := fun ws M => match ws with
  | [x] => match pyM M x with
    | some d => if d.showable = true ∧ d.shown.length ≤ sizeLine ∧ d.depth ≤ 60 then .ok (.str d.shown) M else .stuck
    | none => .stuck
  | _ => .stuck
theorem cd_repr {k : Nat} (hr : Room k X.A) (hG : X.A.guards = some []) (hS : SysOk X) : CallD X (.builtin "repr") gRepr := by
  intro pins s σ H vs us Q I rv h
  obtain ⟨ws, M, ι, m, r, g⟩ := h
  unfold gRepr at g
  split at g
  · split at g
    · rename_i d hd
      split at g
      · rename_i hc
        obtain ⟨v, rfl, r1⟩ := r.one
        obtain ⟨u, rfl, ru⟩ := vals1 rv
        obtain ⟨as, rd, na⟩ := RelD.readsM I hS m r1 ru hd
        have fin : ∀ h' tk t, (∀ b o, s.heap.get? b = some o → h'.get? b = some o) → EP X pins σ Q (.str d.shown t) { s with heap := h', toks := tk } := fun h' tk t hk =>
          ⟨.str d.shown, H, I.kept hk, ⟨t, rfl⟩, g H ι (Ext.refl _ _) m _ (.str _)⟩
        have hu := hr.units
        cases rd with
        | none => exact PySem.P.repr_of_none (fin s.heap _ _ fun _ _ e => e)
        | bool b => exact PySem.P.repr_of_bool (by have q := fin s.heap (s.toks + 1) s.toks fun _ _ e => e; rw [PyData.shown_bool] at q; exact q)
        | int i t => exact PySem.P.repr_of_int (of_decide_eq_true hc.1) (by have q := fin s.heap (s.toks + 1) s.toks fun _ _ e => e; rw [PyData.shown_int] at q; exact q)
        | str x t => exact PySem.P.repr_of_str (by have q := fin s.heap (s.toks + 1) s.toks fun _ _ e => e; rw [PyData.shown_str] at q; exact q) (by have z := hc.2.1; rw [PyData.shown_str] at z; exact z)
        | list h1 h2 h3 h4 => exact PySem.repr_of_reads' (.list h1 h2 h3 h4) hc.1 (fun _ z => na _ z rfl) hG (by have := hc.2.2; omega) (fun _ _ e => e) (fun h' t tk hk => fin h' tk t hk) hc.2.1
        | tuple h1 h2 h3 h4 => exact PySem.repr_of_reads' (.tuple h1 h2 h3 h4) hc.1 (fun _ z => na _ z rfl) hG (by have := hc.2.2; omega) (fun _ _ e => e) (fun h' t tk hk => fin h' tk t hk) hc.2.1
        | dict h1 h2 h3 h4 h5 => exact PySem.repr_of_reads' (.dict h1 h2 h3 h4 h5) hc.1 (fun _ z => na _ z rfl) hG (by have := hc.2.2; omega) (fun _ _ e => e) (fun h' t tk hk => fin h' tk t hk) hc.2.1
      · exact g.elim
    · exact g.elim
  · exact g.elim
end
end FL

namespace FL
open PySem PySem.Spec PyProof.Rows L2
section
variable {X : Cx}
/-- an operator on ints, by a rule of the layer -/
theorem opd_of {f : Value → Value → Sem Value} {g : G2} {r : R2} (h : OpR X f r) (i : ∀ (H : Hp) (ι : List Addr) (M : MH) (w1 w2 : D) (x y : V) (Q : VK), MemD X.cx H ι M → RelD X.cx H ι w1 x → RelD X.cx H ι w2 y →
    Good X.cx H ι (fun w _ H' ι' => ∀ v, RelD X.cx H' ι' w v → Q v H') (fun _ _ _ => False) (g w1 w2 M) → r x y H Q) : OpD X f g := by
  intro pins s σ H x y v u Q I rx ry q
  obtain ⟨w1, w2, M, ι, m, r1, r2, g1⟩ := q
  exact h pins s σ H x y v u Q I rx ry (i H ι M w1 w2 x y Q m r1 r2 g1)
/-- a + b -/
def gAdd : G2 := fun x y M => match x, y with
  | .int i, .int j => .ok (.int (i + j)) M
  | .str a, .str b => if a.length + b.length ≤ sizeLine then .ok (.str (a ++ b)) M else .stuck
  | .tup a, .tup b => if a.length + b.length ≤ sizeLine then .ok (.tup (a ++ b)) M else .stuck
  | x, y => match lstOf x M, lstOf y M with
    | some a, some b => if a.length + b.length ≤ sizeLine then .ok (.lst (a ++ b)) M else .stuck
    | _, _ => .stuck
/-- two lists, wherever they stand -/
def rCatF (K : Ctx) : R2 := fun x y H Q => ∃ (a b : Addr) (xs ys : List V), x = .ref a ∧ y = .ref b ∧ LstX K H a xs ∧ LstX K H b ys ∧ xs.length + ys.length ≤ sizeLine ∧ ∀ p, H p = none → Q (.ref p) (upd H p (.lst (xs ++ ys)))
theorem op_catF : OpR X (binaryOp .Add) (rCatF X.cx) := by
  intro pins s σ H x y v u Q I rx ry h
  obtain ⟨a, b, xs, ys, rfl, rfl, hA, hB, hz, q⟩ := h
  cases rx
  cases ry
  obtain ⟨its, n, r, ea, _⟩ := hA.at I
  obtain ⟨its2, n2, r2, eb, _⟩ := hB.at I
  have l1 := r.length
  have l2 := r2.length
  refine PySem.P.add_list ea eb ?_ (by simp only [List.size_toArray]; omega)
  have e : its.toArray ++ its2.toArray = (its ++ its2).toArray := by simp
  rw [e]
  exact ⟨.ref _, _, I.lnew (t' := s.toks) (r.append r2) (by rw [List.length_append]; omega), rfl, q _ I.fresh⟩
theorem op_Add : OpD X (binaryOp .Add) gAdd := by
  refine opd_of (OpR.or op_add (OpR.or op_add_str (OpR.or op_catA (OpR.frz op_catF)))) fun H ι M w1 w2 x y Q m r1 r2 g => ?_
  unfold gAdd at g
  split at g
  · cases r1; cases r2
    exact .inl ⟨_, _, rfl, rfl, g H ι (Ext.refl _ _) m _ (.int _)⟩
  · split at g
    · rename_i hl
      cases r1; cases r2
      exact .inr (.inl ⟨_, _, rfl, rfl, hl, g H ι (Ext.refl _ _) m _ (.str _)⟩)
    · exact g.elim
  · split at g
    · rename_i hl
      cases r1 with
      | tup h1 q1 =>
        cases r2 with
        | tup h2 q2 =>
          refine .inr (.inr (.inl ⟨_, _, _, _, rfl, rfl, h1, h2, by rw [q1.length, q2.length]; exact hl, fun e => ?_, fun _ e => ?_, fun _ _ p hp => ?_⟩))
          · subst e
            cases q1
            exact g H ι (Ext.refl _ _) m _ (.tup h2 q2)
          · subst e
            cases q2
            rw [List.append_nil] at g
            exact g H ι (Ext.refl _ _) m _ (.tup h1 q1)
          · exact new_tup m (q1.append q2) g hp
    · exact g.elim
  · split at g
    · rename_i a b ha hb
      split at g
      · rename_i hl
        obtain ⟨p1, v1, rfl, q1, c1⟩ := lstOf_rel m r1 ha
        obtain ⟨p2, v2, rfl, q2, c2⟩ := lstOf_rel m r2 hb
        exact .inr (.inr (.inr ⟨p1, p2, v1, v2, rfl, rfl, c1, c2, by rw [q1.length, q2.length]; exact hl, fun p hp => frz_new m (q1.append q2) g hp⟩))
      · exact g.elim
    · exact g.elim
def gSub : G2 := fun x y M => match x, y with
  | .int i, .int j => .ok (.int (i - j)) M
  | _, _ => .stuck
theorem op_Sub : OpD X (binaryOp .Sub) gSub := by
  refine opd_of op_sub fun H ι M w1 w2 x y Q m r1 r2 g => ?_
  unfold gSub at g
  split at g
  · cases r1; cases r2
    exact ⟨_, _, rfl, rfl, g H ι (Ext.refl _ _) m _ (.int _)⟩
  · exact g.elim
/-- a * b of ints, tuple * int -/
def gMul : G2 := fun x y M => match x, y with
  | .int i, .int j => if i.natAbs.log2 + j.natAbs.log2 < 1000000 then .ok (.int (i * j)) M else .stuck
  | .tup ws, .int k => if ws ≠ [] ∧ 2 ≤ k ∧ k ≤ 1000 ∧ ws.length ≤ 1000 then .ok (.tup (List.replicate k.toNat ws).flatten) M else .stuck
  | _, _ => .stuck
theorem RelDs.rep {K : Ctx} {H : Hp} {ι : List Addr} {ws : List D} {vs : List V} (r : RelDs K H ι ws vs) : ∀ k : Nat, RelDs K H ι (List.replicate k ws).flatten (List.replicate k vs).flatten
  | 0 => .nil
  | k + 1 => by
    rw [List.replicate_succ, List.replicate_succ, List.flatten_cons, List.flatten_cons]
    exact r.append (RelDs.rep r k)
theorem op_Mul : OpD X (binaryOp .Mult) gMul := by
  refine opd_of (OpR.or op_mulW op_repT) fun H ι M w1 w2 x y Q m r1 r2 g => ?_
  unfold gMul at g
  split at g
  · split at g
    · rename_i hc
      cases r1; cases r2
      exact .inl ⟨_, _, rfl, rfl, hc, g H ι (Ext.refl _ _) m _ (.int _)⟩
    · exact g.elim
  · split at g
    · rename_i hc
      cases r2
      cases r1 with
      | tup h1 q1 =>
        refine .inr ⟨_, _, _, rfl, rfl, h1, ?_, hc.2.1, hc.2.2.1, by rw [q1.length]; exact hc.2.2.2, fun p hp => ?_⟩
        · intro e
          subst e
          cases q1
          exact hc.1 rfl
        · exact new_tup m (q1.rep _) g hp
    · exact g.elim
  · exact g.elim
def gMod : G2 := fun x y M => match x, y with
  | .int i, .int j => if 0 < j then .ok (.int (i % j)) M else .stuck
  | _, _ => .stuck
theorem op_Mod : OpD X (binaryOp .Mod) gMod := by
  refine opd_of op_mod fun H ι M w1 w2 x y Q m r1 r2 g => ?_
  unfold gMod at g
  split at g
  · split at g
    · rename_i hc
      cases r1; cases r2
      exact ⟨_, _, rfl, rfl, hc, g H ι (Ext.refl _ _) m _ (.int _)⟩
    · exact g.elim
  · exact g.elim
def gFdiv : G2 := fun x y M => match x, y with
  | .int i, .int j => if 0 < j ∧ j.natAbs.log2 < 9000 then .ok (.int (i / j)) M else .stuck
  | _, _ => .stuck
theorem op_Fdiv : OpD X (binaryOp .FloorDiv) gFdiv := by
  refine opd_of op_fdivW fun H ι M w1 w2 x y Q m r1 r2 g => ?_
  unfold gFdiv at g
  split at g
  · split at g
    · rename_i hc
      cases r1; cases r2
      exact ⟨_, _, rfl, rfl, hc, g H ι (Ext.refl _ _) m _ (.int _)⟩
    · exact g.elim
  · exact g.elim
/-- powers of written numbers -/
def gPow : G2 := fun x y M => match x, y with
  | .int i, .int j => if 0 ≤ j ∧ (Builtin.Int.intBits i : Int) * j ≤ 2 ^ 27 then .ok (.int (i ^ j.toNat)) M else .stuck
  | _, _ => .stuck
theorem op_Pow : OpD X (binaryOp .Pow) gPow := by
  intro pins s σ H x y v u Q I rx ry q
  obtain ⟨w1, w2, M, ι, m, r1, r2, g⟩ := q
  unfold gPow at g
  split at g
  · split at g
    · rename_i hc
      cases r1; cases r2
      obtain ⟨t, rfl⟩ := rx
      obtain ⟨t', rfl⟩ := ry
      exact PyProof.Rows.pow_int hc.1 hc.2 ⟨.int _, H, I.tok _, ⟨_, rfl⟩, g H ι (Ext.refl _ _) m _ (.int _)⟩
    · exact g.elim
  · exact g.elim
def gNeg : G1 := fun w M => match w with
  | .int i => .ok (.int (-i)) M
  | _ => .stuck
theorem un_Neg : UnD X (unaryOp .USub) gNeg := by
  intro pins s σ H x v Q I rx q
  obtain ⟨w, M, ι, m, r, g⟩ := q
  unfold gNeg at g
  split at g
  · cases r
    exact un_neg pins s σ H _ v Q I rx ⟨_, rfl, g H ι (Ext.refl _ _) m _ (.int _)⟩
  · exact g.elim
/-- order of ints and texts -/
def gCmp (p : Int → Int → Bool) (q : List Nat → List Nat → Bool) : G2 := fun x y M => match x, y with
  | .int i, .int j => .ok (.bl (p i j)) M
  | .str a, .str b => .ok (.bl (q a.cps.toList b.cps.toList)) M
  | _, _ => .stuck
abbrev gLt : G2 := gCmp (fun i j => decide (i < j)) (fun a b => decide (a < b))
abbrev gLe : G2 := gCmp (fun i j => decide (i ≤ j)) (fun a b => !decide (b < a))
abbrev gGt : G2 := gCmp (fun i j => decide (j < i)) (fun a b => decide (b < a))
abbrev gGe : G2 := gCmp (fun i j => decide (j ≤ i)) (fun a b => !decide (a < b))
theorem cmp_of {f : Value → Value → Sem Value} {p : Int → Int → Bool} {q : List Nat → List Nat → Bool} {r : R2} (h1 : OpR X f (rI0 fun i j => .bl (p i j))) (h2 : OpR X f r)
    (i2 : ∀ (a b : Str) (H : Hp) (Q : VK), Q (.bl (q a.cps.toList b.cps.toList)) H → r (.str a) (.str b) H Q) : OpD X f (gCmp p q) := by
  refine opd_of (OpR.or h1 h2) fun H ι M w1 w2 x y Q m r1 r2 g => ?_
  unfold gCmp at g
  split at g
  · cases r1; cases r2
    exact .inl ⟨_, _, rfl, rfl, g H ι (Ext.refl _ _) m _ (.bl _)⟩
  · cases r1; cases r2
    exact .inr (i2 _ _ _ _ (g H ι (Ext.refl _ _) m _ (.bl _)))
  · exact g.elim
theorem op_Lt : OpD X (compareOp .Lt) gLt := cmp_of op_lt op_lt_str fun a b H Q h => ⟨a, b, rfl, rfl, h⟩
theorem op_Le : OpD X (compareOp .LtE) gLe := cmp_of op_le op_le_str fun a b H Q h => ⟨a, b, rfl, rfl, h⟩
theorem op_Gt : OpD X (compareOp .Gt) gGt := cmp_of op_gt op_gt_str fun a b H Q h => ⟨a, b, rfl, rfl, h⟩
theorem op_Ge : OpD X (compareOp .GtE) gGe := cmp_of op_ge op_ge_str fun a b H Q h => ⟨a, b, rfl, rfl, h⟩
/-- x is None -/
def gIsN (neg : Bool) : G2 := fun x y M => match y with
  | .non => match x with
    | .non => .ok (.bl (!neg)) M
    | _ => .ok (.bl neg) M
  | _ => .stuck
theorem op_IsN : OpD X (compareOp .Is) (gIsN false) := by
  refine opd_of op_isN fun H ι M w1 w2 x y Q m r1 r2 g => ?_
  unfold gIsN at g
  split at g
  · cases r2
    refine ⟨rfl, ?_⟩
    cases r1 <;> exact g H ι (Ext.refl _ _) m _ (.bl _)
  · exact g.elim
theorem op_IsNot : OpD X (compareOp .IsNot) (gIsN true) := by
  refine opd_of op_notN fun H ι M w1 w2 x y Q m r1 r2 g => ?_
  unfold gIsN at g
  split at g
  · cases r2
    refine ⟨rfl, ?_⟩
    cases r1 <;> exact g H ι (Ext.refl _ _) m _ (.bl _)
  · exact g.elim
/-- x in y: a text in a text, data in a sequence -/
def inAny (d : PyData) (ds : List PyData) : Bool := ds.any fun z => PyData.eqv z d
end
end FL

namespace FL
open PySem PySem.Spec PyProof.Rows L2
section
variable {X : Cx}
/-! ### in -/
def gIn (neg : Bool) : G2 := fun x y M => match y with
  | .str j => match x with
    | .str i => .ok (.bl (neg ^^ !(Builtin.Str.occurrences j i 0 j.length 1).isEmpty)) M
    | _ => .stuck
  | .dct kvs => match leafOf x with
    | some l => .ok (.bl (neg ^^ (lookD kvs l).isSome)) M
    | none => .stuck
  | y => match pyM M x, pyM M y with
    | some d, some (.list ds) => if SeqAt.shaped d = true ∧ PyData.canLayAll0 ds = true then .ok (.bl (neg ^^ inAny d ds)) M else .stuck
    | some d, some (.tuple ds) => if SeqAt.shaped d = true ∧ PyData.canLayAll0 ds = true then .ok (.bl (neg ^^ inAny d ds)) M else .stuck
    | _, _ => .stuck
theorem room_in {A : Around} {d : PyData} {n : Nat} (h : SeqAt.shaped d = true) (hu : A.units + 65 < cLine) : A.units + 1 + min n d.depth < cLine := by
  have h1 := SeqAt.depth_of_shaped h
  have h2 : min n d.depth ≤ d.depth := Nat.min_le_right _ _
  omega
theorem op_In (hS : SysOk X) (hu : X.A.units + 65 < cLine) : OpD X (compareOp .In) (gIn false) := by
  intro pins s σ H x y v u Q I rx ry q
  obtain ⟨w1, w2, M, ι, m, r1, r2, g⟩ := q
  unfold gIn at g
  split at g
  · split at g
    · cases r1; cases r2
      refine op_in_str pins s σ H _ _ v u Q I rx ry ⟨_, _, rfl, rfl, ?_⟩
      have z := g H ι (Ext.refl _ _) m _ (.bl _)
      rw [Bool.false_xor] at z
      exact z
    · exact g.elim
  · rename_i kvs
    split at g
    · rename_i l hl
      cases r2 with
      | dct hD hE hk =>
        cases ry
        obtain ⟨hd, dd, _⟩ := dct_at (ι := ι) I hD
        have hp := hD
        obtain ⟨_, _, _, _, _, _, _, _, hp, _⟩ := hD
        have z := g H ι (Ext.refl _ _) m _ (.bl _)
        rw [Bool.false_xor] at z
        have es := hE.look (x := l) hp hk
        refine wpAny_in_of (leaf_is r1 rx hl) hd dd.mapOf ⟨.bl _, H, I.tok _, rfl, ?_⟩
        rcases es with ⟨e, e2⟩ | ⟨d, u', v', e1, e2, e3, e4⟩
        · rw [e] at z
          rw [e2]
          exact z
        · rw [e1] at z
          rw [e2]
          exact z
    · exact g.elim
  · split at g
    · rename_i d ds e1 e2
      split at g
      · rename_i hc
        obtain ⟨as, ra, _⟩ := RelD.readsM I hS m r1 rx e1
        obtain ⟨bs, rb, _⟩ := RelD.readsM I hS m r2 ry e2
        refine SeqAt.in_list_reads rb ra hc.2 (SeqAt.canLay_of_shaped hc.1) (room_in hc.1 hu) ⟨.bl _, H, I, rfl, ?_⟩
        have z := g H ι (Ext.refl _ _) m _ (.bl _)
        rw [Bool.false_xor] at z
        exact z
      · exact g.elim
    · rename_i d ds e1 e2
      split at g
      · rename_i hc
        obtain ⟨as, ra, _⟩ := RelD.readsM I hS m r1 rx e1
        obtain ⟨bs, rb, _⟩ := RelD.readsM I hS m r2 ry e2
        refine SeqAt.in_tuple_reads rb ra hc.2 (SeqAt.canLay_of_shaped hc.1) (room_in hc.1 hu) ⟨.bl _, H, I, rfl, ?_⟩
        have z := g H ι (Ext.refl _ _) m _ (.bl _)
        rw [Bool.false_xor] at z
        exact z
      · exact g.elim
    · exact g.elim
theorem op_NotIn (hS : SysOk X) (hu : X.A.units + 65 < cLine) : OpD X (compareOp .NotIn) (gIn true) := by
  intro pins s σ H x y v u Q I rx ry q
  obtain ⟨w1, w2, M, ι, m, r1, r2, g⟩ := q
  unfold gIn at g
  split at g
  · split at g
    · cases r1; cases r2
      refine op_notin_str pins s σ H _ _ v u Q I rx ry ⟨_, _, rfl, rfl, ?_⟩
      have z := g H ι (Ext.refl _ _) m _ (.bl _)
      rw [Bool.true_xor] at z
      exact z
    · exact g.elim
  · rename_i kvs
    split at g
    · rename_i l hl
      cases r2 with
      | dct hD hE hk =>
        cases ry
        obtain ⟨hd, dd, _⟩ := dct_at (ι := ι) I hD
        have hp := hD
        obtain ⟨_, _, _, _, _, _, _, _, hp, _⟩ := hD
        have z := g H ι (Ext.refl _ _) m _ (.bl _)
        rw [Bool.true_xor] at z
        have es := hE.look (x := l) hp hk
        refine wpAny_notIn_of (leaf_is r1 rx hl) hd dd.mapOf ⟨.bl _, H, I.tok _, rfl, ?_⟩
        rcases es with ⟨e, e2⟩ | ⟨d, u', v', e1, e2, e3, e4⟩
        · rw [e] at z
          rw [e2]
          exact z
        · rw [e1] at z
          rw [e2]
          exact z
    · exact g.elim
  · split at g
    · rename_i d ds e1 e2
      split at g
      · rename_i hc
        obtain ⟨as, ra, _⟩ := RelD.readsM I hS m r1 rx e1
        obtain ⟨bs, rb, _⟩ := RelD.readsM I hS m r2 ry e2
        refine SeqAt.notIn_list_reads rb ra hc.2 (SeqAt.canLay_of_shaped hc.1) (room_in hc.1 hu) ⟨.bl _, H, I, rfl, ?_⟩
        have z := g H ι (Ext.refl _ _) m _ (.bl _)
        rw [Bool.true_xor] at z
        exact z
      · exact g.elim
    · rename_i d ds e1 e2
      split at g
      · rename_i hc
        obtain ⟨as, ra, _⟩ := RelD.readsM I hS m r1 rx e1
        obtain ⟨bs, rb, _⟩ := RelD.readsM I hS m r2 ry e2
        refine SeqAt.notIn_tuple_reads rb ra hc.2 (SeqAt.canLay_of_shaped hc.1) (room_in hc.1 hu) ⟨.bl _, H, I, rfl, ?_⟩
        have z := g H ι (Ext.refl _ _) m _ (.bl _)
        rw [Bool.true_xor] at z
        exact z
      · exact g.elim
    · exact g.elim
variable {a b c : Expr} {f1 f2 f3 : Ev D} {pos p2 : Pos} {op op' : CmpOp} {g g' : G2}
/-! ### a < b < c -/
def eChain (g g' : G2) (f1 f2 f3 : Ev D) : Ev D := fun ρ M => (f1 ρ M).bind fun x M1 => (f2 ρ M1).bind fun y M2 => (noX (g x y M2)).bind fun t M3 => match t with
  | .bl true => (f3 ρ M3).bind fun z M4 => noX (g' y z M4)
  | .bl false => .ok (.bl false) M3
  | _ => .stuck
/-- an operator's value, then what follows -/
theorem rD2_then {K : Ctx} {g : G2} {x y : V} {H : Hp} {ι : List Addr} {M : MH} {w1 w2 : D} {R : D → MH → Hp → List Addr → Prop} {W : Value → Option Addr → Hp → Prop} {k : D → MH → Res D} {Q : VK} (m : MemD K H ι M) (r1 : RelD K H ι w1 x) (r2 : RelD K H ι w2 y)
    (q : Good K H ι R W ((noX (g w1 w2 M)).bind k)) (i : ∀ w M1 H1 ι1 v, Ext H ι H1 ι1 → MemD K H1 ι1 M1 → RelD K H1 ι1 w v → Good K H1 ι1 R W (k w M1) → Q v H1) : rD2 K g x y H Q := by
  refine ⟨w1, w2, M, ι, m, r1, r2, ?_⟩
  cases e : g w1 w2 M with
  | ok a M1 =>
    rw [e] at q
    exact fun H' ι' x m v r => i a M1 H' ι' v x m r (Good.ext (r := k a M1) x q)
  | exc c fs M1 => rw [e] at q; exact q.elim
  | stuck => rw [e] at q; exact q.elim
theorem chain_of {K : Ctx} {Wx : WX} {σ : L2.St} {H : Hp} {Q : VK} (h : TD K Wx (eChain g g' f1 f2 f3) σ H Q) : tChain (rD2 K g) (rD2 K g') (TD K Wx f1) (TD K Wx f2) (TD K Wx f3) σ H Q := by
  obtain ⟨ρ, M, ι, hS, hM, h⟩ := h
  refine (TD.bind hS hM h).mono fun v H1 ⟨w1, M1, ι1, x1, s1, m1, r1, q1⟩ => ?_
  refine (TD.bind s1 m1 q1).mono fun u H2 ⟨w2, M2, ι2, x2, s2, m2, r2, q2⟩ => ?_
  refine rD2_then m2 (r1.ext x2) r2 q2 fun w M3 H3 ι3 z x3 m3 r3 q3 => ?_
  cases r3 with
  | bl k =>
    refine ⟨k, rfl, ?_⟩
    cases k with
    | true =>
      refine iteT ?_
      exact (TD.bind (s2.ext x3) m3 q3).mono fun z H4 ⟨w4, M4, ι4, x4, s4, m4, r4, q4⟩ => ⟨w2, w4, M4, ι4, m4, (r2.ext x3).ext x4, r4, q4.noX⟩
    | false =>
      refine iteF ?_
      exact q3 H3 ι3 (Ext.refl _ _) m3 _ (.bl _)
  | _ => exact q3.elim
theorem fe_chain (ho : OpD X (compareOp op) g) (ho' : OpD X (compareOp op') g') (ha : FE X a f1) (hb : FE X b f2) (hc : FE X c f3) (hm : lastMarks [op, op'] [b, c] = false := by with_unfolding_all rfl) : FE X (.Compare a [op, op'] [b, c] pos) (eChain g g' f1 f2 f3) :=
  ⟨fun Wx tk => PE.imp (pe_chain ho ho' (ha.run Wx tk) (hb.run Wx tk) (hc.run Wx tk) hm) fun _ _ _ h => chain_of h⟩
theorem ft_chain (ho : OpD X (compareOp op) g) (ho' : OpD X (compareOp op') g') (ha : FE X a f1) (hb : FE X b f2) (hc : FE X c f3) (hm : lastMarks [op, op'] [b, c] = false := by with_unfolding_all rfl) : FT X (.Compare a [op, op'] [b, c] pos) (eB (eChain g g' f1 f2 f3)) :=
  ⟨fun Wx tk => PT.imp (pt_chain ho ho' (ha.run Wx tk) (hb.run Wx tk) (hc.run Wx tk) hm) fun σ H Q h => chain_of (Q := fun x H' => ∃ k, x = .bl k ∧ Q k H') (tTest_of h)⟩

/-! ### slices -/
def gSl (x : D) (lo hi : Option Int) (M : MH) : Res D := match x with
  | .tup ws => .ok (.tup (cutD ws lo hi)) M
  | .str z => if z.length ≤ sizeLine then .ok (.str (cutS z lo hi)) M else .stuck
  | x => match lstOf x M with
    | some ws => .ok (.lst (cutD ws lo hi)) M
    | none => .stuck
def eSl (f : Ev D) (lo hi : Ev (Option Int)) : Ev D := fun ρ M => (f ρ M).bind fun w M1 => (lo ρ M1).bind fun l M2 => (hi ρ M2).bind fun u M3 => noX (gSl w l u M3)
def rSlD (K : Ctx) : V → Option Int → Option Int → Hp → VK → Prop := fun x lo hi H Q => ∃ (w : D) (M : MH) (ι : List Addr), MemD K H ι M ∧ RelD K H ι w x ∧
  Good K H ι (fun w _ H' ι' => ∀ v, RelD K H' ι' w v → Q v H') (fun _ _ _ => False) (gSl w lo hi M)
theorem cut_whole {ws : List D} {lo hi : Option Int} {n : Nat} (hn : ws.length = n) (h : HT.sIx n 0 lo = 0 ∧ HT.sIx n n hi = n) : cutD ws lo hi = ws := by
  subst hn
  unfold cutD
  rw [h.1, h.2]
  simp
theorem sl_D : SlR X (rSlD X.cx) := by
  intro pins s σ H x v vl vu lo hi sl Q I rx hs pl pu q
  obtain ⟨w, M, ι, m, r, g⟩ := q
  unfold gSl at g
  split at g
  · cases r with
    | tup h1 q1 =>
      refine sl_tupA pins s σ H _ v vl vu lo hi sl Q I rx hs pl pu ⟨_, _, rfl, h1, fun hw => ?_, fun _ p hp => new_tup m (cut_rel q1 lo hi) g hp⟩
      rw [cut_whole q1.length.symm hw] at g
      exact g H ι (Ext.refl _ _) m _ (.tup h1 q1)
  · split at g
    · rename_i hz
      cases r
      exact sl_str pins s σ H _ v vl vu lo hi sl Q I rx hs pl pu ⟨_, rfl, hz, g H ι (Ext.refl _ _) m _ (.str _)⟩
    · exact g.elim
  · split at g
    · rename_i ws hw
      obtain ⟨a, vs, rfl, q1, c1⟩ := lstOf_rel m r hw
      have sq : SqL X.K H a vs := by
        rcases c1 with c1 | c1
        · exact SqL.of c1
        · exact c1.seq
      exact SlR.frz sl_list pins s σ H _ v vl vu lo hi sl Q I rx hs pl pu ⟨a, vs, rfl, sq, fun p hp => frz_new m (cut_rel q1 lo hi) g hp⟩
    · exact g.elim
variable {lo hi : Option Expr} {fl fh : Ev (Option Int)}
theorem fe_slice (ha : FE X a f1) (hl : FO X lo fl) (hu : FO X hi fh) : FE X (.Subscript a (.Slice lo hi none p2) pos) (eSl f1 fl fh) :=
  ⟨fun Wx tk => PE.imp (pe_slice sl_D (ha.run Wx tk) (hl.run Wx tk) (hu.run Wx tk)) fun σ H Q ⟨ρ, M, ι, hS, hM, h⟩ =>
    (TD.bind hS hM h).mono fun v H1 ⟨w1, M1, ι1, x1, s1, m1, r1, q1⟩ =>
      TO'.bind s1 m1 q1 fun l H2 M2 ι2 x2 s2 m2 q2 => TO'.bind s2 m2 q2 fun u H3 M3 ι3 x3 s3 m3 q3 => ⟨w1, M3, ι3, m3, (r1.ext x2).ext x3, q3.noX⟩⟩

/-! ### o[i] = e -/
def gSetL (o i v : D) (M : MH) : Option MH := match o, i with
  | .ob n, .int k => match M[n]? with
    | some (.lst xs) => (ixN xs.length k).map fun j => M.set n (.lst (xs.set j v))
    | _ => none
  | _, _ => none
def sSetIx (fo fi fe : Ev D) : Es := fun ρ M => (fe ρ M).sk ρ fun v M1 => (fo ρ M1).sk ρ fun o M2 => (fi ρ M2).sk ρ fun i M3 => match gSetL o i v M3 with
  | some M4 => .nx ρ M4
  | none => .stuck
theorem fs_setix {e : Expr} {pos' : Pos} (he : FE X e f3) (ho : FE X a f1) (hi : FE X b f2) (hs : swapsWithSole [.Subscript a b pos'] e pos.line X.env = pure false := by rfl) (hw : swappedStores [.Subscript a b pos'] e X.env = pure none := by rfl)
    (h1 : (assignEach [.Subscript a b pos'] X.env).map (·.2) = [assign (.Subscript a b pos') X.env] := by rfl)
    (h2 : ∀ v, assign (.Subscript a b pos') X.env v = (do
      let ov ← holding [v] (eval a X.env)
      let iv ← holding [v, ov] (eval b X.env)
      standAt pos'
      holding [v, ov, iv] (setItem ov iv v)
      release [v, ov, iv] []) := by intro v; rfl) : FS X (.Assign [.Subscript a b pos'] e pos) (sSetIx f1 f2 f3) :=
  ⟨fun Wx tk => PS.imp (ps_asg (he.run Wx tk) (pg_sub (ho.run Wx tk) (hi.run Wx tk) set_list h2) hs hw h1) fun Dd σ H ⟨ρ, M, ι, s, m, g⟩ =>
    (TD.sk s m g).mono fun v H1 ⟨w1, M1, ι1, x1, s1, m1, r1, q1⟩ => (TD.sk s1 m1 q1).mono fun o H2 ⟨w2, M2, ι2, x2, s2, m2, r2, q2⟩ =>
      (TD.sk s2 m2 q2).mono fun i H3 ⟨w3, M3, ι3, x3, s3, m3, r3, q3⟩ => by
        cases r3 with
        | int k =>
          cases r2 with
          | @ob n p hn =>
            simp only [gSetL] at q3
            cases hx : M3[n]? with
            | none => rw [hx] at q3; exact q3.elim
            | some mo =>
              rw [hx] at q3
              cases mo with
              | lst xs =>
                dsimp only at q3
                cases hj : ixN xs.length k with
                | none => rw [hj] at q3; exact q3.elim
                | some j =>
                  rw [hj] at q3
                  have hn3 := pre_get x3.pre hn
                  obtain ⟨vs, h1, h2⟩ := m3.obj n _ p hx hn3
                  have rv : RelD X.cx H3 ι3 w1 v := (r1.ext x2).ext x3
                  refine ⟨p, vs, k, j, rfl, rfl, h1, by rw [h2.length]; exact hj, ?_⟩
                  have x4 : Ext H3 ι3 (upd H3 p (.lst (vs.set j v))) ι3 := Ext.put (List.mem_of_getElem? hn3) (by rw [h1]; trivial)
                  exact q3 σ _ ι3 x4 (s3.ext x4) (m3.put hn3 x4 ⟨_, upd_same, (h2.set rv j).ext x4⟩)
              | _ => exact q3.elim
          | _ => exact q3.elim
        | _ => cases r2 <;> exact q3.elim⟩
end

/-! ### enumerate -/
def IteT (K : Frg) (a : Addr) : It :=
  ⟨fun i H => ∃ (xs : List V) (x : V), SqT K H a xs ∧ xs[i]? = some x,
   fun i H v H' => ∃ T x, v = .ref T ∧ H T = none ∧ H' = upd H T (.tup [.int (i : Nat), x]) ∧ ∀ xs, SqT K H a xs → xs[i]? = some x,
   fun i H => ∃ xs : List V, SqT K H a xs ∧ xs.length = i⟩
theorem turn_enumT {P : Program} {w : World} {K : Frg} {elts : List Expr} {kk : Nat} {tpos : Pos} (a e it : Addr) :
    Turn P w K (.Tuple elts kk tpos) (IteT K a) [e, it] e (fun i h => (∃ old, IsEnum h e it ((i : Nat) : Int) old) ∧ h.IsTupleIter it a i ∧ e ≠ it ∧ a ≠ it) where
  mem := by simp
  obj := by
    intro i h st b hb
    obtain ⟨⟨old, he⟩, ⟨o, ho, hc, hd⟩, _⟩ := st
    simp only [List.mem_cons, List.not_mem_nil, or_false] at hb
    cases hb with
    | inl z => subst z; exact ⟨_, he, fun v q => nomatch q⟩
    | inr z => subst z; exact ⟨o, ho, fun v q => by rw [hd] at q; cases q⟩
  keep := by
    intro i h h' st k
    obtain ⟨⟨old, he⟩, hi, hne⟩ := st
    exact ⟨⟨old, k e (by simp) _ he⟩, hi.at fun o q => k it (by simp) o q, hne⟩
  item := by
    intro X hP hw hK hc i pins s σ H E I hf st hg
    subst hP; subst hw; subst hK
    obtain ⟨⟨old, he⟩, hit, hne, hai⟩ := st
    obtain ⟨xs, x, hq, hx⟩ := hg
    obtain ⟨its, rv, ht, hz⟩ := I.tuple hq
    obtain ⟨u, hu, ru⟩ := rv.get hx
    have hlt : i < its.toArray.size := by
      have := (List.getElem?_eq_some_iff.mp hu).1
      simpa using this
    have hea : e ≠ a := fun z => by
      subst z
      obtain ⟨o, h1, h2, _⟩ := ht
      have h3 : s.heap.get? e = _ := he
      rw [h1] at h3
      cases h3
      injection h2 with z
      exact absurd z (by decide)
    have hel : e < s.heap.objs.size := Heap.lt_size he
    have hil : it < s.heap.objs.size := by obtain ⟨_, q, _⟩ := hit; exact Heap.lt_size q
    have hte : s.heap.IsTuple a its.toArray := by
      obtain ⟨o, h1, h2, n, h3⟩ := ht
      exact ⟨o, h1, h2, n, h3⟩
    refine wpAny_pyNext_enum_itemD (Draws.tuple (A := X.A.in1) (I.ok.hd hc) it a hai its.toArray) he ⟨hit, hte⟩ hlt hne (by simp [hea, hne]) ?_
    intro x' h' tk hx' ho hit' hT hsz hk
    have ex : x' = u := by
      have q : its.toArray[i]? = some u := by simpa using hu
      rw [q] at hx'
      exact (Option.some.inj hx').symm
    subst ex
    refine ⟨_, rfl, wpAny_letOwnedTupleGo_enum (s := { s with heap := h', toks := tk + 1 }) ho fun h'' he' sb => ?_⟩
    have hT2 : h''.get? s.heap.objs.size = some { cls := .type "tuple", data := .seq #[.int i tk, x'] } := (sb.2 _ (Nat.ne_of_gt hel)).trans hT
    have new : ObjOk X.prog X.w (upd H s.heap.objs.size (.tup [.int (i : Nat), x])) h'' s.heap.objs.size (.tup [.int (i : Nat), x]) :=
      ⟨(by decide : 2 ≤ 16777216) |> fun z => by rw [sizeLine_eq]; exact z, [.int i tk, x'], .cons ⟨_, rfl⟩ (.cons ru .nil), ⟨_, hT2, rfl, _, rfl⟩⟩
    have keepAll : ∀ b ob, b ∉ [e, it] → s.heap.get? b = some ob → h''.get? b = some ob := by
      intro b ob hb q
      have n1 : b ≠ e := fun z => hb (by simp [z])
      have n2 : b ≠ it := fun z => hb (by simp [z])
      exact (sb.2 b n1).trans (hk b ob n1 n2 q)
    have I1 : Inv X pins σ (upd H s.heap.objs.size (.tup [.int (i : Nat), x])) { s with heap := h'', toks := tk + 1 } := I.turnedNew (ch := [e, it]) keepAll hf (Nat.le_refl _) new
    refine ⟨.ref s.heap.objs.size, _, I1, rfl, ⟨_, x, rfl, I.hok.fresh (Nat.le_refl _), rfl, ?_⟩, ⟨⟨x', ?_⟩, hit'.1.at fun o q => (sb.2 it (Ne.symm hne)).trans q, hne, hai⟩, ?_⟩
    · intro ys hy
      rw [I.tuple_inj hy hq]
      exact hx
    · have e1 : ((i + 1 : Nat) : Int) = (i : Int) + 1 := by omega
      rw [e1]
      exact he'
    · intro b hb
      have hb' : b < s.heap.objs.size := by
        simp only [List.mem_cons, List.not_mem_nil, or_false] at hb
        cases hb with
        | inl z => rw [z]; exact hel
        | inr z => rw [z]; exact hil
      rw [upd_ne (Nat.ne_of_lt hb')]
      exact (hf b hb).1
  done := by
    intro X hP hw hK hc i pins s σ H E I hf st hg
    subst hP; subst hw; subst hK
    obtain ⟨⟨old, he⟩, hit, hne, hai⟩ := st
    obtain ⟨xs, hq, hx⟩ := hg
    obtain ⟨its, rv, ht, hz⟩ := I.tuple hq
    obtain ⟨f0, f1, f2, f3, f4, f5⟩ := hf it (by simp)
    have hl := rv.length
    have hte : s.heap.IsTuple a its.toArray := by
      obtain ⟨o, h1, h2, n, h3⟩ := ht
      exact ⟨o, h1, h2, n, h3⟩
    have hsz : its.toArray.size = i := by rw [List.size_toArray, ← hl, hx]
    have Dr := Draws.tuple (prog := X.prog) (w := X.w) (A := X.A.in1) (I.ok.hd hc) it a hai its.toArray
    rw [hsz] at Dr
    exact wpAny_pyNext_enum_endD Dr he ⟨hit, hte⟩ fun h' eb => ⟨rfl, I.turned (t' := s.toks) (fun b o hb q => eb b o hb q) f0 f1 f3 f4 f5⟩
  self := by
    intro A i s Q E st h
    obtain ⟨⟨_, he⟩, _⟩ := st
    exact wpAny_pyIter_enum he h
/-- enumerate(v): the cells, whatever v begins with -/
abbrev enumHeap (h : Heap) (o : Obj) : Heap := (h.push o).push { cls := .type "enumerate", data := .fields #[.none, .bool false, .ref h.objs.size, rawInt 0, .none, .none] }
set_option maxHeartbeats 1000000 in
theorem meets_enum1 {v : Value} {o : Obj} {Hh : Heap → Prop} (B : Begins v o Hh) :
    Meets (Builtin.«enumerate.__new__» ⟨[.type "enumerate", v], []⟩) (fun _ R s => Hh s.heap ∧ R (.ok (.ret (.ref (s.heap.push o).objs.size))) { s with heap := enumHeap s.heap o }) :=
  .of_wp fun prog w A R s hh => by
    obtain ⟨hp, g, d, tk, os⟩ := s
    obtain ⟨h1, h⟩ := hh
    have hsub := sub_enumerate
    have q1 : ∀ {A' : Around} {E : Value → Shared → Prop} {Q : Value → Shared → Prop}, Q (.ref hp.objs.size) ⟨hp.push o, g, d, tk, os⟩ → wpAny (model prog w) A' (pyIter v) Q E ⟨hp, g, d, tk, os⟩ := by
      intro A' E Q q
      exact B.iter prog w _ _ ⟨hp, g, d, tk, os⟩ _ h1 q
    wp_walk using q1
    refine wpAny_stack_any fun st => wpAny_pure ?_
    split
    case h_1 c _ _ _ _ _ => cases (c == Value.type "enumerate") <;> (wp_walk using q1; exact ⟨_, rfl, h⟩)
    all_goals (wp_walk using q1; exact ⟨_, rfl, h⟩)
theorem call_enumerate_B {prog : Program} {w : World} {A : Around} {E : Value → Shared → Prop} {s : Shared} {v : Value} {o : Obj} {Hh : Heap → Prop} {Q : Value → Shared → Prop} (B : Begins v o Hh) (h1 : Hh s.heap)
    (h : ∀ h', IsEnum h' (s.heap.objs.size + 1) s.heap.objs.size 0 .none → h'.get? s.heap.objs.size = some o → h'.objs.size = s.heap.objs.size + 2 → (∀ b o, s.heap.get? b = some o → h'.get? b = some o) → Q (.ref (s.heap.objs.size + 1)) { s with heap := h' }) :
    wpAny (model prog w) A (call (.type "enumerate") [v]) Q E s := by
  have hz : (s.heap.push o).objs.size = s.heap.objs.size + 1 := Heap.size_push ..
  refine callType_new F.called_enumerate (by decide) (F.typeCall_enumerate_1 _) (F.newCall_enumerate_1 _) (fun obj => F.args_object_init_2 obj _) F.entry_enumerate_new (meets_enum1 B) ⟨h1, ?_⟩
  have he : IsEnum (enumHeap s.heap o) (s.heap.objs.size + 1) s.heap.objs.size 0 .none := by
    have q := Heap.get?_push_size (s.heap.push o) (o := { cls := .type "enumerate", data := .fields #[.none, .bool false, .ref s.heap.objs.size, rawInt 0, .none, .none] }) rfl
    rwa [hz] at q
  show _ ∧ _
  rw [hz]
  exact ⟨⟨_, he, rfl⟩, h _ he (Heap.get?_push_of_some _ (Heap.get?_push_size _ B.free)) (by rw [Heap.size_push, hz]) fun b ob x => Heap.get?_push_of_some _ (Heap.get?_push_of_some _ x)⟩
def iEnumT (K : Frg) (ta : TA) : TI := fun σ H R => ta σ H fun vs H1 => ∃ a xs, vs = [.ref a] ∧ SqT K H1 a xs ∧ R (IteT K a) H1
theorem pi_enumT {X : Cx} {e : Expr} {ta : TA} {p pos tpos : Pos} {elts : List Expr} {kk : Nat} (hg : Gl X "enumerate") (hm : X.mg "enumerate" = none) (ha : PA X [e] ta) (hs : starEach [e] X.env = [(false, eval e X.env)] := by rfl) :
    PI X (.Tuple elts kk tpos) (.Call (.Name "enumerate" p) [e] [] pos) (iEnumT X.K ta) := by
  constructor
  intro pins s σ H R I h
  refine Call_ (ld_blt I hg hm boot_enumerate (PyProof.Rows.callWith_type1 (thn (ha.run pos pins s σ H _ I h) ?_) hs rfl))
  rintro us s1 ⟨vs, H1, I1, r1, a, xs, ex, hq, q⟩
  subst ex
  cases r1 with
  | cons r rr =>
    cases rr
    cases r
    obtain ⟨its, rv, ht, hz⟩ := I1.tuple hq
    have hte : s1.heap.IsTuple a its.toArray := by
      obtain ⟨o, h1, h2, n, h3⟩ := ht
      exact ⟨o, h1, h2, n, h3⟩
    refine call_enumerate_B (begins_tuple a its.toArray) hte ?_
    intro h' he hit hsz hk
    refine wpAny_pyIter_enum he ?_
    have I2 : Inv X pins σ H1 { s1 with heap := h' } := I1.kept (t' := s1.toks) hk
    have hal : a < s1.heap.objs.size := by obtain ⟨o, h1, _⟩ := hte; exact Heap.lt_size h1
    refine ⟨s1.heap.objs.size + 1, [s1.heap.objs.size + 1, s1.heap.objs.size], _, _, H1, rfl, I2, turn_enumT a (s1.heap.objs.size + 1) s1.heap.objs.size, ⟨⟨.none, he⟩, ⟨_, hit, rfl, rfl⟩, Nat.succ_ne_self _, Nat.ne_of_lt hal⟩, fun b hb => ?_, q⟩
    have hle : s1.heap.objs.size ≤ b := by
      simp only [List.mem_cons, List.not_mem_nil, or_false] at hb
      cases hb with
      | inl z => rw [z]; exact Nat.le_add_right _ _
      | inr z => rw [z]; exact Nat.le_refl _
    exact I1.fpOk hle (I1.hok.fresh hle)
def pairsD (ws : List D) : List D := ws.zipIdx.map fun p => .tup [.int (p.2 : Nat), p.1]
theorem pairsD_len (ws : List D) : (pairsD ws).length = ws.length := by simp [pairsD]
theorem pairsD_at {ws : List D} {i : Nat} {d : D} (h : ws[i]? = some d) : (pairsD ws)[i]? = some (.tup [.int (i : Nat), d]) := by
  simp [pairsD, h]
theorem yields_pair {K : Ctx} {H : Hp} {ι : List Addr} {ws : List D} {vs : List V} (r : RelDs K H ι ws vs) {i : Nat} {H1 : Hp} {ι1 : List Addr} {v : V} {H2 : Hp} (x : Ext H ι H1 ι1) {T : Addr} {y : V} (ev : v = .ref T) (hT : H1 T = none) (e2 : H2 = upd H1 T (.tup [.int (i : Nat), y])) (hy : vs[i]? = some y) :
    ∃ d, (pairsD ws)[i]? = some d ∧ Ext H1 ι1 H2 ι1 ∧ RelD K H2 ι1 d v ∧ ∀ M, MemD K H1 ι1 M → MemD K H2 ι1 M := by
  subst ev; subst e2
  obtain ⟨d, h1, h2⟩ := r.get' hy
  have x2 : Ext H1 ι1 (upd H1 T (.tup [.int (i : Nat), y])) ι1 := Ext.new hT
  exact ⟨_, pairsD_at h1, x2, .tup (.inl (.inl upd_same)) (.cons (.int _) (.cons ((h2.ext x).ext x2) .nil)), fun M m => m.new hT⟩
theorem WalkD.enumL {K : Ctx} {H : Hp} {ι : List Addr} {a : Addr} {ws : List D} {vs : List V} (h : LstF K H a vs) (r : RelDs K H ι ws vs) : WalkD K H ι (Ite K.K a) (pairsD ws) :=
  ⟨fun H' => SqL K.K H' a vs, _, by rw [pairsD_len, ← r.length]; exact walk_enum, fun H' ι' x => (x.lstF h).seq, fun i H1 ι1 v H2 x hi q => by
    obtain ⟨T, y, z, ev, hT, e2, h1, h2⟩ := q
    cases h1
    exact yields_pair r x ev hT e2 h2⟩
theorem WalkD.enumT {K : Ctx} {H : Hp} {ι : List Addr} {a : Addr} {ws : List D} {vs : List V} (h : SqT K.K H a vs) (r : RelDs K H ι ws vs) : WalkD K H ι (IteT K.K a) (pairsD ws) := by
  refine ⟨fun H' => SqT K.K H' a vs, fun i H1 v H2 => ∃ T y, v = .ref T ∧ H1 T = none ∧ H2 = upd H1 T (.tup [.int (i : Nat), y]) ∧ vs[i]? = some y, ⟨?_, ?_, ?_⟩, fun H' ι' x => x.sqT h, ?_⟩
  · intro i H' hi q
    rw [pairsD_len, ← r.length] at hi
    exact ⟨vs, vs[i], q, by simp [hi]⟩
  · intro H' q
    exact ⟨vs, q, by rw [pairsD_len, ← r.length]⟩
  · rintro i H' v H2 hi q ⟨T, y, ev, hT, e2, hy⟩
    exact ⟨T, y, ev, hT, e2, hy vs q⟩
  · rintro i H1 ι1 v H2 x hi ⟨T, y, ev, hT, e2, hy⟩
    exact yields_pair r x ev hT e2 hy
def gEnum (ws : List D) (M : MH) : Res (List D) := match ws with
  | [.tup xs] => .ok (pairsD xs) M
  | [.lst xs] => .ok (pairsD xs) M
  | _ => .stuck
def eEnum (fr : Ev (List D)) : Ev (List D) := fun ρ M => (fr ρ M).bind gEnum
theorem fi_enum {X : Cx} {e : Expr} {fr : Ev (List D)} {p pos tpos : Pos} {elts : List Expr} {kk : Nat} (hg : Gl X "enumerate") (hm : X.mg "enumerate" = none) (ha : FA X [e] fr) (hs : starEach [e] X.env = [(false, eval e X.env)] := by rfl) :
    FI X (.Tuple elts kk tpos) (.Call (.Name "enumerate" p) [e] [] pos) (eEnum fr) := ⟨fun Wx tk => by
  have p1 := pi_enum (tpos := tpos) (elts := elts) (kk := kk) (p := p) (pos := pos) hg hm (ha.run Wx tk) hs
  have p2 := pi_enumT (tpos := tpos) (elts := elts) (kk := kk) (p := p) (pos := pos) hg hm (ha.run Wx tk) hs
  refine PI.imp (PI_or p1 p2) fun σ H R ⟨ρ, M, ι, hS, hM, g⟩ => ?_
  unfold eEnum at g
  cases q : fr ρ M with
  | exc c fs M1 =>
    rw [q] at g
    exact .inl ⟨ρ, M, ι, hS, hM, by rw [q]; exact g⟩
  | stuck => rw [q] at g; exact g.elim
  | ok w M1 =>
    rw [q, Res.bind_ok] at g
    unfold gEnum at g
    split at g
    · refine .inr ⟨ρ, M, ι, hS, hM, ?_⟩
      rw [q]
      intro H' ι' x m v r
      obtain ⟨v, rfl, r1⟩ := r.one
      cases r1 with
      | tup hT rr => exact ⟨_, _, rfl, hT, g H' ι' x m _ (WalkD.enumT hT rr)⟩
    · refine .inl ⟨ρ, M, ι, hS, hM, ?_⟩
      rw [q]
      intro H' ι' x m v r
      obtain ⟨v, rfl, r1⟩ := r.one
      cases r1 with
      | lst hT rr => exact ⟨_, _, rfl, hT.seq, g H' ι' x m _ (WalkD.enumL hT rr)⟩
    · exact g.elim⟩
end FL

namespace FL
open PySem PySem.Spec PyProof.Rows L2

/-! ### the law is called -/
theorem ints_rel {K : Ctx} {H : Hp} {ι : List Addr} : ∀ ns : List Int, RelDs K H ι (ns.map D.int) (ns.map V.int)
  | [] => .nil
  | n :: r => .cons (.int n) (ints_rel r)
/-- what the law gives: True, behind every script -/
def LawTrue (φ : List D → MH → Res D) (n : Nat) : Prop := ∀ ns : List Int, ns.length ≤ n → ∃ M, φ [.lst (ns.map D.int)] [] = .ok (.bl true) M
theorem law_run {P : Program} {w : World} {K : Frg} {mg mb : Str → Option Value} {k : Nat} {fa a : Addr} {fd : FuncData} {x : Str} {φ : List D → MH → Res D} {s₁ : Shared} {vs : List Value} {ns : List Int} {n : Nat}
    (KX : K.In s₁.heap) (hns : s₁.heap.Ns mainGlobals mg) (hb : s₁.heap.Ns builtinsNs mb) (hbb : ∀ y : Str, y ≠ "__name__" → mb y = bootBuiltins y) (hlim : s₁.heap.NoLimit) (hsys : ∃ mm, s₁.heap.Ns sysModules mm) (hg : s₁.gens = #[])
    (ha : s₁.heap.get? a = some { cls := .type "list", data := .seq vs.toArray }) (hi : IntsAre vs ns) (hl : ns.length ≤ n) (hn : n ≤ sizeLine) (hr : Room k callerA)
    (F : ∀ base : Heap, K.In base → base.Ns mainGlobals mg → (∃ mm, base.Ns sysModules mm) → FnG P w K mg base k fa fd [x] φ) (hbind : ∀ (s : Shared) (u : Value), BindsTo s fd ⟨[u], []⟩ [(x, u)]) (hφ : LawTrue φ n) :
    codeAny (model P w) callerA (.call (.ref fa) ⟨[.ref a], []⟩) (fun r s' => r = .ok (.ret (.bool true)) ∧ OldK s₁.heap s'.heap ∧ s'.os = s₁.os ∧ AllBare s'.gens) s₁ := by
  have rv := vals_ints hi
  have lenV : vs.length = ns.length := hi.length
  -- the script is tracked as a closed list, or it is one of the module's own things
  have ex : ∃ H : Hp, LstF ⟨P, w, K⟩ H a (ns.map V.int) ∧ (∀ b u, H b = some u → b = a ∧ K.lookup a = none ∧ u = .frz { cls := .type "list", data := .seq vs.toArray } (.lst (ns.map V.int))) := by
    cases hk : K.lookup a with
    | some o =>
      have e := KX a o hk
      rw [ha] at e
      cases e
      exact ⟨fun _ => none, .inr ⟨vs, _, hk, by rw [lenV]; exact Nat.le_trans hl hn, rv⟩, fun b u z => by cases z⟩
    | none =>
      refine ⟨fun b => if b = a then some (.frz { cls := .type "list", data := .seq vs.toArray } (.lst (ns.map V.int))) else none, .inl ⟨_, if_pos rfl⟩, fun b u z => ?_⟩
      by_cases h : b = a
      · have z' := (if_pos h).symm.trans z
        exact ⟨h, rfl, (Option.some.inj z').symm⟩
      · have z' := (if_neg h).symm.trans z
        cases z'
  obtain ⟨H, hS, hA⟩ := ex
  have ok : HOk P w H s₁.heap := by
    intro b u z
    obtain ⟨e1, _, e2⟩ := hA b u z
    subst e1; subst e2
    exact ⟨ha, by rw [List.length_map]; exact Nat.le_trans hl hn, vs, _, rv, ha⟩
  have noA : ∀ {b : Addr} {o : Obj} {es : Array DictEntry} {ep : Nat}, s₁.heap.get? b = some o → o.data = .dict es ep → H b = none := by
    intro b o es ep e d
    cases q : H b with
    | none => rfl
    | some u =>
      obtain ⟨e1, _⟩ := hA b u q
      subst e1
      rw [ha] at e
      cases e
      cases (show Data.seq vs.toArray _ = Data.dict es ep from d)
  have nsK : ∀ {b : Addr} {m : Str → Option Value}, s₁.heap.Ns b m → (hidT s₁.heap H).Ns b m := by
    intro b m ⟨o, es, ep, e, d, r⟩
    exact ⟨o, es, ep, hidT_get e (noA e d), d, r⟩
  have hKb : K.In (hidT s₁.heap H) := by
    intro b o e
    refine hidT_get (KX b o e) ?_
    cases q : H b with
    | none => rfl
    | some u =>
      obtain ⟨e1, e2, _⟩ := hA b u q
      rw [e1, e2] at e
      cases e
  have hM : Mod K mg (hidT s₁.heap H) := by
    refine ⟨hKb, nsK hns, ⟨mb, nsK hb, hbb⟩, ?_⟩
    obtain ⟨mc, h1, h2⟩ := hlim
    exact ⟨mc, nsK h1, h2⟩
  have hsb : ∃ mm, (hidT s₁.heap H).Ns sysModules mm := by
    obtain ⟨mm, h⟩ := hsys
    exact ⟨mm, nsK h⟩
  have none_in : ∀ b : Addr, b ∉ ([] : List Addr) := fun b z => by cases z
  have e0 : Env0 P w K mg (hidT s₁.heap H) callerA [] s₁ H :=
    { frames := rfl, mod := hM, bs := fun b o e => of_hidT e, bsz := Nat.le_of_eq (hidT_size _ _), funs := trivial, frf := fun b hb => (none_in b hb).elim, hok := ok, bare := .of_eq hg }
  obtain ⟨M', hM'⟩ := hφ ns hl
  have sp : spOf ⟨P, w, K⟩ [x].length φ [.ref a] H (fun v _ => v = .bl true) (fun _ _ _ => False) := by
    refine ⟨rfl, [.lst (ns.map D.int)], [], [], { len := rfl, nd := .nil, obj := fun m mo b h1 _ => by simp at h1, there := fun m b h => by simp at h }, .cons (.lst hS (ints_rel ns)) .nil, ?_⟩
    rw [hM']
    intro H' ι' x m v r
    cases r
    rfl
  refine codeAny_mono ((F _ hKb (nsK hns) hsb).run callerA [] s₁ H ⟨[.ref a], []⟩ [.ref a] [.ref a] _ _ hr rfl e0 (hbind s₁ (.ref a)) (.cons rfl .nil) sp) ?_
  intro r s' h
  cases r with
  | error e =>
    obtain ⟨_, _, _, _, _, _, _, _, _, _, _, _, z⟩ := h
    exact z.elim
  | ok fl =>
    cases fl with
    | next => exact False.elim h
    | brk => exact False.elim h
    | cont => exact False.elim h
    | ret u =>
      obtain ⟨v, H', os, bare, un, hok', r', q⟩ := h
      subst q
      obtain rfl : u = Value.bool true := r'
      refine ⟨rfl, OldK.of_keep fun b o e => ?_, os, bare⟩
      cases q : H b with
      | none => exact un.keep b o e q (none_in b) (none_in b)
      | some u =>
        obtain ⟨e1, _, e2⟩ := hA b u q
        subst e1; subst e2
        have z2 := un.frzs b _ _ q
        obtain ⟨e3, _⟩ := hok' b _ z2
        rw [ha] at e
        cases e
        exact e3
theorem walk_G {l : PySem.W.OpenLaw} {n k : Nat} {q : Program} {loose : List Str} {XP : (Str → Option Value) → Heap → Prop} {YP : World → Heap → Prop} {d : DefRec} {K : Params → Frg} {x : Str}
    (hn : l.most = some n) (hn2 : n ≤ sizeLine) (hdf : d.params.defaults = []) (hr : Room k callerA) (hq : importsNone q = true) (hY : ∀ (w : World) (h : Heap), YP w h → (K w.params).In h)
    (F : ∀ (w : World) (mg : Str → Option Value) (fa : Addr) (h : Heap), (K w.params).In h → h.Ns mainGlobals mg → mg d.name = some (.ref fa) →
      ∃ fd : FuncData, (∀ (s : Shared) (u : Value), BindsTo s fd ⟨[u], []⟩ [(x, u)]) ∧ ∃ φ : List D → MH → Res D, LawTrue φ n ∧
        ∀ base : Heap, (K w.params).In base → base.Ns mainGlobals mg → (∃ mm, base.Ns sysModules mm) → FnG l.prog w (K w.params) mg base k fa fd [x] φ) :
    PySem.W.WalkO q loose XP YP l.row.toRowW d [] (fun f vs => PySem.call f vs) := by
  refine Att.attach_call hn hdf ?_
  intro w s₀ s₁ mg mb fa o pm cd doc a vs ns G Y ho hd hcd hmg hobj hints hlen hg
  have KX := hY w _ Y
  obtain ⟨fd, hb, φ, hφ, hF⟩ := F w mg fa _ KX G.T.g hmg
  exact law_run KX G.T.g G.T.b G.T.builtins G.T.nolimit (let ⟨mm, h, _⟩ := (G.T.seer hq).mods; ⟨mm, h⟩) hg hobj hints hlen hn2 hr hF hb hφ
end FL

namespace FL
open PySem PySem.Spec PyProof.Rows L2

/-! ### a def's function from its body -/
def startD (n : Nat) (ws : List D) : DSt := ws.map some ++ List.replicate (n - ws.length) none
def SR.fin : SR → Res D
  | .rt w M => .ok w M
  | .nx _ M => .ok .non M
  | .exc c fs _ M => .exc c fs M
  | _ => .stuck
def fnD (n : Nat) (g : Es) : List D → MH → Res D := fun ws M => (g (startD n ws) M).fin
theorem start_rel {K : Ctx} {H : Hp} {ι : List Addr} {ws : List D} {vs : List V} {N : List Str} (r : RelDs K H ι ws vs) : RelS K H ι (L2.start N vs) (startD N.length ws) := by
  unfold L2.start startD
  refine ⟨by simp [r.length], fun i w h => ?_⟩
  by_cases hi : i < ws.length
  · rw [List.getElem?_append_left (by simpa using hi), List.getElem?_map] at h
    cases e : ws[i]? with
    | none => rw [e] at h; cases h
    | some w' =>
      rw [e] at h
      cases h
      obtain ⟨v, h1, h2⟩ := r.get e
      exact ⟨v, by rw [List.getElem?_append_left (by rw [List.length_map, r.length]; exact hi), List.getElem?_map, h1]; rfl, h2⟩
  · rw [List.getElem?_append_right (by simpa using hi)] at h
    have := List.mem_of_getElem? h
    rw [List.mem_replicate] at this
    cases this.2
section
variable {P : Program} {w : World} {K : Frg} {mg : Str → Option Value} {base : Heap}
theorem Fun.okD {x qual : Str} {st : Stmt} {f : Addr} {fd : FuncData} {N ps : List Str} {k : Nat} {g : Es} (F : Fun K x qual st f fd) (S : FnScope N ps (defScope st))
    (hb : ∀ (cdv : Value) (A : Around) (outer : List Env) (s : Shared) (H : Hp) (E : XK), Room k (A.deeper (envOfC qual (defScope st) s.heap.objs.size f cdv)) → A.guards = some [] →
      FSs (cxOf (L2.CX P w) P w K mg base N qual (defScope st) f cdv A outer s H E) (defBody st) g) : FnG P w K mg base (k + 1) f fd ps (fnD N.length g) := by
  refine Fun.okG F S ?_
  intro cdv A outer s H vs Q E hr hG hsp
  obtain ⟨hl, ws, M, ι, m, r, q⟩ := hsp
  refine ⟨_, (hb cdv A outer s H E hr hG).run (fun cls d _ H => E cls d H) (takes_of rfl rfl rfl rfl), startD N.length ws, M, ι, start_rel r, m, ?_⟩
  revert q
  unfold fnD
  cases g (startD N.length ws) M with
  | nx ρ M' => exact fun q σ' H' ι' x s' m' => q H' ι' x m' _ .non
  | rt w M' => exact fun q v H' ι' x r m' => q H' ι' x m' v r
  | exc c fs ρ M' => exact fun q cv hv d σ' H' ι' x s' m' z => q cv hv d H' ι' x m' z
  | bk ρ M' => exact fun q => q.elim
  | ct ρ M' => exact fun q => q.elim
  | stuck => exact fun q => q.elim

/-! ### what a def has made and does not hand back is forgotten -/
mutual
def below (n : Nat) : D → Bool
  | .ob k => decide (k < n)
  | .tup ws => belows n ws
  | .lst ws => belows n ws
  | .dct kvs => belowKv n kvs
  | _ => true
def belows (n : Nat) : List D → Bool
  | [] => true
  | w :: ws => below n w && belows n ws
def belowKv (n : Nat) : List (D × D) → Bool
  | [] => true
  | (k, w) :: r => below n k && below n w && belowKv n r
end
def belowO (n : Nat) : MO → Bool
  | .lst ws => belows n ws
  | .dct kvs => belowKv n kvs
  | .ins _ fs => belows n (fs.map (·.2))
  | .exc _ fs => belows n (fs.map (·.2))
  | .dead => true
theorem and_l {a b : Bool} (h : (a && b) = true) : a = true := (Bool.and_eq_true_iff.mp h).1
theorem and_r {a b : Bool} (h : (a && b) = true) : b = true := (Bool.and_eq_true_iff.mp h).2
mutual
theorem RelD.cut {K : Ctx} {H : Hp} {ι ι0 : List Addr} (p : ι0 <+: ι) : ∀ {w : D} {v : V}, RelD K H ι w v → below ι0.length w = true → RelD K H ι0 w v
  | _, _, .non, _ => .non
  | _, _, .bl b, _ => .bl b
  | _, _, .int b, _ => .int b
  | _, _, .str b, _ => .str b
  | _, _, .ty b, _ => .ty b
  | _, _, .glb b, _ => .glb b
  | _, _, .tup h r, e => .tup h (RelDs.cut p r (by unfold FL.below at e; exact e))
  | _, _, .lst h r, e => .lst h (RelDs.cut p r (by unfold FL.below at e; exact e))
  | _, _, .dct h r z, e => .dct h (RelE.cut p r (by unfold FL.below at e; exact e)) z
  | _, _, .set h, e => .set h
  | _, _, .ob (n := n) h, e => .ob (by
    unfold FL.below at e
    have hl := of_decide_eq_true e
    obtain ⟨t, rfl⟩ := p
    rw [List.getElem?_append_left hl] at h
    exact h)
theorem RelDs.cut {K : Ctx} {H : Hp} {ι ι0 : List Addr} (p : ι0 <+: ι) : ∀ {w : List D} {v : List V}, RelDs K H ι w v → belows ι0.length w = true → RelDs K H ι0 w v
  | _, _, .nil, _ => .nil
  | _, _, .cons h r, e => .cons (RelD.cut p h (and_l (by unfold belows at e; exact e))) (RelDs.cut p r (and_r (by unfold belows at e; exact e)))
theorem RelE.cut {K : Ctx} {H : Hp} {ι ι0 : List Addr} (p : ι0 <+: ι) : ∀ {w : List (D × D)} {v : List DictEntry}, RelE K H ι w v → belowKv ι0.length w = true → RelE K H ι0 w v
  | _, _, .nil, _ => .nil
  | _, _, .cons h1 h2 h3 h4 r, e => .cons (RelD.cut p h1 (and_l (and_l (by unfold belowKv at e; exact e)))) h2 (RelD.cut p h3 (and_r (and_l (by unfold belowKv at e; exact e)))) h4 (RelE.cut p r (and_r (by unfold belowKv at e; exact e)))
end
theorem MemD.cut {K : Ctx} {H : Hp} {ι ι0 : List Addr} {M : MH} (p : ι0 <+: ι) (m : MemD K H ι M) (h : ((M.take ι0.length).all (belowO ι0.length)) = true) : MemD K H ι0 (M.take ι0.length) := by
  have hl : ι0.length ≤ ι.length := p.length_le
  refine ⟨?_, ?_, fun n mo a h1 h2 => ?_, fun n a h2 => m.there n a (pre_get p h2)⟩
  · rw [List.length_take, ← m.len]
    omega
  · obtain ⟨t, rfl⟩ := p
    exact (List.nodup_append.mp m.nd).1
  · have hn : n < ι0.length := (List.getElem?_eq_some_iff.mp h2).1
    have hmem := List.mem_of_getElem? h1
    rw [List.getElem?_take_of_lt hn] at h1
    have q := m.obj n mo a h1 (pre_get p h2)
    have hb := List.all_eq_true.mp h mo hmem
    cases mo with
    | lst ws => obtain ⟨vs, e, r⟩ := q; exact ⟨vs, e, r.cut p hb⟩
    | dct kvs => exact q.elim
    | ins C fs => obtain ⟨dx, vs, e, r⟩ := q; exact ⟨dx, vs, e, r.cut p hb⟩
    | exc C fs => obtain ⟨d, vs, e, z, r⟩ := q; exact ⟨d, vs, e, z.go fun d' r n => ⟨r, fun z => n (p.subset z)⟩, r.cut p hb⟩
    | dead => trivial
def gcR (n : Nat) (r : Res D) : Res D := match r with
  | .ok w M => if below n w = true ∧ ((M.take n).all (belowO n)) = true then .ok w (M.take n) else .stuck
  | .exc c fs M => if belows n (fs.map (·.2)) = true ∧ ((M.take n).all (belowO n)) = true then .exc c fs (M.take n) else .stuck
  | .stuck => .stuck
def gcD (φ : List D → MH → Res D) : List D → MH → Res D := fun ws M => gcR M.length (φ ws M)
theorem Ext.back {H H' : Hp} {ι ι' : List Addr} (x : Ext H ι H' ι') : Ext H ι H' ι := ⟨List.prefix_refl _, fun _ h => .inl h, x.frame, x.tups, x.frzs⟩
theorem FnG.gc {k : Nat} {f : Addr} {fd : FuncData} {ps : List Str} {φ : List D → MH → Res D} (F : FnG P w K mg base k f fd ps φ) : FnG P w K mg base k f fd ps (gcD φ) := by
  constructor
  intro A outer s H args us vs Q E hr hg e0 hb r hsp
  refine F.run A outer s H args us vs Q E hr hg e0 hb r ?_
  obtain ⟨hl, ws, M, ι, m, rr, q⟩ := hsp
  refine ⟨hl, ws, M, ι, m, rr, ?_⟩
  revert q
  unfold gcD gcR
  rw [← m.len]
  cases φ ws M with
  | ok w M' =>
    intro q
    dsimp only at q
    split at q
    · rename_i hc
      exact fun H' ι' x m' v rv => q H' ι x.back (m'.cut x.pre hc.2) v (rv.cut x.pre hc.1)
    · exact q.elim
  | exc c fs M' =>
    intro q
    dsimp only at q
    split at q
    · rename_i hc
      exact fun cv hv d H' ι' x m' z => q cv hv d H' ι x.back (m'.cut x.pre hc.2) fun hf => by
        obtain ⟨d', vs', h1, h2, h3⟩ := z hf
        exact ⟨d', vs', h1, h2, h3.cut x.pre hc.1⟩
    · exact q.elim
  | stuck => exact fun q => q.elim
end
end FL

namespace FL
open PySem PySem.Spec PyProof.Rows L2
section
variable {X : Cx} {st : Stmt} {fr : Ev (List D)}
/-- a, b = e1, e2 with plain local names -/
def sPar (i j : Nat) (fr : Ev (List D)) : Es := fun ρ M => (fr ρ M).sk ρ fun ws M1 => match ws with
  | [w, x] => .nx ((ρ.set i (some w)).set j (some x)) M1
  | _ => .stuck
theorem TL.sk {K : Ctx} {Wx : WX} {f : Ev (List D)} {k : List D → MH → SR} {σ : L2.St} {H : Hp} {ρ : DSt} {M : MH} {ι : List Addr} {Dd : Ends} (hS : RelS K H ι σ ρ) (hM : MemD K H ι M) (h : GoodS K Wx H ι Dd ((f ρ M).sk ρ k)) :
    TL K Wx f σ H fun vs H1 => ∃ ws M1 ι1, Ext H ι H1 ι1 ∧ RelS K H1 ι1 σ ρ ∧ MemD K H1 ι1 M1 ∧ RelDs K H1 ι1 ws vs ∧ GoodS K Wx H1 ι1 Dd (k ws M1) := by
  refine ⟨ρ, M, ι, hS, hM, ?_⟩
  cases e : f ρ M with
  | ok a M1 =>
    rw [e] at h
    exact fun H' ι' x m v r => ⟨a, M1, ι', x, hS.ext x, m, r, GoodS.ext x h⟩
  | exc c fs M1 => rw [e] at h; exact fun cv hv d H' ι' x m q => h cv hv d σ H' ι' x (hS.ext x) m q
  | stuck => rw [e] at h; exact h
theorem fs_par {i j : Nat} {x y : Str} {a b : Expr} {px py pt pos : Pos} {kt k2 pt2} (hc : X.calm = true) (hN : X.N.Nodup) (hi : X.N[i]? = some x) (hj : X.N[j]? = some y) (hij : i ≠ j)
    (hx : X.env.scope.names.lookup x = some .local) (hy : X.env.scope.names.lookup y = some .local) (ha : FA X [a, b] fr)
    (hw : swappedStores [.Tuple [.Name x px, .Name y py] kt pt] (.Tuple [a, b] k2 pt2) X.env = pure (some [x, y]))
    (hs : swapsWithSole [.Tuple [.Name x px, .Name y py] kt pt] (.Tuple [a, b] k2 pt2) pos.line X.env = pure false := by rfl) :
    FS X (.Assign [.Tuple [.Name x px, .Name y py] kt pt] (.Tuple [a, b] k2 pt2) pos) (sPar i j fr) :=
  ⟨fun Wx tk => PS.imp (ps_par hc hN hi hj hij hx hy (ha.run Wx tk) hw hs) fun Dd σ H ⟨ρ, M, ι, s, m, g⟩ => (TL.sk s m g).mono fun vs H1 ⟨ws, M1, ι1, x, s1, m1, r1, g1⟩ => by
    split at g1
    · obtain ⟨v, u, rfl, ra, rb⟩ := r1.two
      exact ⟨v, u, rfl, g1 _ H1 ι1 (Ext.refl _ _) ((s1.set ra i).set rb j) m1⟩
    · exact g1.elim⟩
/-- a, b, c = e1, e2, e3 -/
def sPar3 (i j l : Nat) (fr : Ev (List D)) : Es := fun ρ M => (fr ρ M).sk ρ fun ws M1 => match ws with
  | [w, x, y] => .nx (((ρ.set i (some w)).set j (some x)).set l (some y)) M1
  | _ => .stuck
theorem RelDs.three {K : Ctx} {H : Hp} {ι : List Addr} {w x y : D} {vs : List V} (r : RelDs K H ι [w, x, y] vs) : ∃ v u t, vs = [v, u, t] ∧ RelD K H ι w v ∧ RelD K H ι x u ∧ RelD K H ι y t := by
  cases r with
  | cons r1 r2 => obtain ⟨u, t, rfl, q, q2⟩ := r2.two; exact ⟨_, u, t, rfl, r1, q, q2⟩
theorem fs_par3 {i j l : Nat} {x y z : Str} {a b c : Expr} {px py pz pt pos : Pos} {kt k2 pt2} (hc : X.calm = true) (hN : X.N.Nodup) (hi : X.N[i]? = some x) (hj : X.N[j]? = some y) (hl : X.N[l]? = some z) (hij : i ≠ j) (hil : i ≠ l) (hjl : j ≠ l)
    (hx : X.env.scope.names.lookup x = some .local) (hy : X.env.scope.names.lookup y = some .local) (hz : X.env.scope.names.lookup z = some .local) (ha : FA X [a, b, c] fr)
    (hw : swappedStores [.Tuple [.Name x px, .Name y py, .Name z pz] kt pt] (.Tuple [a, b, c] k2 pt2) X.env = pure (some [x, y, z]))
    (hs : swapsWithSole [.Tuple [.Name x px, .Name y py, .Name z pz] kt pt] (.Tuple [a, b, c] k2 pt2) pos.line X.env = pure false := by rfl) :
    FS X (.Assign [.Tuple [.Name x px, .Name y py, .Name z pz] kt pt] (.Tuple [a, b, c] k2 pt2) pos) (sPar3 i j l fr) :=
  ⟨fun Wx tk => PS.imp (ps_par3 hc hN hi hj hl hij hil hjl hx hy hz (ha.run Wx tk) hw hs) fun Dd σ H ⟨ρ, M, ι, s, m, g⟩ => (TL.sk s m g).mono fun vs H1 ⟨ws, M1, ι1, x, s1, m1, r1, g1⟩ => by
    split at g1
    · obtain ⟨v, u, t, rfl, ra, rb, rc⟩ := r1.three
      exact ⟨v, u, t, rfl, g1 _ H1 ι1 (Ext.refl _ _) (((s1.set ra i).set rb j).set rc l) m1⟩
    · exact g1.elim⟩
/-- a module's name with a value that does not change -/
def GlobD (K : Ctx) (mg : Str → Option Value) (x : Str) (w : D) : Prop := ∃ (u : Value) (v : V), mg x = some u ∧ RelV v u ∧ ∀ H ι, RelD K H ι w v
theorem fe_glob {x : Str} {w : D} {pos : Pos} (hg : Gl X x) (h : GlobD X.cx X.mg x w) (hd : (x == ("__debug__" : Str)) = false := by decide) : FE X (.Name x pos) (eC w) := by
  obtain ⟨u, v, h1, h2, h3⟩ := h
  exact fe_c (pe_glob hg h1 h2 hd) h3
theorem fe_bty {x : Str} {n : String} {pos : Pos} (hg : Gl X x) (hm : X.mg x = none) (hv : bootBuiltins x = some (.type n)) (hn : x ≠ "__name__" := by decide) (hd : (x == ("__debug__" : Str)) = false := by decide) : FE X (.Name x pos) (eC (.ty n)) :=
  fe_c (pe_bltn (v := .ty n) hg hm hv rfl hn hd) fun _ _ => .ty n
theorem r64 {k : Nat} {A : Around} (r : Room k A) : A.units + 64 < cLine := r.units
theorem r65 {k : Nat} {A : Around} (r : Room k A) : A.units + 65 < cLine := by
  have := r.un
  omega
/-- constants of the module -/
theorem GlobD.int {K : Ctx} {mg : Str → Option Value} {x : Str} {i : Int} {t : Tok} (h : mg x = some (.int i t)) : GlobD K mg x (.int i) := ⟨_, .int i, h, ⟨t, rfl⟩, fun _ _ => .int i⟩
theorem GlobD.str {K : Ctx} {mg : Str → Option Value} {x : Str} {i : Str} {t : Tok} (h : mg x = some (.str i t)) : GlobD K mg x (.str i) := ⟨_, .str i, h, ⟨t, rfl⟩, fun _ _ => .str i⟩
end
end FL

namespace FL
open PySem PySem.Spec PyProof.Rows L2

/-! ### closed dicts whose keys are ints and texts -/
def lk : Key → Leaf
  | .inl i => .num i
  | .inr x => .text x
theorem lk_inj {a b : Key} (h : lk a = lk b) : a = b := by
  cases a <;> cases b <;> simp [lk] at h <;> rw [h]
theorem lk_is {P : Program} {w : World} {k : Key} {v : Value} (h : (mixKind P w).is k v = true) : (leafKind P w).is (lk k) v = true := by
  rcases keyIs_shape h with ⟨i, t, rfl, rfl⟩ | ⟨x, t, rfl, rfl⟩
  · exact decide_eq_true rfl
  · show (x == x) = true
    simp
def lkv (vs : List (Key × Value)) : List (Leaf × Value) := vs.map fun p => (lk p.1, p.2)
theorem pairs_lk {P : Program} {w : World} : ∀ {es : List DictEntry} {vs : List (Key × Value)}, Pairs (mixKind P w) es vs → Pairs (leafKind P w) es (lkv vs)
  | _, _, .nil => .nil
  | _, _, .cons h1 h2 h3 => .cons (lk_is h1) h2 (pairs_lk h3)
theorem keys_lk {P : Program} {w : World} {es : Array DictEntry} (h : KeysOf (mixKind P w) es) : KeysOf (leafKind P w) es := fun e he => by
  obtain ⟨k, h1, h2⟩ := h e he
  refine ⟨lk k, lk_is h1, h2.trans ?_⟩
  cases k <;> rfl
theorem nodup_lk {vs : List (Key × Value)} (h : (vs.map (·.1)).Nodup) : ((lkv vs).map (·.1)).Nodup := by
  have e : (lkv vs).map (·.1) = (vs.map (·.1)).map lk := by simp [lkv, List.map_map, Function.comp_def]
  rw [e]
  exact List.Pairwise.map lk (fun a b hab z => hab (lk_inj z)) h
theorem dict_lk {P : Program} {w : World} {h : Heap} {a : Addr} {vs : List (Key × Value)} (d : h.DictOf (mixKind P w) a vs) (hl : vs.length ≤ sizeLine) : ∃ (o : Obj) (es : List DictEntry), h.get? a = some o ∧ DOk P w o es (lkv vs) ∧ Pairs (mixKind P w) es vs := by
  obtain ⟨o, es, n, h1, h2, h3, h4, h5, h6⟩ := d
  exact ⟨o, es.toList, h1, ⟨n, h2, by simpa using h3, by rw [h5.length]; exact hl, by simpa using keys_lk h4, pairs_lk h5, nodup_lk h6⟩, h5⟩
def frzD (P : Program) (w : World) (Q : VK) : VK := fun v H => ∃ (a : Addr) (kvs : List (Key × V)), v = .ref a ∧ H a = some (.dK kvs) ∧
  ∀ (o : Obj) (es : List DictEntry) (vs : List (Key × Value)), a ≠ sysModules → DOk P w o es (lkv vs) → Pairs (mixKind P w) es vs → KV kvs vs → Q v (upd H a (.frz o (.dK kvs)))
theorem EP.frzD {X : Cx} {pins : List (Addr × Obj)} {σ : L2.St} {Q : VK} {u : Value} {s : Shared} (h : EP X pins σ (frzD X.prog X.w Q) u s) : EP X pins σ Q u s := by
  obtain ⟨v, H, I, r, a, kvs, e, h1, q⟩ := h
  subst e
  obtain ⟨od, I'⟩ := I.lock h1 trivial
  obtain ⟨e1, hz, ne, vs, rv, dd⟩ := I'.hok a _ upd_same
  obtain ⟨o, es, e2, dk, pm⟩ := dict_lk dd (by rw [← Paired.length rv]; exact hz)
  rw [e1] at e2
  cases e2
  exact ⟨.ref a, _, I', r, q od es vs (fun z => by rw [z] at ne; simp at ne) dk pm rv⟩
theorem PE.frzD {X : Cx} {e : Expr} {t : TE} (h : PE X e t) : PE X e (fun σ H Q => t σ H (frzD X.prog X.w Q)) := ⟨fun pins s σ H Q I hw => thn (h.run pins s σ H _ I hw) fun _ _ q => EP.frzD q⟩
theorem key_rel {k : Key} {u : Value} (h : keyIs k u = true) : RelV (kV k) u := by
  rcases keyIs_shape h with ⟨i, t, rfl, rfl⟩ | ⟨x, t, rfl, rfl⟩
  · exact ⟨t, rfl⟩
  · exact ⟨t, rfl⟩
section
variable {X : Cx} {pos : Pos} {a b : Expr} {f1 f2 : Ev D}
theorem DOk.pairs {P : Program} {w : World} {o : Obj} {es : List DictEntry} {vs : List (Leaf × Value)} (h : DOk P w o es vs) : Pairs (leafKind P w) es vs := by
  obtain ⟨_, _, _, _, _, h, _⟩ := h
  exact h
theorem fe_dnil : FE X (.Dict [] [] pos) (eC (.dct [])) :=
  ⟨fun Wx tk => PE.imp (PE.frzD pe_dnewK) fun σ H Q ⟨ρ, M, ι, s, m, g⟩ p hp => by
    refine ⟨p, [], rfl, upd_same, ?_⟩
    intro o es vs ne hd hp2 rv
    cases rv
    cases hp2
    rw [upd_upd]
    have x1 : Ext H ι (upd H p (.frz o (.dK []))) ι := Ext.new hp
    exact g _ ι x1 (m.new hp) _ (.dct ⟨ne, o, .inl ⟨_, upd_same⟩, hd⟩ .nil rfl)⟩
mutual
theorem RelD.sideM {K : Ctx} {H : Hp} {ι : List Addr} {p : Addr} {o : HO} (hp : Mut (H p)) : ∀ {w : D} {v : V}, RelD K H ι w v → RelD K (upd H p o) ι w v
  | _, _, .non => .non
  | _, _, .bl b => .bl b
  | _, _, .int b => .int b
  | _, _, .str b => .str b
  | _, _, .ty b => .ty b
  | _, _, .glb b => .glb b
  | _, _, .tup h r => .tup ((Ext.put (ι := p :: ι) (o := o) List.mem_cons_self hp).sqT h) (RelDs.sideM hp r)
  | _, _, .lst h r => .lst ((Ext.put (ι := p :: ι) (o := o) List.mem_cons_self hp).lstF h) (RelDs.sideM hp r)
  | _, _, .dct h r z => .dct ((Ext.put (ι := p :: ι) (o := o) List.mem_cons_self hp).dctF h) (RelE.sideM hp r) z
  | _, _, .set h => .set ((Ext.put (ι := p :: ι) (o := o) List.mem_cons_self hp).setF h)
  | _, _, .ob h => .ob h
theorem RelDs.sideM {K : Ctx} {H : Hp} {ι : List Addr} {p : Addr} {o : HO} (hp : Mut (H p)) : ∀ {w : List D} {v : List V}, RelDs K H ι w v → RelDs K (upd H p o) ι w v
  | _, _, .nil => .nil
  | _, _, .cons h r => .cons (RelD.sideM hp h) (RelDs.sideM hp r)
theorem RelE.sideM {K : Ctx} {H : Hp} {ι : List Addr} {p : Addr} {o : HO} (hp : Mut (H p)) : ∀ {w : List (D × D)} {v : List DictEntry}, RelE K H ι w v → RelE K (upd H p o) ι w v
  | _, _, .nil => .nil
  | _, _, .cons h1 h2 h3 h4 r => .cons (RelD.sideM hp h1) h2 (RelD.sideM hp h3) h4 (RelE.sideM hp r)
end
theorem Ext.under {H H1 : Hp} {ι ι1 : List Addr} {p : Addr} {o : HO} (x : Ext H ι H1 ι1) (h0 : H p = none) : Ext H ι (upd H1 p o) ι1 where
  pre := x.pre
  fresh := x.fresh
  frame := fun a ob h hb => by rw [upd_ne (ne_of_none h h0)]; exact x.frame a ob h hb
  tups := fun a xs h => by rw [upd_ne (ne_of_none h h0)]; exact x.tups a xs h
  frzs := fun a ob u h => by rw [upd_ne (ne_of_none h h0)]; exact x.frzs a ob u h
theorem TD.bind' {K : Ctx} {Wx : WX} {σ : L2.St} {H : Hp} {α : Type} {f : Ev D} {g : D → MH → Res α} {ρ : DSt} {M : MH} {ι : List Addr} {R : α → MH → Hp → List Addr → Prop} (hS : RelS K H ι σ ρ) (hM : MemD K H ι M)
    (h : Good K H ι R (fun c d H' => Wx c d σ H') ((f ρ M).bind g)) :
    TD K Wx f σ H fun v H1 => ∃ w M1 ι1, Ext H ι H1 ι1 ∧ RelS K H1 ι1 σ ρ ∧ MemD K H1 ι1 M1 ∧ RelD K H1 ι1 w v ∧ Good K H ι R (fun c d H' => Wx c d σ H') (g w M1) := by
  refine ⟨ρ, M, ι, hS, hM, ?_⟩
  cases e : f ρ M with
  | ok a M1 =>
    rw [e] at h
    exact fun H' ι' x m v r => ⟨a, M1, ι', x, hS.ext x, m, r, h⟩
  | exc c fs M1 => rw [e] at h; exact h
  | stuck => rw [e] at h; exact h
theorem Good.back {α : Type} {K : Ctx} {H H1 : Hp} {ι : List Addr} {R : α → MH → Hp → List Addr → Prop} {W : Value → Option Addr → Hp → Prop} {r : Res α} (e : Ext H ι H1 ι) (g : Good K H ι R W r) : Good K H1 ι R W r := g.ext e
def keyOf : D → Option Key
  | .int i => some (.inl i)
  | .str x => some (.inr x)
  | _ => none
theorem keyOf_rel {K : Ctx} {H : Hp} {ι : List Addr} {w : D} {v : V} {k : Key} (h : keyOf w = some k) (r : RelD K H ι w v) : v = kV k ∧ (∀ H' ι', RelD K H' ι' w (kV k)) ∧ leafOf w = some (lk k) := by
  cases r with
  | int i => cases h; exact ⟨rfl, fun _ _ => .int i, rfl⟩
  | str i => cases h; exact ⟨rfl, fun _ _ => .str i, rfl⟩
  | _ => cases h
/-! ### a display of keys and values, in their order -/
inductive RelPs (K : Ctx) (H : Hp) (ι : List Addr) : List (D × D) → List (V × V) → Prop
  | nil : RelPs K H ι [] []
  | cons {k w : D} {x y : V} {ps : List (D × D)} {vs : List (V × V)} : RelD K H ι k x → RelD K H ι w y → RelPs K H ι ps vs → RelPs K H ι ((k, w) :: ps) ((x, y) :: vs)
theorem RelPs.ext {K : Ctx} {H H' : Hp} {ι ι' : List Addr} (e : Ext H ι H' ι') : ∀ {ps : List (D × D)} {vs : List (V × V)}, RelPs K H ι ps vs → RelPs K H' ι' ps vs
  | _, _, .nil => .nil
  | _, _, .cons a b r => .cons (a.ext e) (b.ext e) (r.ext e)
def TPs (K : Ctx) (Wx : WX) (f : Ev (List (D × D))) : L2.St → Hp → (List (V × V) → Hp → Prop) → Prop := fun σ H Q => ∃ (ρ : DSt) (M : MH) (ι : List Addr), RelS K H ι σ ρ ∧ MemD K H ι M ∧
  Good K H ι (fun ps _ H' ι' => ∀ vs, RelPs K H' ι' ps vs → Q vs H') (fun c d H' => Wx c d σ H') (f ρ M)
structure FP (X : Cx) (pos : Pos) (ks : List (Option Expr)) (vs : List Expr) (f : Ev (List (D × D))) : Prop where
  run : ∀ Wx, Takes X Wx → ∃ trs, PPs X pos ks vs trs ∧ ∀ σ H Q, TPs X.cx Wx f σ H Q → tPairs trs σ H Q
def epNil : Ev (List (D × D)) := fun _ M => .ok [] M
def epCons (f1 f2 : Ev D) (r : Ev (List (D × D))) : Ev (List (D × D)) := fun ρ M => (f1 ρ M).bind fun k M1 => (f2 ρ M1).bind fun v M2 => (r ρ M2).bind fun ps M3 => .ok ((k, v) :: ps) M3
theorem fp_nil : FP X pos [] [] epNil := ⟨fun Wx tk => ⟨_, pps_nil, fun σ H Q ⟨ρ, M, ι, s, m, g⟩ => g H ι (Ext.refl _ _) m _ .nil⟩⟩
theorem TPs.bind {K : Ctx} {Wx : WX} {σ : L2.St} {H : Hp} {α : Type} {f : Ev (List (D × D))} {g : List (D × D) → MH → Res α} {ρ : DSt} {M : MH} {ι : List Addr} {R : α → MH → Hp → List Addr → Prop} (hS : RelS K H ι σ ρ) (hM : MemD K H ι M)
    (h : Good K H ι R (fun c d H' => Wx c d σ H') ((f ρ M).bind g)) :
    TPs K Wx f σ H fun vs H1 => ∃ ws M1 ι1, Ext H ι H1 ι1 ∧ RelS K H1 ι1 σ ρ ∧ MemD K H1 ι1 M1 ∧ RelPs K H1 ι1 ws vs ∧ Good K H1 ι1 R (fun c d H' => Wx c d σ H') (g ws M1) := by
  refine ⟨ρ, M, ι, hS, hM, ?_⟩
  cases e : f ρ M with
  | ok a M1 =>
    rw [e] at h
    exact fun H' ι' x m v r => ⟨a, M1, ι', x, hS.ext x, m, r, Good.ext x h⟩
  | exc c fs M1 => rw [e] at h; exact h
  | stuck => rw [e] at h; exact h
theorem TPs.mono {K : Ctx} {Wx : WX} {f : Ev (List (D × D))} {σ : L2.St} {H : Hp} {Q Q' : List (V × V) → Hp → Prop} (h : TPs K Wx f σ H Q) (i : ∀ v H', Q v H' → Q' v H') : TPs K Wx f σ H Q' := by
  obtain ⟨ρ, M, ι, s, m, g⟩ := h
  refine ⟨ρ, M, ι, s, m, ?_⟩
  revert g
  cases f ρ M with
  | ok a M1 => exact fun g H' ι' x m v r => i _ _ (g H' ι' x m v r)
  | exc c fs M1 => exact id
  | stuck => exact id
theorem fp_cons {ks : List (Option Expr)} {vs : List Expr} {fr : Ev (List (D × D))} (ha : FE X a f1) (hb : FE X b f2) (hr : FP X pos ks vs fr) : FP X pos (some a :: ks) (b :: vs) (epCons f1 f2 fr) :=
  ⟨fun Wx tk => by
    obtain ⟨trs, p, i⟩ := hr.run Wx tk
    refine ⟨_, pps_cons (ha.run Wx tk) (hb.run Wx tk) p, fun σ H Q ⟨ρ, M, ι, s, m, g⟩ => ?_⟩
    refine (TD.bind s m g).mono fun kv H1 ⟨k, M1, ι1, x1, s1, m1, r1, g1⟩ => ?_
    refine (TD.bind s1 m1 g1).mono fun vv H2 ⟨v, M2, ι2, x2, s2, m2, r2, g2⟩ => ?_
    refine i _ _ _ ((TPs.bind s2 m2 g2).mono fun us H3 ⟨ps, M3, ι3, x3, s3, m3, r3, g3⟩ => ?_)
    exact g3 H3 ι3 (Ext.refl _ _) m3 _ (.cons (r1.ext (x2.trans x3)) (r2.ext x3) r3)⟩
def keysOf : List (D × D) → Option (List Key)
  | [] => some []
  | (k, _) :: r => match keyOf k, keysOf r with
    | some a, some b => some (a :: b)
    | _, _ => none
def gDict (ps : List (D × D)) (M : MH) : Res D := match keysOf ps with
  | some ks => if ks.Nodup ∧ ks.length ≤ 15 then .ok (.dct ps) M else .stuck
  | none => .stuck
def eDict (f : Ev (List (D × D))) : Ev D := fun ρ M => (f ρ M).bind gDict
theorem mergeK_nodup : ∀ (more acc : List (Key × V)), ((acc ++ more).map (·.1)).Nodup → mergeK acc more = acc ++ more
  | [], acc, _ => by simp [mergeK]
  | (k, v) :: r, acc, h => by
    have hn : valV acc k = none := by
      cases e : valV acc k with
      | none => rfl
      | some x =>
        exfalso
        have e1 : (acc.any fun kv => decide (kv.1 = k)) = true := by rw [valV_any, e]; rfl
        obtain ⟨p, hp, hk⟩ := List.any_eq_true.mp e1
        rw [List.map_append, List.nodup_append] at h
        exact h.2.2 p.1 (List.mem_map.mpr ⟨p, hp, rfl⟩) k (by simp) (of_decide_eq_true hk)
    have e : mergeK acc ((k, v) :: r) = mergeK (putK acc k v) r := rfl
    rw [e, putK_new v hn, mergeK_nodup r (acc ++ [(k, v)]) (by simpa using h)]
    simp
theorem RelPs.keys {K : Ctx} {H : Hp} {ι : List Addr} : ∀ {ps : List (D × D)} {vs : List (V × V)} {ks : List Key}, RelPs K H ι ps vs → keysOf ps = some ks → ∃ kvs : List (Key × V), vs = kvs.map (fun kv => (kV kv.1, kv.2)) ∧ kvs.map (·.1) = ks
  | _, _, ks, .nil, h => by cases h; exact ⟨[], rfl, rfl⟩
  | _, _, ks, .cons (k := k) (ps := ps) r1 r2 r3, h => by
    rw [keysOf] at h
    cases e1 : keyOf k with
    | none => rw [e1] at h; cases h
    | some a =>
      cases e2 : keysOf ps with
      | none => rw [e1, e2] at h; cases h
      | some b =>
        rw [e1, e2] at h; cases h
        obtain ⟨kvs, rfl, hk⟩ := r3.keys e2
        obtain ⟨rfl, _⟩ := keyOf_rel e1 r1
        exact ⟨(a, _) :: kvs, rfl, by rw [← hk]; rfl⟩
/-- the entries told -/
theorem RelPs.entries {K : Ctx} {H H' : Hp} {ι ι' : List Addr} {P : Program} {w : World} (hx : ∀ {d : D} {v : V}, RelD K H ι d v → RelD K H' ι' d v) : ∀ {kvs : List (Key × V)} {ps : List (D × D)} {ks : List Key} {us : List (Key × Value)} {es : List DictEntry},
    RelPs K H ι ps (kvs.map fun kv => (kV kv.1, kv.2)) → keysOf ps = some ks → KV kvs us → Pairs (mixKind P w) es us → RelE K H' ι' ps es ∧ ps.map (fun p => leafOf p.1) = (lkv us).map (fun p => some p.1)
  | [], ps, ks, us, es, r, h, q, p => by
    cases q
    cases p
    cases ps with
    | nil => exact ⟨.nil, rfl⟩
    | cons _ _ => cases r
  | (key, v) :: kvs, ps, ks, us, es, r, h, q, p => by
    cases ps with
    | nil => cases r
    | cons pw ps =>
      obtain ⟨k, wv⟩ := pw
      cases us with
      | nil => cases q
      | cons u us =>
        cases es with
        | nil => cases p
        | cons e es =>
          cases r with
          | cons r1 r2 r3 =>
            cases q with
            | cons q1 q2 =>
              cases p with
              | cons p1 p2 p3 =>
                rw [keysOf] at h
                cases e1 : keyOf k with
                | none => rw [e1] at h; cases h
                | some a =>
                  cases e2 : keysOf ps with
                  | none => rw [e1, e2] at h; cases h
                  | some b =>
                    obtain ⟨ea, eb, ec⟩ := keyOf_rel e1 r1
                    have hk : key = a := kV_inj ea
                    subst hk
                    obtain ⟨ih1, ih2⟩ := RelPs.entries hx r3 e2 q2 p3
                    obtain ⟨qa, qb⟩ := q1
                    have qa' : key = u.1 := qa
                    have hv : RelV (kV key) e.key := key_rel (by rw [qa']; exact p1)
                    refine ⟨.cons (eb _ _) hv (hx r2) (by rw [p2]; exact qb) ih1, ?_⟩
                    show leafOf k :: _ = some (lk u.1) :: _
                    rw [ec, ← qa', ih2]
                    rfl
theorem TPs.bind' {K : Ctx} {Wx : WX} {σ : L2.St} {H : Hp} {α : Type} {f : Ev (List (D × D))} {g : List (D × D) → MH → Res α} {ρ : DSt} {M : MH} {ι : List Addr} {R : α → MH → Hp → List Addr → Prop} {H0 : Hp} {ι0 : List Addr} (hS : RelS K H ι σ ρ) (hM : MemD K H ι M) (x0 : Ext H0 ι0 H ι)
    (h : Good K H0 ι0 R (fun c d H' => Wx c d σ H') ((f ρ M).bind g)) :
    TPs K Wx f σ H fun vs H1 => ∃ ws M1 ι1, Ext H ι H1 ι1 ∧ RelS K H1 ι1 σ ρ ∧ MemD K H1 ι1 M1 ∧ RelPs K H1 ι1 ws vs ∧ Good K H0 ι0 R (fun c d H' => Wx c d σ H') (g ws M1) := by
  refine ⟨ρ, M, ι, hS, hM, ?_⟩
  cases e : f ρ M with
  | ok a M1 =>
    rw [e] at h
    exact fun H' ι' x m v r => ⟨a, M1, ι', x, hS.ext x, m, r, h⟩
  | exc c fs M1 => rw [e] at h; exact Good.ext (α := α) (r := .exc c fs M1) (R := R) x0 h
  | stuck => rw [e] at h; exact h
theorem RelPs.length {K : Ctx} {H : Hp} {ι : List Addr} : ∀ {ps : List (D × D)} {vs : List (V × V)}, RelPs K H ι ps vs → vs.length = ps.length
  | _, _, .nil => rfl
  | _, _, .cons _ _ r => by simp [r.length]
theorem keysOf_len : ∀ {ps : List (D × D)} {ks : List Key}, keysOf ps = some ks → ks.length = ps.length
  | [], ks, h => by cases h; rfl
  | (k, w) :: ps, ks, h => by
    rw [keysOf] at h
    cases e1 : keyOf k with
    | none => rw [e1] at h; cases h
    | some a =>
      cases e2 : keysOf ps with
      | none => rw [e1, e2] at h; cases h
      | some b => rw [e1, e2] at h; cases h; simp [keysOf_len e2]
/-- {k1: v1, ..}, at once closed -/
theorem fe_dict {ks : List (Option Expr)} {vs : List Expr} {fr : Ev (List (D × D))} (h : FP X pos ks vs fr) (hall : ks.all (·.isSome) = true := by rfl) (hl : ks.length = vs.length := by rfl) (h0 : ks ≠ [] := by simp) (h15 : ks.length ≤ 15 := by decide) : FE X (.Dict ks vs pos) (eDict fr) :=
  ⟨fun Wx tk => by
    obtain ⟨trs, p, i⟩ := h.run Wx tk
    refine PE.imp (PE.frzD (pe_disp p hall hl h0 h15)) fun σ H Q ⟨ρ, M, ι, s, m, g⟩ p hp => ?_
    have x0 : Ext H ι (upd H p (.dK [])) ι := Ext.new hp
    have np : p ∉ ι := fun z => by
      obtain ⟨n, hn⟩ := List.getElem?_of_mem z
      obtain ⟨o, ho⟩ := m.there n p hn
      rw [hp] at ho; cases ho
    refine i _ _ _ ((TPs.bind' (s.ext x0) (m.new hp) x0 g).mono fun us H2 ⟨ps, M2, ι2, x2, s2, m2, r2, g2⟩ => ?_)
    have n2 : p ∉ ι2 := fun z => by
      rcases x2.fresh p z with z | z
      · exact np z
      · rw [upd_same] at z; cases z
    have e2 : H2 p = some (.dK []) := x2.frame p _ upd_same np
    have mu : Mut (H2 p) := by rw [e2]; trivial
    unfold gDict at g2
    split at g2
    · rename_i keys hk
      split at g2
      · rename_i hn
        obtain ⟨kvs, rfl, ek⟩ := r2.keys hk
        refine ⟨e2, kvs, rfl, by
          have := congrArg List.length ek
          rw [List.length_map] at this
          rw [this]
          exact hn.2, p, _, rfl, upd_same, ?_⟩
        have em : mergeK [] kvs = kvs := mergeK_nodup kvs [] (by rw [List.nil_append, ek]; exact hn.1)
        rw [em]
        intro o es vs ne hd hp2 rv
        rw [upd_upd]
        have x3 : Ext H ι (upd H2 p (.frz o (.dK kvs))) ι2 := (x0.trans x2).under hp
        obtain ⟨re, rk⟩ := r2.entries (H' := upd H2 p (.frz o (.dK kvs))) (ι' := ι2) (fun r => r.sideM mu) hk rv hp2
        exact g2 _ ι2 x3 (m2.other n2 (fun _ _ e z => by rw [z] at e; rw [e] at mu; exact mu) fun _ _ r => r.sideM mu) _ (.dct ⟨ne, o, .inl ⟨_, upd_same⟩, hd⟩ re rk)
      · exact g2.elim
    · exact g2.elim⟩
end
end FL

namespace FL
open PySem PySem.Spec PyProof.Rows L2
section
variable {X : Cx}
/-- a + b for lists, the sum may change later -/
def gAddM : G2 := fun x y M => match lstOf x M, lstOf y M with
  | some a, some b => if a.length + b.length ≤ sizeLine then .ok (.ob M.length) (M ++ [.lst (a ++ b)]) else .stuck
  | _, _ => .stuck
theorem op_AddM : OpD X (binaryOp .Add) gAddM := by
  refine opd_of op_catF fun H ι M w1 w2 x y Q m r1 r2 g => ?_
  unfold gAddM at g
  split at g
  · rename_i a b ha hb
    split at g
    · rename_i hl
      obtain ⟨p1, v1, rfl, q1, c1⟩ := lstOf_rel m r1 ha
      obtain ⟨p2, v2, rfl, q2, c2⟩ := lstOf_rel m r2 hb
      exact ⟨p1, p2, v1, v2, rfl, rfl, c1, c2, by rw [q1.length, q2.length]; exact hl, fun p hp => new_lst m (q1.append q2) g hp⟩
    · exact g.elim
  · exact g.elim
end
theorem bt_len : bootBuiltins "len" = some (.builtin "len") := by decide +kernel
theorem bt_abs : bootBuiltins "abs" = some (.builtin "abs") := by decide +kernel
theorem bt_isinstance : bootBuiltins "isinstance" = some (.builtin "isinstance") := by decide +kernel
theorem bt_all : bootBuiltins "all" = some (.builtin "all") := by decide +kernel
theorem bt_repr : bootBuiltins "repr" = some (.builtin "repr") := by decide +kernel
theorem bt_max : bootBuiltins "max" = some (.builtin "max") := by decide +kernel
theorem bt_min : bootBuiltins "min" = some (.builtin "min") := by decide +kernel
theorem bt_int : bootBuiltins "int" = some (.type "int") := by decide +kernel
theorem bt_str : bootBuiltins "str" = some (.type "str") := by decide +kernel
theorem bt_bool : bootBuiltins "bool" = some (.type "bool") := by decide +kernel
theorem bt_tuple : bootBuiltins "tuple" = some (.type "tuple") := by decide +kernel
theorem bt_list : bootBuiltins "list" = some (.type "list") := by decide +kernel
theorem bt_dict : bootBuiltins "dict" = some (.type "dict") := by decide +kernel
end FL

namespace FL
open PySem PySem.Spec PyProof.Rows L2

/-! ### reckoning with the functions: each construct at a state -/
section
variable {ρ : DSt} {M : MH} {i j : Nat} {f f1 f2 f3 : Ev D} {t : Ev Bool} {fr : Ev (List D)} {g1 g2 : Es} {w : D}
@[simp] theorem run_eVar : eVar i ρ M = (match ρ[i]? with | some (some w) => .ok w M | _ => .stuck) := rfl
@[simp] theorem run_eC : eC w ρ M = .ok w M := rfl
@[simp] theorem run_eNil : eNil ρ M = .ok [] M := rfl
@[simp] theorem run_eCons : eCons f fr ρ M = (f ρ M).bind fun w M1 => (fr ρ M1).bind fun ws M2 => .ok (w :: ws) M2 := rfl
@[simp] theorem run_e2 {g : G2} : e2 g f1 f2 ρ M = (f1 ρ M).bind fun x M1 => (f2 ρ M1).bind fun y M2 => noX (g x y M2) := rfl
@[simp] theorem run_e1 {g : G1} : e1 g f ρ M = (f ρ M).bind fun x M1 => noX (g x M1) := rfl
@[simp] theorem run_eB1 {g : GN} : eB1 g fr ρ M = (fr ρ M).bind fun ws M1 => noX (g ws M1) := rfl
@[simp] theorem run_eB : eB f ρ M = (f ρ M).bind asB := rfl
@[simp] theorem run_eAnd {t2 : Ev Bool} : eAnd t t2 ρ M = (t ρ M).bind fun b M1 => if b = true then t2 ρ M1 else .ok false M1 := rfl
@[simp] theorem run_eOr {t2 : Ev Bool} : eOr t t2 ρ M = (t ρ M).bind fun b M1 => if b = true then .ok true M1 else t2 ρ M1 := rfl
@[simp] theorem run_eNot : eNot t ρ M = (t ρ M).bind fun b M1 => .ok (!b) M1 := rfl
@[simp] theorem run_eNotV : eNotV t ρ M = (t ρ M).bind fun b M1 => .ok (.bl (!b)) M1 := rfl
@[simp] theorem run_eIf : eIf t f1 f2 ρ M = (t ρ M).bind fun b M1 => if b = true then f1 ρ M1 else f2 ρ M1 := rfl
@[simp] theorem run_eTup : eTup fr ρ M = (fr ρ M).bind gTup := rfl
@[simp] theorem run_eLst : eLst fr ρ M = (fr ρ M).bind gLst := rfl
@[simp] theorem run_eNewL : eNewL fr ρ M = (fr ρ M).bind gNewL := rfl
@[simp] theorem run_eFrz : eFrz f ρ M = (f ρ M).bind gFrz := rfl
@[simp] theorem run_eItems : eItems f ρ M = (f ρ M).bind itemsOf := rfl
@[simp] theorem run_eCall {φ : List D → MH → Res D} : eCall φ [] fr ρ M = (fr ρ M).bind fun ws M1 => φ ws M1 := by
  unfold eCall
  congr
  funext ws M1
  rw [List.append_nil]
@[simp] theorem run_eYes : eYes ρ M = .ok true M := rfl
@[simp] theorem noX_okr {α : Type} {a : α} : noX (.ok a M) = .ok a M := rfl
@[simp] theorem asB_bl {b : Bool} : asB (.bl b) M = .ok b M := rfl
@[simp] theorem run_sSeq : sSeq g1 g2 ρ M = (g1 ρ M).seq g2 := rfl
@[simp] theorem run_sRet : sRet f ρ M = (f ρ M).sk ρ fun w M1 => .rt w M1 := rfl
@[simp] theorem run_sNext : sNext ρ M = .nx ρ M := rfl
@[simp] theorem run_sExpr : sExpr f ρ M = (f ρ M).sk ρ fun _ M1 => .nx ρ M1 := rfl
@[simp] theorem run_sSet : sSet i f ρ M = (f ρ M).sk ρ fun w M1 => .nx (ρ.set i (some w)) M1 := rfl
@[simp] theorem run_sIf : sIf t g1 g2 ρ M = (t ρ M).sk ρ fun b M1 => if b = true then g1 ρ M1 else g2 ρ M1 := rfl
@[simp] theorem seq_nx : (SR.nx ρ M).seq g1 = g1 ρ M := rfl
@[simp] theorem seq_rt : (SR.rt w M).seq g1 = .rt w M := rfl
@[simp] theorem sk_ok {α : Type} {a : α} {k : α → MH → SR} : (Res.ok a M).sk ρ k = k a M := rfl
@[simp] theorem fin_rt : (SR.rt w M).fin = .ok w M := rfl
@[simp] theorem fin_nx : (SR.nx ρ M).fin = .ok .non M := rfl
@[simp] theorem ite_seq {c : Prop} [Decidable c] {r1 r2 : SR} : (if c then r1 else r2).seq g1 = if c then r1.seq g1 else r2.seq g1 := by split <;> rfl
@[simp] theorem ite_fin {c : Prop} [Decidable c] {r1 r2 : SR} : (if c then r1 else r2).fin = if c then r1.fin else r2.fin := by split <;> rfl

/-! ### truths as values -/
def brB (w : D) (x y : Res D) : Res D := match w with
  | .bl b => if b = true then x else y
  | _ => .stuck
@[simp] theorem brB_bl {b : Bool} {x y : Res D} : brB (.bl b) x y = if b = true then x else y := rfl
@[simp] theorem run_eAndV : eAndV f1 f2 ρ M = (f1 ρ M).bind fun w M1 => brB w (f2 ρ M1) (.ok (.bl false) M1) := by
  unfold eAndV
  congr
  funext w M1
  cases w with
  | bl b => cases b <;> rfl
  | _ => rfl
@[simp] theorem run_eOrV : eOrV f1 f2 ρ M = (f1 ρ M).bind fun w M1 => brB w (.ok (.bl true) M1) (f2 ρ M1) := by
  unfold eOrV
  congr
  funext w M1
  cases w with
  | bl b => cases b <;> rfl
  | _ => rfl
@[simp] theorem run_eChain {g g' : G2} : eChain g g' f1 f2 f3 ρ M = (f1 ρ M).bind fun x M1 => (f2 ρ M1).bind fun y M2 => (noX (g x y M2)).bind fun t M3 => brB t ((f3 ρ M3).bind fun z M4 => noX (g' y z M4)) (.ok (.bl false) M3) := by
  unfold eChain
  congr
  funext x M1
  congr
  funext y M2
  congr
  funext w M1
  cases w with
  | bl b => cases b <;> rfl
  | _ => rfl
@[simp] theorem ite_bind {c : Prop} [Decidable c] {α β : Type} {r1 r2 : Res α} {k : α → MH → Res β} : (if c then r1 else r2).bind k = if c then r1.bind k else r2.bind k := by split <;> rfl
@[simp] theorem ite_noX {c : Prop} [Decidable c] {α : Type} {r1 r2 : Res α} : noX (if c then r1 else r2) = if c then noX r1 else noX r2 := by split <;> rfl
@[simp] theorem ite_sk {c : Prop} [Decidable c] {α : Type} {r1 r2 : Res α} {k : α → MH → SR} : (if c then r1 else r2).sk ρ k = if c then r1.sk ρ k else r2.sk ρ k := by split <;> rfl
/-! ### operators on ints -/
@[simp] theorem gAdd_int {a b : Int} : gAdd (.int a) (.int b) M = .ok (.int (a + b)) M := rfl
@[simp] theorem gSub_int {a b : Int} : gSub (.int a) (.int b) M = .ok (.int (a - b)) M := rfl
@[simp] theorem gNeg_int {a : Int} : gNeg (.int a) M = .ok (.int (-a)) M := rfl
theorem gMul_int {a b : Int} (h : a.natAbs.log2 + b.natAbs.log2 < 1000000) : gMul (.int a) (.int b) M = .ok (.int (a * b)) M := if_pos h
theorem gMod_int {a b : Int} (h : 0 < b) : gMod (.int a) (.int b) M = .ok (.int (a % b)) M := if_pos h
theorem gFdiv_int {a b : Int} (h : 0 < b ∧ b.natAbs.log2 < 9000) : gFdiv (.int a) (.int b) M = .ok (.int (a / b)) M := if_pos h
theorem gPow_int {a b : Int} (h : 0 ≤ b ∧ (Builtin.Int.intBits a : Int) * b ≤ 2 ^ 27) : gPow (.int a) (.int b) M = .ok (.int (a ^ b.toNat)) M := if_pos h
@[simp] theorem gLt_int {a b : Int} : gLt (.int a) (.int b) M = .ok (.bl (decide (a < b))) M := rfl
@[simp] theorem gLe_int {a b : Int} : gLe (.int a) (.int b) M = .ok (.bl (decide (a ≤ b))) M := rfl
@[simp] theorem gGt_int {a b : Int} : gGt (.int a) (.int b) M = .ok (.bl (decide (b < a))) M := rfl
@[simp] theorem gGe_int {a b : Int} : gGe (.int a) (.int b) M = .ok (.bl (decide (b ≤ a))) M := rfl
@[simp] theorem gEq_int {a b : Int} : gEq (.int a) (.int b) M = .ok (.bl (a == b)) M := rfl
@[simp] theorem gNe_int {a b : Int} : gNe (.int a) (.int b) M = .ok (.bl (!(a == b))) M := rfl
@[simp] theorem gEq_str {a b : Str} : gEq (.str a) (.str b) M = .ok (.bl (a == b)) M := rfl
@[simp] theorem gNe_str {a b : Str} : gNe (.str a) (.str b) M = .ok (.bl (!(a == b))) M := rfl
@[simp] theorem gInt_int {a : Int} : gInt [.int a] M = .ok (.int a) M := rfl
@[simp] theorem gInt_bl {b : Bool} : gInt [.bl b] M = .ok (.int (if b then 1 else 0)) M := rfl
@[simp] theorem gMax2_int {a b : Int} : gMax2 [.int a, .int b] M = .ok (.int (if b > a then b else a)) M := rfl
@[simp] theorem gMin2_int {a b : Int} : gMin2 [.int a, .int b] M = .ok (.int (if b < a then b else a)) M := rfl
@[simp] theorem gLen_tup {ws : List D} : gLen [.tup ws] M = .ok (.int ws.length) M := rfl
@[simp] theorem gLen_lst {ws : List D} : gLen [.lst ws] M = .ok (.int ws.length) M := rfl
theorem gLen_str {x : Str} (h : x.length ≤ sizeLine) : gLen [.str x] M = .ok (.int x.length) M := if_pos h
@[simp] theorem gTuple_lst {ws : List D} : gTuple [.lst ws] M = .ok (.tup ws) M := rfl
@[simp] theorem gList_tup {ws : List D} : gList [.tup ws] M = .ok (.lst ws) M := rfl
@[simp] theorem items_tup {ws : List D} : itemsOf (.tup ws) M = .ok ws M := rfl
@[simp] theorem items_lst {ws : List D} : itemsOf (.lst ws) M = .ok ws M := rfl
@[simp] theorem items_str {x : Str} : itemsOf (.str x) M = .ok (signs x) M := rfl
theorem gAdd_tup {a b : List D} (h : a.length + b.length ≤ sizeLine) : gAdd (.tup a) (.tup b) M = .ok (.tup (a ++ b)) M := if_pos h
theorem gAdd_str {a b : Str} (h : a.length + b.length ≤ sizeLine) : gAdd (.str a) (.str b) M = .ok (.str (a ++ b)) M := if_pos h
theorem gAdd_lst {a b : List D} (h : a.length + b.length ≤ sizeLine) : gAdd (.lst a) (.lst b) M = .ok (.lst (a ++ b)) M := if_pos h
theorem gTup_ok {a : List D} (h : a.length ≤ sizeLine) : gTup a M = .ok (.tup a) M := if_pos h
theorem gLst_ok {a : List D} (h : a.length ≤ sizeLine) : gLst a M = .ok (.lst a) M := if_pos h
theorem gNewL_ok {a : List D} (h : a.length ≤ sizeLine) : gNewL a M = .ok (.ob M.length) (M ++ [.lst a]) := if_pos h
end
/-! ### the types' table -/
@[simp] theorem kit_NoneType_int : kitB "NoneType" "int" = some false := by decide +kernel
@[simp] theorem kit_NoneType_bool : kitB "NoneType" "bool" = some false := by decide +kernel
@[simp] theorem kit_NoneType_str : kitB "NoneType" "str" = some false := by decide +kernel
@[simp] theorem kit_NoneType_tuple : kitB "NoneType" "tuple" = some false := by decide +kernel
@[simp] theorem kit_NoneType_list : kitB "NoneType" "list" = some false := by decide +kernel
@[simp] theorem kit_NoneType_dict : kitB "NoneType" "dict" = some false := by decide +kernel
@[simp] theorem kit_bool_int : kitB "bool" "int" = some true := by decide +kernel
@[simp] theorem kit_bool_bool : kitB "bool" "bool" = some true := by decide +kernel
@[simp] theorem kit_bool_str : kitB "bool" "str" = some false := by decide +kernel
@[simp] theorem kit_bool_tuple : kitB "bool" "tuple" = some false := by decide +kernel
@[simp] theorem kit_bool_list : kitB "bool" "list" = some false := by decide +kernel
@[simp] theorem kit_bool_dict : kitB "bool" "dict" = some false := by decide +kernel
@[simp] theorem kit_int_int : kitB "int" "int" = some true := by decide +kernel
@[simp] theorem kit_int_bool : kitB "int" "bool" = some false := by decide +kernel
@[simp] theorem kit_int_str : kitB "int" "str" = some false := by decide +kernel
@[simp] theorem kit_int_tuple : kitB "int" "tuple" = some false := by decide +kernel
@[simp] theorem kit_int_list : kitB "int" "list" = some false := by decide +kernel
@[simp] theorem kit_int_dict : kitB "int" "dict" = some false := by decide +kernel
@[simp] theorem kit_str_int : kitB "str" "int" = some false := by decide +kernel
@[simp] theorem kit_str_bool : kitB "str" "bool" = some false := by decide +kernel
@[simp] theorem kit_str_str : kitB "str" "str" = some true := by decide +kernel
@[simp] theorem kit_str_tuple : kitB "str" "tuple" = some false := by decide +kernel
@[simp] theorem kit_str_list : kitB "str" "list" = some false := by decide +kernel
@[simp] theorem kit_str_dict : kitB "str" "dict" = some false := by decide +kernel
@[simp] theorem kit_tuple_int : kitB "tuple" "int" = some false := by decide +kernel
@[simp] theorem kit_tuple_bool : kitB "tuple" "bool" = some false := by decide +kernel
@[simp] theorem kit_tuple_str : kitB "tuple" "str" = some false := by decide +kernel
@[simp] theorem kit_tuple_tuple : kitB "tuple" "tuple" = some true := by decide +kernel
@[simp] theorem kit_tuple_list : kitB "tuple" "list" = some false := by decide +kernel
@[simp] theorem kit_tuple_dict : kitB "tuple" "dict" = some false := by decide +kernel
@[simp] theorem kit_list_int : kitB "list" "int" = some false := by decide +kernel
@[simp] theorem kit_list_bool : kitB "list" "bool" = some false := by decide +kernel
@[simp] theorem kit_list_str : kitB "list" "str" = some false := by decide +kernel
@[simp] theorem kit_list_tuple : kitB "list" "tuple" = some false := by decide +kernel
@[simp] theorem kit_list_list : kitB "list" "list" = some true := by decide +kernel
@[simp] theorem kit_list_dict : kitB "list" "dict" = some false := by decide +kernel
@[simp] theorem kit_dict_int : kitB "dict" "int" = some false := by decide +kernel
@[simp] theorem kit_dict_bool : kitB "dict" "bool" = some false := by decide +kernel
@[simp] theorem kit_dict_str : kitB "dict" "str" = some false := by decide +kernel
@[simp] theorem kit_dict_tuple : kitB "dict" "tuple" = some false := by decide +kernel
@[simp] theorem kit_dict_list : kitB "dict" "list" = some false := by decide +kernel
@[simp] theorem kit_dict_dict : kitB "dict" "dict" = some true := by decide +kernel

@[simp] theorem ty_non {M : MH} : tyName M .non = some "NoneType" := rfl
@[simp] theorem ty_bl {M : MH} {b : Bool} : tyName M (.bl b) = some "bool" := rfl
@[simp] theorem ty_int {M : MH} {b : Int} : tyName M (.int b) = some "int" := rfl
@[simp] theorem ty_str {M : MH} {b : Str} : tyName M (.str b) = some "str" := rfl
@[simp] theorem ty_tup {M : MH} {b : List D} : tyName M (.tup b) = some "tuple" := rfl
@[simp] theorem ty_lst {M : MH} {b : List D} : tyName M (.lst b) = some "list" := rfl
@[simp] theorem ty_dct {M : MH} {b : List (D × D)} : tyName M (.dct b) = some "dict" := rfl
@[simp] theorem isi_run {M : MH} {x : D} {n : String} : gIsi [x, .ty n] M = (match tyName M x with
    | some t => match kitB t n with
      | some b => .ok (.bl b) M
      | none => .stuck
    | none => .stuck) := rfl
section
variable {ρ ρ0 : DSt} {M : MH} {i j : Nat} {f f1 f2 f3 : Ev D} {t : Ev Bool} {fr : Ev (List D)} {g1 g2 : Es} {w : D} {h : Tgt}
/-! ### comprehensions that leave memory as it is -/
theorem lc_map {F : D → D} : ∀ {items : List D}, (∀ w ∈ items, ∃ ρ1, h w ρ0 = some ρ1 ∧ f ρ1 M = .ok (F w) M) → lcD h eYes f ρ0 items M = .ok (items.map F) M
  | [], _ => rfl
  | w :: r, H => by
    obtain ⟨ρ1, h1, h2⟩ := H w (List.mem_cons_self ..)
    have ih := lc_map (F := F) (items := r) fun x hx => H x (List.mem_cons_of_mem _ hx)
    simp [lcD, h1, h2, ih]
theorem lc_filter {F : D → D} {p : D → Bool} : ∀ {items : List D}, (∀ w ∈ items, ∃ ρ1, h w ρ0 = some ρ1 ∧ t ρ1 M = .ok (p w) M ∧ f ρ1 M = .ok (F w) M) → lcD h t f ρ0 items M = .ok ((items.filter p).map F) M
  | [], _ => rfl
  | w :: r, H => by
    obtain ⟨ρ1, h1, h2, h3⟩ := H w (List.mem_cons_self ..)
    have ih := lc_filter (F := F) (p := p) (items := r) fun x hx => H x (List.mem_cons_of_mem _ hx)
    cases e : p w with
    | true => simp [lcD, h1, h2, h3, ih, e]
    | false => simp [lcD, h1, h2, h3, ih, e]
theorem bools_map {p : D → Bool} : ∀ items : List D, bools (items.map fun w => .bl (p w)) = some (items.map p)
  | [] => rfl
  | w :: r => by
    have ih := bools_map (p := p) r
    simp [bools, ih]
theorem gAll_map {p : D → Bool} {items : List D} : gAll [.lst (items.map fun w => .bl (p w))] M = .ok (.bl (items.all p)) M := by
  unfold gAll
  simp [bools_map, List.all_map]
  rfl
/-! ### loops -/
theorem forD_inv {body : Es} {P : List D → DSt → MH → Prop} {Q : SR → Prop} (step : ∀ w r ρ M, P (w :: r) ρ M → ∃ ρ1, h w ρ = some ρ1 ∧ (match body ρ1 M with
      | .nx ρ2 M2 => P r ρ2 M2
      | .ct ρ2 M2 => P r ρ2 M2
      | .bk ρ2 M2 => Q (.nx ρ2 M2)
      | x => Q x)) (fin : ∀ ρ M, P [] ρ M → Q (.nx ρ M)) : ∀ (items : List D) (ρ : DSt) (M : MH), P items ρ M → Q (forD h body items ρ M)
  | [], ρ, M, p => fin ρ M p
  | w :: r, ρ, M, p => by
    obtain ⟨ρ1, h1, h2⟩ := step w r ρ M p
    unfold forD
    rw [h1]
    dsimp only
    cases e : body ρ1 M with
    | nx ρ2 M2 => rw [e] at h2; exact forD_inv step fin r ρ2 M2 h2
    | ct ρ2 M2 => rw [e] at h2; exact forD_inv step fin r ρ2 M2 h2
    | bk ρ2 M2 => rw [e] at h2; exact h2
    | rt w M2 => rw [e] at h2; exact h2
    | exc c fs ρ2 M2 => rw [e] at h2; exact h2
    | stuck => rw [e] at h2; exact h2
theorem lcD_inv {P : List D → List D → MH → Prop} (step : ∀ acc w r M, P acc (w :: r) M → ∃ ρ1, h w ρ0 = some ρ1 ∧ ∃ y M2, f ρ1 M = .ok y M2 ∧ P (acc ++ [y]) r M2) :
    ∀ (items acc : List D) (M : MH), P acc items M → ∃ ys M2, lcD h eYes f ρ0 items M = .ok ys M2 ∧ P (acc ++ ys) [] M2
  | [], acc, M, p => ⟨[], M, rfl, by simpa using p⟩
  | w :: r, acc, M, p => by
    obtain ⟨ρ1, h1, y, M2, h2, h3⟩ := step acc w r M p
    obtain ⟨ys, M3, e, q⟩ := lcD_inv step r (acc ++ [y]) M2 h3
    exact ⟨y :: ys, M3, by simp [lcD, h1, h2, e], by simpa using q⟩
end
section
variable {M : MH} {x0 x1 x2 x3 x4 x5 x6 x7 x8 : D}
@[simp] theorem gLst_0 : gLst [] M = .ok (.lst []) M := gLst_ok (by simp [sizeLine])
@[simp] theorem gTup_0 : gTup [] M = .ok (.tup []) M := gTup_ok (by simp [sizeLine])
@[simp] theorem gNewL_0 : gNewL [] M = .ok (.ob M.length) (M ++ [.lst []]) := gNewL_ok (by simp [sizeLine])
@[simp] theorem gLst_1 : gLst [x0] M = .ok (.lst [x0]) M := gLst_ok (by simp [sizeLine])
@[simp] theorem gTup_1 : gTup [x0] M = .ok (.tup [x0]) M := gTup_ok (by simp [sizeLine])
@[simp] theorem gNewL_1 : gNewL [x0] M = .ok (.ob M.length) (M ++ [.lst [x0]]) := gNewL_ok (by simp [sizeLine])
@[simp] theorem gLst_2 : gLst [x0, x1] M = .ok (.lst [x0, x1]) M := gLst_ok (by simp [sizeLine])
@[simp] theorem gTup_2 : gTup [x0, x1] M = .ok (.tup [x0, x1]) M := gTup_ok (by simp [sizeLine])
@[simp] theorem gNewL_2 : gNewL [x0, x1] M = .ok (.ob M.length) (M ++ [.lst [x0, x1]]) := gNewL_ok (by simp [sizeLine])
@[simp] theorem gLst_3 : gLst [x0, x1, x2] M = .ok (.lst [x0, x1, x2]) M := gLst_ok (by simp [sizeLine])
@[simp] theorem gTup_3 : gTup [x0, x1, x2] M = .ok (.tup [x0, x1, x2]) M := gTup_ok (by simp [sizeLine])
@[simp] theorem gNewL_3 : gNewL [x0, x1, x2] M = .ok (.ob M.length) (M ++ [.lst [x0, x1, x2]]) := gNewL_ok (by simp [sizeLine])
@[simp] theorem gLst_4 : gLst [x0, x1, x2, x3] M = .ok (.lst [x0, x1, x2, x3]) M := gLst_ok (by simp [sizeLine])
@[simp] theorem gTup_4 : gTup [x0, x1, x2, x3] M = .ok (.tup [x0, x1, x2, x3]) M := gTup_ok (by simp [sizeLine])
@[simp] theorem gNewL_4 : gNewL [x0, x1, x2, x3] M = .ok (.ob M.length) (M ++ [.lst [x0, x1, x2, x3]]) := gNewL_ok (by simp [sizeLine])
@[simp] theorem gLst_5 : gLst [x0, x1, x2, x3, x4] M = .ok (.lst [x0, x1, x2, x3, x4]) M := gLst_ok (by simp [sizeLine])
@[simp] theorem gTup_5 : gTup [x0, x1, x2, x3, x4] M = .ok (.tup [x0, x1, x2, x3, x4]) M := gTup_ok (by simp [sizeLine])
@[simp] theorem gNewL_5 : gNewL [x0, x1, x2, x3, x4] M = .ok (.ob M.length) (M ++ [.lst [x0, x1, x2, x3, x4]]) := gNewL_ok (by simp [sizeLine])
@[simp] theorem gLst_6 : gLst [x0, x1, x2, x3, x4, x5] M = .ok (.lst [x0, x1, x2, x3, x4, x5]) M := gLst_ok (by simp [sizeLine])
@[simp] theorem gTup_6 : gTup [x0, x1, x2, x3, x4, x5] M = .ok (.tup [x0, x1, x2, x3, x4, x5]) M := gTup_ok (by simp [sizeLine])
@[simp] theorem gLst_7 : gLst [x0, x1, x2, x3, x4, x5, x6] M = .ok (.lst [x0, x1, x2, x3, x4, x5, x6]) M := gLst_ok (by simp [sizeLine])
@[simp] theorem gTup_7 : gTup [x0, x1, x2, x3, x4, x5, x6] M = .ok (.tup [x0, x1, x2, x3, x4, x5, x6]) M := gTup_ok (by simp [sizeLine])
@[simp] theorem gLst_8 : gLst [x0, x1, x2, x3, x4, x5, x6, x7] M = .ok (.lst [x0, x1, x2, x3, x4, x5, x6, x7]) M := gLst_ok (by simp [sizeLine])
@[simp] theorem gLst_9 : gLst [x0, x1, x2, x3, x4, x5, x6, x7, x8] M = .ok (.lst [x0, x1, x2, x3, x4, x5, x6, x7, x8]) M := gLst_ok (by simp [sizeLine])
end
section
variable {ρ : DSt} {M : MH} {n : Nat} {f f1 f2 f3 : Ev D} {lo hi : Ev (Option Int)}
@[simp] theorem run_sSetIx : sSetIx f1 f2 f3 ρ M = (f3 ρ M).sk ρ fun v M1 => (f1 ρ M1).sk ρ fun o M2 => (f2 ρ M2).sk ρ fun i M3 => match gSetL o i v M3 with
  | some M4 => .nx ρ M4
  | none => .stuck := rfl
@[simp] theorem run_eSl : eSl f lo hi ρ M = (f ρ M).bind fun w M1 => (lo ρ M1).bind fun l M2 => (hi ρ M2).bind fun u M3 => noX (gSl w l u M3) := rfl
@[simp] theorem run_eNoPart : eNoPart ρ M = .ok none M := rfl
def intPart (w : D) (M : MH) : Res (Option Int) := match w with
  | .int i => .ok (some i) M
  | _ => .stuck
@[simp] theorem run_ePart : ePart f ρ M = (f ρ M).bind intPart := rfl
@[simp] theorem intPart_int {i : Int} : intPart (.int i) M = .ok (some i) M := rfl
@[simp] theorem gSl_tup {ws : List D} {l u : Option Int} : gSl (.tup ws) l u M = .ok (.tup (cutD ws l u)) M := rfl
@[simp] theorem gSl_lst {ws : List D} {l u : Option Int} : gSl (.lst ws) l u M = .ok (.lst (cutD ws l u)) M := rfl
theorem gSl_str {x : Str} {l u : Option Int} (h : x.length ≤ sizeLine) : gSl (.str x) l u M = .ok (.str (cutS x l u)) M := if_pos h
theorem gIx_tup {ws : List D} {i : Int} {w : D} (h : atI ws i = some w) : gIx (.tup ws) (.int i) M = .ok w M := by
  show (match atI ws i with | some w => Res.ok w M | none => .stuck) = _
  rw [h]
theorem gIx_lst {ws : List D} {i : Int} {w : D} (h : atI ws i = some w) : gIx (.lst ws) (.int i) M = .ok w M := by
  show (match atI ws i with | some w => Res.ok w M | none => .stuck) = _
  rw [h]
theorem gIx_str {x : Str} {i : Int} {c : Nat} (hx : x.length ≤ sizeLine) (h : atI x.cps.toList i = some c) : gIx (.str x) (.int i) M = .ok (.str ⟨#[c]⟩) M := by
  show (if x.length ≤ sizeLine then match atI x.cps.toList i with | some c => Res.ok (D.str ⟨#[c]⟩) M | none => .stuck else .stuck) = _
  rw [if_pos hx, h]
theorem gIx_ob {ws : List D} {i : Int} {w : D} (h : M[n]? = some (.lst ws)) (h2 : atI ws i = some w) : gIx (.ob n) (.int i) M = .ok w M := by
  have e : seqOf (.ob n) M = some ws := by
    unfold seqOf
    dsimp only
    rw [h]
  unfold gIx
  dsimp only
  rw [e]
  dsimp only
  rw [h2]
@[simp] theorem run_eDict {f : Ev (List (D × D))} : eDict f ρ M = (f ρ M).bind gDict := rfl
@[simp] theorem run_epNil : epNil ρ M = .ok [] M := rfl
@[simp] theorem run_epCons {f : Ev (List (D × D))} : epCons f1 f2 f ρ M = (f1 ρ M).bind fun k M1 => (f2 ρ M1).bind fun v M2 => (f ρ M2).bind fun ps M3 => .ok ((k, v) :: ps) M3 := rfl
theorem gSetL_ob {ws : List D} {j : Nat} {i : Int} {v : D} (h : M[n]? = some (.lst ws)) (h2 : ixN ws.length i = some j) : gSetL (.ob n) (.int i) v M = some (M.set n (.lst (ws.set j v))) := by
  unfold gSetL
  dsimp only
  rw [h]
  dsimp only
  rw [h2]
  rfl
theorem gLen_ob {ws : List D} (h : M[n]? = some (.lst ws)) : gLen [.ob n] M = .ok (.int ws.length) M := by
  have e : seqOf (.ob n) M = some ws := by
    unfold seqOf
    dsimp only
    rw [h]
  unfold gLen
  dsimp only
  rw [e]
theorem gAppend_ob {ws : List D} {y : D} (h : M[n]? = some (.lst ws)) (hz : ws.length < sizeLine) : gAppend (.ob n) [y] M = .ok .non (M.set n (.lst (ws ++ [y]))) := by
  unfold gAppend
  dsimp only
  rw [h]
  exact if_pos hz
theorem gFrz_ob {ws : List D} (h : M[n]? = some (.lst ws)) : gFrz (.ob n) M = .ok (.lst ws) (M.set n .dead) := by
  unfold gFrz
  dsimp only
  rw [h]
theorem lstOf_ob {ws : List D} (h : M[n]? = some (.lst ws)) : lstOf (.ob n) M = some ws := by
  unfold lstOf
  dsimp only
  rw [h]
theorem gAddM_ok {x y : D} {a b : List D} (h1 : lstOf x M = some a) (h2 : lstOf y M = some b) (h : a.length + b.length ≤ sizeLine) : gAddM x y M = .ok (.ob M.length) (M ++ [.lst (a ++ b)]) := by
  unfold gAddM
  rw [h1, h2]
  exact if_pos h
end
/-- memory in which nothing is kept that a def has made -/
def Clean (M : MH) : Prop := M.all (belowO M.length) = true
theorem gc_ok {n : Nat} {M : MH} {w : D} (hn : n = M.length) (hw : below n w = true) (hM : Clean M) : gcR n (.ok w M) = .ok w M := by
  subst hn
  show (if below M.length w = true ∧ ((M.take M.length).all (belowO M.length)) = true then Res.ok w (M.take M.length) else .stuck) = _
  rw [List.take_length, if_pos ⟨hw, hM⟩]
theorem gcD_ok {φ : List D → MH → Res D} {ws : List D} {M M' : MH} {w : D} (h : φ ws M = .ok w M') (hl : M'.length = M.length) (hw : below M.length w = true) (hM : Clean M') : gcD φ ws M = .ok w M' := by
  unfold gcD
  rw [h]
  exact gc_ok hl.symm hw hM
end FL

namespace FL
open PySem PySem.Spec PyProof.Rows L2

/-! ### plain data: no types, no functions, nothing that changes; how long its text is -/
mutual
def plainD : D → Bool
  | .non => true
  | .bl _ => true
  | .int i => decide (i.natAbs.log2 < 1920)
  | .str x => x.cps.toList.all fun c => decide (c < 16 ^ 8)
  | .tup ws => plains ws
  | .lst ws => plains ws
  | .dct kvs => plainKv kvs
  | _ => false
def plains : List D → Bool
  | [] => true
  | w :: ws => plainD w && plains ws
def plainKv : List (D × D) → Bool
  | [] => true
  | (k, w) :: r => plainD k && plainD w && plainKv r
end
mutual
def txt : D → Nat
  | .non => 4
  | .bl _ => 5
  | .int _ => 1921
  | .str x => 10 * x.length + 2
  | .tup ws => txts ws + 3
  | .lst ws => txts ws + 3
  | .dct kvs => txtKv kvs + 3
  | _ => 0
def txts : List D → Nat
  | [] => 0
  | w :: ws => txt w + 2 + txts ws
def txtKv : List (D × D) → Nat
  | [] => 0
  | (k, w) :: r => txt k + txt w + 4 + txtKv r
end
mutual
def dep : D → Nat
  | .tup ws => deps ws + 1
  | .lst ws => deps ws + 1
  | .dct kvs => depKv kvs + 1
  | _ => 0
def deps : List D → Nat
  | [] => 0
  | w :: ws => max (dep w) (deps ws)
def depKv : List (D × D) → Nat
  | [] => 0
  | (k, w) :: r => max (max (dep k) (dep w)) (depKv r)
end
theorem join_le {ts : List Str} : (Str.join ", " ts).length ≤ piled ts := by
  cases ts with
  | nil =>
    have e : (Str.join ", " []).length = 0 := by decide +kernel
    omega
  | cons t r =>
    have := join_length_add (t :: r) (by simp)
    omega
theorem len_app (a b : Str) : (a ++ b).length = a.length + b.length := by
  show (a.cps ++ b.cps).size = _
  rw [Array.size_append]
  rfl
mutual
theorem plain_py : ∀ {w : D}, plainD w = true → ∃ d, pyD w = some d ∧ d.showable = true ∧ d.shown.length ≤ txt w ∧ d.depth = dep w
  | .non, _ => ⟨_, rfl, rfl, by rw [PyData.shown_none]; decide +kernel, rfl⟩
  | .bl b, _ => ⟨_, rfl, rfl, by rw [PyData.shown_bool]; cases b <;> decide +kernel, rfl⟩
  | .int i, h => by
    have h' : i.natAbs.log2 < 1920 := of_decide_eq_true h
    exact ⟨.int i, rfl, decide_eq_true h', by rw [PyData.shown_int]; exact int_text_len_1921 h', rfl⟩
  | .str x, h => ⟨.str x, rfl, rfl, by
      rw [PyData.shown_str]
      exact StrLaws.reprText_len x fun c hc => of_decide_eq_true (List.all_eq_true.mp h c hc), rfl⟩
  | .tup ws, h => by
    obtain ⟨ds, h1, h2, h3, h4⟩ := plains_py (ws := ws) h
    refine ⟨.tuple ds, by rw [pyD, h1]; rfl, h2, ?_, by rw [PyData.depth, dep, h4]⟩
    rw [PyData.shown_tuple, len_app, len_app, txt]
    have := join_le (ts := PyData.shownAll ds)
    have e1 : (("(" : String) : Str).length = 1 := by decide +kernel
    have e2 : ((if (ds.length == 1) = true then ",)" else ")" : String) : Str).length ≤ 2 := by split <;> decide +kernel
    omega
  | .lst ws, h => by
    obtain ⟨ds, h1, h2, h3, h4⟩ := plains_py (ws := ws) h
    refine ⟨.list ds, by rw [pyD, h1]; rfl, h2, ?_, by rw [PyData.depth, dep, h4]⟩
    rw [PyData.shown_list, len_app, len_app, txt]
    have := join_le (ts := PyData.shownAll ds)
    have e1 : (("[" : String) : Str).length = 1 := by decide +kernel
    have e2 : (("]" : String) : Str).length = 1 := by decide +kernel
    omega
  | .dct kvs, h => by
    obtain ⟨ds, h1, h2, h3, h4⟩ := plainKv_py (kvs := kvs) h
    refine ⟨.dict ds, by rw [pyD, h1]; rfl, h2, ?_, by rw [PyData.depth, dep, h4]⟩
    rw [PyData.shown_dict, len_app, len_app, txt]
    have := join_le (ts := PyData.shownKv ds)
    have e1 : (("{" : String) : Str).length = 1 := by decide +kernel
    have e2 : (("}" : String) : Str).length = 1 := by decide +kernel
    omega
  | .ty _, h => by cases h
  | .glb _, h => by cases h
  | .ob _, h => by cases h
  | .set _, h => by cases h
theorem plains_py : ∀ {ws : List D}, plains ws = true → ∃ ds, pyDs ws = some ds ∧ PyData.showableAll ds = true ∧ piled (PyData.shownAll ds) ≤ txts ws ∧ PyData.depthAll ds = deps ws
  | [], _ => ⟨[], rfl, rfl, by rw [PyData.shownAll_nil]; exact Nat.le_refl _, rfl⟩
  | w :: ws, h => by
    have h' : (plainD w && plains ws) = true := h
    rw [Bool.and_eq_true] at h'
    obtain ⟨d, a1, a2, a3, a4⟩ := plain_py h'.1
    obtain ⟨ds, b1, b2, b3, b4⟩ := plains_py h'.2
    refine ⟨d :: ds, by rw [pyDs, a1, b1], by rw [PyData.showableAll, a2, b2]; rfl, ?_, by rw [PyData.depthAll, deps, a4, b4]⟩
    rw [PyData.shownAll_cons]
    show d.shown.length + 2 + piled (PyData.shownAll ds) ≤ txt w + 2 + txts ws
    omega
theorem plainKv_py : ∀ {kvs : List (D × D)}, plainKv kvs = true → ∃ ds, pyKv kvs = some ds ∧ PyData.showableKv ds = true ∧ piled (PyData.shownKv ds) ≤ txtKv kvs ∧ PyData.depthKv ds = depKv kvs
  | [], _ => ⟨[], rfl, rfl, by rw [PyData.shownKv_nil]; exact Nat.le_refl _, rfl⟩
  | (k, w) :: ws, h => by
    have h' : (plainD k && plainD w && plainKv ws) = true := h
    rw [Bool.and_eq_true, Bool.and_eq_true] at h'
    obtain ⟨c, c1, c2, c3, c4⟩ := plain_py h'.1.1
    obtain ⟨d, a1, a2, a3, a4⟩ := plain_py h'.1.2
    obtain ⟨ds, b1, b2, b3, b4⟩ := plainKv_py h'.2
    refine ⟨(c, d) :: ds, by rw [pyKv, c1, a1, b1], by rw [PyData.showableKv, c2, a2, b2]; rfl, ?_, by rw [PyData.depthKv, depKv, a4, b4, c4]⟩
    rw [PyData.shownKv_cons]
    show (c.shown ++ ": " ++ d.shown).length + 2 + piled (PyData.shownKv ds) ≤ txt k + txt w + 4 + txtKv ws
    rw [len_app, len_app]
    have e1 : ((": " : String) : Str).length = 2 := by decide +kernel
    omega
end
mutual
theorem plain_below {n : Nat} : ∀ {w : D}, plainD w = true → below n w = true
  | .non, _ => rfl
  | .bl b, _ => rfl
  | .int i, _ => rfl
  | .str i, _ => rfl
  | .tup ws, h => plains_below (ws := ws) h
  | .lst ws, h => plains_below (ws := ws) h
  | .dct kvs, h => plainKv_below (kvs := kvs) h
  | .ty _, h => by cases h
  | .glb _, h => by cases h
  | .ob _, h => by cases h
  | .set _, h => by cases h
theorem plains_below {n : Nat} : ∀ {ws : List D}, plains ws = true → belows n ws = true
  | [], _ => rfl
  | w :: ws, h => by
    have h' : (plainD w && plains ws) = true := h
    rw [Bool.and_eq_true] at h'
    show (below n w && belows n ws) = true
    rw [plain_below h'.1, plains_below h'.2]; rfl
theorem plainKv_below {n : Nat} : ∀ {kvs : List (D × D)}, plainKv kvs = true → belowKv n kvs = true
  | [], _ => rfl
  | (k, w) :: ws, h => by
    have h' : (plainD k && plainD w && plainKv ws) = true := h
    rw [Bool.and_eq_true, Bool.and_eq_true] at h'
    show (below n k && below n w && belowKv n ws) = true
    rw [plain_below h'.1.1, plain_below h'.1.2, plainKv_below h'.2]; rfl
end
theorem plains_iff {ws : List D} : plains ws = true ↔ ∀ w ∈ ws, plainD w = true := by
  induction ws with
  | nil => simp [plains]
  | cons w r ih => simp [plains, ih]
theorem txts_le {ws : List D} {B : Nat} (h : ∀ w ∈ ws, txt w ≤ B) : txts ws ≤ ws.length * (B + 2) := by
  induction ws with
  | nil => simp [txts]
  | cons w r ih =>
    have h1 := h w (by simp)
    have h2 := ih fun x hx => h x (by simp [hx])
    rw [txts, List.length_cons, Nat.add_mul]
    omega
theorem deps_le {ws : List D} {B : Nat} (h : ∀ w ∈ ws, dep w ≤ B) : deps ws ≤ B := by
  induction ws with
  | nil => simp [deps]
  | cons w r ih =>
    have h1 := h w (by simp)
    have h2 := ih fun x hx => h x (by simp [hx])
    rw [deps]
    omega
def shownD (w : D) : Str := ((pyD w).map PyData.shown).getD ""
theorem plain_pyM {M : MH} {w : D} (h : plainD w = true) : pyM M w = pyD w := by
  cases w with
  | ob n => cases h
  | _ => rfl
theorem repr_plain {M : MH} {w : D} (h : plainD w = true) (ht : txt w ≤ 16777216) (hd : dep w ≤ 60) : gRepr [w] M = .ok (D.str (shownD w)) M := by
  obtain ⟨d, h1, h2, h3, h4⟩ := plain_py h
  show (match pyM M w with
    | some d => if d.showable = true ∧ d.shown.length ≤ sizeLine ∧ d.depth ≤ 60 then Res.ok (D.str d.shown) M else Res.stuck
    | none => .stuck) = _
  rw [plain_pyM h, h1]
  dsimp only
  rw [if_pos ⟨h2, Nat.le_trans h3 (Nat.le_trans ht (by decide)), by omega⟩]
  unfold shownD
  rw [h1]
  rfl
theorem plain_ty {M : MH} {w : D} (h : plainD w = true) : ∃ t, tyName M w = some t := by
  cases w with
  | ob n => cases h
  | ty n => cases h
  | glb n => cases h
  | set n => cases h
  | _ => exact ⟨_, rfl⟩

/-! ### cuts and texts stay plain -/
theorem cutD_mem {α : Type} {ws : List α} {lo hi : Option Int} {w : α} (h : w ∈ cutD ws lo hi) : w ∈ ws := by
  unfold cutD at h
  exact List.mem_of_mem_drop (List.mem_of_mem_take h)
theorem cutD_len {α : Type} {ws : List α} {lo hi : Option Int} : (cutD ws lo hi).length ≤ ws.length := by
  unfold cutD
  rw [List.length_take, List.length_drop]
  omega
theorem cutS_plain {z : Str} {lo hi : Option Int} (h : plainD (.str z) = true) : plainD (.str (cutS z lo hi)) = true := by
  have h' : (z.cps.toList.all fun c => decide (c < 16 ^ 8)) = true := h
  show ((cutS z lo hi).cps.toList.all fun c => decide (c < 16 ^ 8)) = true
  rw [List.all_eq_true] at h' ⊢
  intro c hc
  refine h' c ?_
  unfold cutS at hc
  exact List.mem_of_mem_drop (List.mem_of_mem_take (by simpa using hc))
theorem cutS_len {z : Str} {lo hi : Option Int} : (cutS z lo hi).length ≤ z.length := by
  unfold cutS
  show (Array.size _) ≤ _
  rw [List.size_toArray, List.length_take, List.length_drop, Array.length_toList]
  show min _ (z.length - _) ≤ z.length
  omega
theorem app_plain {a b : Str} (ha : plainD (.str a) = true) (hb : plainD (.str b) = true) : plainD (.str (a ++ b)) = true := by
  have ha' : (a.cps.toList.all fun c => decide (c < 16 ^ 8)) = true := ha
  have hb' : (b.cps.toList.all fun c => decide (c < 16 ^ 8)) = true := hb
  show ((a.cps ++ b.cps).toList.all fun c => decide (c < 16 ^ 8)) = true
  rw [Array.toList_append, List.all_append, ha', hb']
  rfl
theorem join_plain {sep : Str} (hs : plainD (.str sep) = true) : ∀ {ys : List Str}, (∀ y ∈ ys, plainD (.str y) = true) → plainD (.str (Str.join sep ys)) = true
  | [], _ => rfl
  | [y], h => h y (by simp)
  | x :: y :: r, h => app_plain (app_plain (h x (by simp)) hs) (join_plain hs (ys := y :: r) fun z hz => h z (by simp at hz ⊢; exact .inr hz))
theorem gJoin_ok {M : MH} {a : Str} {xs : List D} {ys : List Str} (h : strsOf xs = some ys) (hz : (ys.map (·.length)).sum + ys.length * a.length ≤ 16777216) : gJoin (.str a) [.lst xs] M = .ok (.str (Str.join a ys)) M := by
  unfold gJoin
  dsimp only
  rw [show seqOf (.lst xs) M = some xs from rfl]
  dsimp only
  rw [h]
  dsimp only
  rw [if_pos hz, show Txt.join a ys = Str.join a ys from StrLaws.glued_eq_join a ys]
theorem strsOf_map : ∀ ys : List Str, strsOf (ys.map D.str) = some ys
  | [] => rfl
  | y :: ys => by
    show (strsOf (ys.map D.str)).map (y :: ·) = _
    rw [strsOf_map ys]
    rfl
theorem eM_ok {ρ : DSt} {M M1 : MH} {T : String} {g : GM} {f : Ev D} {fr : Ev (List D)} {w : D} (h : f ρ M = .ok w M1) (ht : tyName M1 w = some T) (hT : T ≠ "tuple") : eM T g f fr ρ M = (fr ρ M1).bind fun ws M2 => noX (g w ws M2) := by
  unfold eM
  rw [h, Res.bind_ok, if_pos ⟨ht, hT⟩]
def strGate (w : D) (r : Res D) : Res D := match w with
  | .str _ => r
  | _ => .stuck
@[simp] theorem strGate_str {x : Str} {r : Res D} : strGate (.str x) r = r := rfl
theorem ty_ob_str {n : Nat} {M : MH} : tyName M (.ob n) ≠ some "str" := by
  intro h
  unfold tyName at h
  dsimp only at h
  split at h <;> simp at h
@[simp] theorem run_eM_str {ρ : DSt} {M : MH} {g : GM} {f : Ev D} {fr : Ev (List D)} : eM "str" g f fr ρ M = (f ρ M).bind fun w M1 => strGate w ((fr ρ M1).bind fun ws M2 => noX (g w ws M2)) := by
  unfold eM
  congr
  funext w M1
  cases w with
  | str x => rw [if_pos ⟨rfl, by decide⟩]; rfl
  | ob n => rw [if_neg (fun z => ty_ob_str z.1)]; rfl
  | _ => rw [if_neg (fun z => by simp [tyName] at z)]; rfl
theorem ty_ob_lst {n : Nat} {M : MH} {ws : List D} (h : M[n]? = some (.lst ws)) : tyName M (.ob n) = some "list" := by
  unfold tyName
  dsimp only
  rw [h]
theorem eM_list {ρ : DSt} {M M1 : MH} {g : GM} {f : Ev D} {fr : Ev (List D)} {n : Nat} {ws : List D} (h : f ρ M = .ok (.ob n) M1) (ht : M1[n]? = some (.lst ws)) : eM "list" g f fr ρ M = (fr ρ M1).bind fun ws M2 => noX (g (.ob n) ws M2) := eM_ok h (ty_ob_lst ht) (by decide)
@[simp] theorem gTuple_lst' {M : MH} {ws : List D} : gTuple [.tup ws] M = .ok (.tup ws) M := rfl
/-! ### memory that grows -/
mutual
theorem below_mono {n m : Nat} (h : n ≤ m) : ∀ {w : D}, below n w = true → below m w = true
  | .non, _ => rfl
  | .bl b, _ => rfl
  | .int i, _ => rfl
  | .str i, _ => rfl
  | .ty _, _ => rfl
  | .glb _, _ => rfl
  | .set _, _ => rfl
  | .ob k, z => decide_eq_true (Nat.lt_of_lt_of_le (of_decide_eq_true z) h)
  | .tup ws, z => belows_mono h (ws := ws) z
  | .lst ws, z => belows_mono h (ws := ws) z
  | .dct kvs, z => belowKv_mono h (kvs := kvs) z
theorem belows_mono {n m : Nat} (h : n ≤ m) : ∀ {ws : List D}, belows n ws = true → belows m ws = true
  | [], _ => rfl
  | w :: ws, z => by
    have z' : (below n w && belows n ws) = true := z
    rw [Bool.and_eq_true] at z'
    show (below m w && belows m ws) = true
    rw [below_mono h z'.1, belows_mono h z'.2]; rfl
theorem belowKv_mono {n m : Nat} (h : n ≤ m) : ∀ {kvs : List (D × D)}, belowKv n kvs = true → belowKv m kvs = true
  | [], _ => rfl
  | (k, w) :: ws, z => by
    have z' : (below n k && below n w && belowKv n ws) = true := z
    rw [Bool.and_eq_true, Bool.and_eq_true] at z'
    show (below m k && below m w && belowKv m ws) = true
    rw [below_mono h z'.1.1, below_mono h z'.1.2, belowKv_mono h z'.2]; rfl
end
theorem belowO_mono {n m : Nat} (h : n ≤ m) {o : MO} (z : belowO n o = true) : belowO m o = true := by
  cases o with
  | lst ws => exact belows_mono h (ws := ws) z
  | dct kvs => exact belowKv_mono h (kvs := kvs) z
  | ins C fs => exact belows_mono (n := n) (m := m) h (ws := fs.map fun p : Str × D => p.2) z
  | exc C fs => exact belows_mono (n := n) (m := m) h (ws := fs.map fun p : Str × D => p.2) z
  | dead => rfl
theorem clean_add {M : MH} {o : MO} (h : Clean M) (ho : belowO (M.length + 1) o = true) : Clean (M ++ [o]) := by
  unfold Clean at h ⊢
  rw [List.length_append, List.length_singleton, List.all_append]
  have e : M.all (belowO (M.length + 1)) = true := List.all_eq_true.mpr fun x hx => belowO_mono (Nat.le_succ _) (List.all_eq_true.mp h x hx)
  rw [e]
  simpa using ho
theorem clean_put {n : Nat} {M : MH} {o : MO} (h : Clean M) (ho : belowO M.length o = true) : Clean (M.set n o) := by
  unfold Clean at h ⊢
  rw [List.length_set, List.all_eq_true]
  intro x hx
  rcases List.mem_or_eq_of_mem_set hx with hx | rfl
  · exact List.all_eq_true.mp h x hx
  · exact ho
end FL

namespace FL
open PySem PySem.Spec PyProof.Rows L2
section
variable {X : Cx}
/-! ### methods of lists and dicts -/
def gPop : GM := fun w ws M => match w, ws with
  | .ob n, [] => match M[n]? with
    | some (.lst xs) => match xs[xs.length - 1]? with
      | some y => .ok y (M.set n (.lst xs.dropLast))
      | none => .stuck
    | _ => .stuck
  | .ob n, [.int i] => match M[n]? with
    | some (.lst xs) => match ixN xs.length i with
      | some k => match xs[k]? with
        | some y => .ok y (M.set n (.lst (xs.eraseIdx k)))
        | none => .stuck
      | none => .stuck
    | _ => .stuck
  | _, _ => .stuck
theorem mto {id : String} {r r' : V → List V → Hp → VK → Prop} (h : MtR X id r) (h' : MtR X id r') : MtR X id (fun x xs H Q => r x xs H Q ∨ r' x xs H Q) := fun pins s σ H x xs v us Q I rx rxs q => by
  rcases q with q | q
  · exact h pins s σ H x xs v us Q I rx rxs q
  · exact h' pins s σ H x xs v us Q I rx rxs q
theorem RelDs.zero {K : Ctx} {H : Hp} {ι : List Addr} {vs : List V} (r : RelDs K H ι [] vs) : vs = [] := by cases r; rfl
theorem RelDs.dropLast {K : Ctx} {H : Hp} {ι : List Addr} {ws : List D} {vs : List V} (r : RelDs K H ι ws vs) : RelDs K H ι ws.dropLast vs.dropLast := by
  rw [List.dropLast_eq_take, List.dropLast_eq_take, r.length]
  exact r.take _
theorem md_pop : MtD X "list.pop" gPop := by
  intro pins s σ H x vs v us Q I rv rvs h
  obtain ⟨w, ws, M, ι, m, r, rs, g⟩ := h
  refine mto mt_pop mt_popAt pins s σ H x vs v us Q I rv rvs ?_
  unfold gPop at g
  split at g
  · rename_i n
    split at g
    · rename_i xs hw
      split at g
      · rename_i y hy
        cases r with
        | @ob _ a hn =>
          obtain ⟨vs1, h1, h2⟩ := m.obj n _ a hw hn
          have e0 := rs.zero
          subst e0
          obtain ⟨yv, e1, ry⟩ := h2.get hy
          rw [← h2.length] at e1
          have x1 : Ext H ι (upd H a (.lst vs1.dropLast)) ι := Ext.put (List.mem_of_getElem? hn) (by rw [h1]; trivial)
          exact .inl ⟨a, vs1, yv, rfl, rfl, h1, e1, g _ ι x1 (m.put hn x1 ⟨_, upd_same, h2.dropLast.ext x1⟩) _ (ry.ext x1)⟩
      · exact g.elim
    · exact g.elim
  · rename_i n i
    split at g
    · rename_i xs hw
      split at g
      · rename_i k hk
        split at g
        · rename_i y hy
          cases r with
          | @ob _ a hn =>
            obtain ⟨vs1, h1, h2⟩ := m.obj n _ a hw hn
            obtain ⟨iv, rfl, ri⟩ := rs.one
            cases ri
            obtain ⟨yv, e1, ry⟩ := h2.get hy
            have x1 : Ext H ι (upd H a (.lst (vs1.eraseIdx k))) ι := Ext.put (List.mem_of_getElem? hn) (by rw [h1]; trivial)
            obtain ⟨q1, q2, q3, q4⟩ := ixN_seq hk
            have l63 := line63
            obtain ⟨hz, _⟩ := I.lstM h1
            rw [h2.length] at hz
            exact .inr ⟨a, vs1, i, k, yv, rfl, rfl, h1, by omega, by omega, by rw [h2.length]; exact q1, e1, g _ ι x1 (m.put hn x1 ⟨_, upd_same, (h2.eraseIdx k).ext x1⟩) _ (ry.ext x1)⟩
        · exact g.elim
      · exact g.elim
    · exact g.elim
  · exact g.elim
/-- xs.extend(ys), ys a list, closed or not -/
def gExtend : GM := fun w ws M => match w, ws with
  | .ob n, [y] => match M[n]?, lstOf y M with
    | some (.lst xs), some zs => if xs.length + zs.length ≤ sizeLine then .ok .non (M.set n (.lst (xs ++ zs))) else .stuck
    | _, _ => .stuck
  | _, _ => .stuck
def rExtX (K : Ctx) : V → List V → Hp → VK → Prop := fun x vs H Q => ∃ l b xs zs, x = .ref l ∧ vs = [.ref b] ∧ H l = some (.lst xs) ∧ LstX K H b zs ∧ xs.length + zs.length ≤ sizeLine ∧ Q .non (upd H l (.lst (xs ++ zs)))
theorem mt_extX : MtR X "list.extend" (rExtX X.cx) := by
  intro pins s σ H x vs v us Q I rx rv h
  obtain ⟨l, b, xs, zs, rfl, rfl, hH, hB, hz, q⟩ := h
  cases rx
  obtain ⟨u, rfl, ru⟩ := rv.one
  cases ru
  obtain ⟨z, its, n, r, hl, e⟩ := I.lstM hH
  obtain ⟨its2, n2, r2, e2, hz2⟩ := hB.at I
  have hl2 := r2.length
  have hsz : its.toArray.size + its2.toArray.size ≤ sizeLine := by rw [List.size_toArray, List.size_toArray]; omega
  have hlong : ¬ (!its.toArray.isEmpty && Builtin.List.listTooLong (its.toArray.size + its2.toArray.size)) = true := by
    rw [notLongL hsz, Bool.and_false]
    exact Bool.false_ne_true
  refine call_meets F.slot_list_extend ⟨_, e, rfl⟩ F.entry_list_extend (F.args_list_extend_2 _ _)
    (AutoSeq1.list_extend_list_list_0 l its.toArray n b its2.toArray n2 hlong (by rw [List.size_toArray]; omega) (by omega)) ⟨e, e2, ?_⟩
  refine ⟨.non, _, I.lset (its' := its ++ its2) hH e (by simp) (r.append r2) ?_, rfl, q⟩
  rw [List.length_append]
  omega
theorem md_extend : MtD X "list.extend" gExtend := by
  intro pins s σ H x vs v us Q I rv rvs h
  obtain ⟨w, ws, M, ι, m, r, rs, g⟩ := h
  refine mt_extX pins s σ H x vs v us Q I rv rvs ?_
  unfold gExtend at g
  split at g
  · rename_i n y
    split at g
    · rename_i xs zs hw hy
      split at g
      · rename_i hl
        cases r with
        | @ob _ a hn =>
          obtain ⟨vs1, h1, h2⟩ := m.obj n _ a hw hn
          obtain ⟨yv, rfl, ry⟩ := rs.one
          obtain ⟨b, vs2, rfl, q2, hB⟩ := lstOf_rel m ry hy
          have x1 : Ext H ι (upd H a (.lst (vs1 ++ vs2))) ι := Ext.put (List.mem_of_getElem? hn) (by rw [h1]; trivial)
          exact ⟨a, b, vs1, vs2, rfl, rfl, h1, hB, by rw [h2.length, q2.length]; exact hl, g _ ι x1 (m.put hn x1 ⟨_, upd_same, (h2.append q2).ext x1⟩) _ .non⟩
      · exact g.elim
    · exact g.elim
  · exact g.elim
/-- d.get(k), d.get(k, x) -/
def gGet : GM := fun w ws M => match w, ws with
  | .dct kvs, [k] => match leafOf k with
    | some l => .ok ((lookD kvs l).getD .non) M
    | none => .stuck
  | .dct kvs, [k, d] => match leafOf k with
    | some l => .ok ((lookD kvs l).getD d) M
    | none => .stuck
  | _, _ => .stuck
theorem md_get : MtD X "dict.get" gGet := by
  intro pins s σ H x vs v us Q I rv rvs h
  obtain ⟨w, ws, M, ι, m, r, rs, g⟩ := h
  unfold gGet at g
  split at g
  · rename_i kvs k
    split at g
    · rename_i l hl
      cases r with
      | dct hD hE hk =>
        cases rv
        obtain ⟨hd, dd, _⟩ := dct_at (ι := ι) I hD
        have hp := hD
        obtain ⟨_, _, _, _, _, _, _, _, hp, _⟩ := hD
        obtain ⟨kv, rfl, rk⟩ := rs.one
        obtain ⟨u, rfl, ru⟩ := rvs.one
        refine call_meetsIn PySem.F.slot_dict_get dd.typeIs PySem.F.entry_dict_get (PySem.F.args_dict_get_2 _ _) (meets_dict_get (leafKind X.prog X.w) _ (leaf_is rk ru hl) hd) ⟨_, dd.mapOf, ?_⟩
        rcases hE.look (x := l) hp hk with ⟨e, e2⟩ | ⟨d, u', v', e1, e2, e3, e4⟩
        · rw [e] at g; rw [e2]
          exact ⟨.non, H, I.tok _, rfl, g H ι (Ext.refl _ _) m _ .non⟩
        · rw [e1] at g; rw [e2]
          exact ⟨v', H, I.tok _, e4, g H ι (Ext.refl _ _) m _ e3⟩
    · exact g.elim
  · rename_i kvs k d
    split at g
    · rename_i l hl
      cases r with
      | dct hD hE hk =>
        cases rv
        obtain ⟨hd, dd, _⟩ := dct_at (ι := ι) I hD
        have hp := hD
        obtain ⟨_, _, _, _, _, _, _, _, hp, _⟩ := hD
        obtain ⟨kv, dv, rfl, rk, rd⟩ := rs.two
        cases rvs with
        | cons ru rvs2 =>
          obtain ⟨u2, rfl, ru2⟩ := Vals.one rvs2
          refine call_meetsIn PySem.F.slot_dict_get dd.typeIs PySem.F.entry_dict_get (PySem.F.args_dict_get_3 _ _ _) (meets_dict_get_default (leafKind X.prog X.w) _ (leaf_is rk ru hl) hd u2) ⟨_, dd.mapOf, ?_⟩
          rcases hE.look (x := l) hp hk with ⟨e, e2⟩ | ⟨d, u', v', e1, e2, e3, e4⟩
          · rw [e] at g; rw [e2]
            exact ⟨dv, H, I.tok _, ru2, g H ι (Ext.refl _ _) m _ rd⟩
          · rw [e1] at g; rw [e2]
            exact ⟨v', H, I.tok _, e4, g H ι (Ext.refl _ _) m _ e3⟩
    · exact g.elim
  · exact g.elim
/-- a new list times an int: a closed list -/
def gMulL : G2 := fun x y M => match x, y with
  | .ob n, .int k => match M[n]? with
    | some (.lst xs) => if -(2 ^ 62) ≤ k ∧ k < 2 ^ 62 ∧ xs.length * k.toNat ≤ sizeLine then .ok (.lst (List.replicate k.toNat xs).flatten) M else .stuck
    | _ => .stuck
  | _, _ => .stuck
theorem op_MulL : OpD X (binaryOp .Mult) gMulL := by
  refine opd_of (OpR.frz op_rep) fun H ι M w1 w2 x y Q m r1 r2 g => ?_
  unfold gMulL at g
  split at g
  · rename_i n k
    split at g
    · rename_i xs hw
      split at g
      · rename_i hc
        cases r2
        cases r1 with
        | @ob _ a hn =>
          obtain ⟨vs1, h1, h2⟩ := m.obj n _ a hw hn
          exact ⟨a, k, vs1, rfl, rfl, h1, by omega, by omega, by rw [h2.length]; exact hc.2.2, fun p hp => frz_new m (h2.rep k.toNat) g hp⟩
      · exact g.elim
    · exact g.elim
  · exact g.elim
end
/-! ### while, with so many turns at most -/
def whileD (t : Ev Bool) (body : Es) : Nat → Es
  | 0 => fun _ _ => .stuck
  | n + 1 => fun ρ M => (t ρ M).sk ρ fun b M1 => if b = true then (match body ρ M1 with
      | .nx ρ2 M2 => whileD t body n ρ2 M2
      | .ct ρ2 M2 => whileD t body n ρ2 M2
      | .bk ρ2 M2 => .nx ρ2 M2
      | r => r) else .nx ρ M1
section
variable {X : Cx} {c : Expr} {body : List Stmt} {t : Ev Bool} {g : Es} {pos : Pos}
theorem fs_while (n : Nat) (hp : PassesOwn (model X.prog X.w) X.A X.env X.xe) (hc : FT X c t) (hb : FSs X body g) : FS X (.While c body [] pos) (whileD t g n) :=
  ⟨fun Wx tk => PS.imp (ps_while hp (hc.run Wx tk) (hb.run Wx tk)) fun Dd σ H ⟨ρ, M, ι, s, m, q⟩ => by
    refine ⟨fun k σ' H' => ∃ (ρ : DSt) (M : MH) (ι : List Addr), RelS X.cx H' ι σ' ρ ∧ MemD X.cx H' ι M ∧ GoodS X.cx Wx H' ι Dd (whileD t g k ρ M), ⟨n, ρ, M, ι, s, m, q⟩, ?_⟩
    rintro k σ' H' ⟨ρ, M, ι, s, m, q⟩
    cases k with
    | zero => exact q.elim
    | succ k =>
      refine (TB.sk s m q).mono fun b H1 ⟨M1, ι1, x, s1, m1, q1⟩ => ?_
      cases b with
      | false => exact q1 σ' H1 ι1 (Ext.refl _ _) s1 m1
      | true =>
        refine ⟨fun σ2 H2 => ∃ (ρ : DSt) (M : MH) (ι : List Addr), RelS X.cx H2 ι σ2 ρ ∧ MemD X.cx H2 ι M ∧ GoodS X.cx Wx H2 ι Dd (whileD t g k ρ M), fun σ2 H2 h => ⟨k, Nat.lt_succ_self k, h⟩, ρ, M1, ι1, s1, m1, ?_⟩
        rw [if_pos rfl] at q1
        cases e2 : g ρ M1 with
        | nx ρ2 M2 =>
          rw [e2] at q1
          exact fun σ4 H4 ι4 x4 s4 m4 => ⟨ρ2, M2, ι4, s4, m4, GoodS.ext x4 q1⟩
        | ct ρ2 M2 =>
          rw [e2] at q1
          exact fun σ4 H4 ι4 x4 s4 m4 => ⟨ρ2, M2, ι4, s4, m4, GoodS.ext x4 q1⟩
        | bk ρ2 M2 => rw [e2] at q1; exact q1
        | rt w M2 => rw [e2] at q1; exact q1
        | exc c fs ρ2 M2 => rw [e2] at q1; exact q1
        | stuck => rw [e2] at q1; exact q1⟩
end
end FL

namespace FL
open PySem PySem.Spec PyProof.Rows L2
open PySem.SeqAt
open PySem.MeetsSeq PySem.MeetsSeq2 PySem.MeetsSeq3
section
variable {prog : Program} {w : World} {A : Around} {E : Value → Shared → Prop} {s : Shared}
theorem fm_congr {α β : Type} {f g : α → Option β} : ∀ {l : List α}, (∀ x ∈ l, f x = g x) → l.filterMap f = l.filterMap g
  | [], _ => rfl
  | a :: r, h => by
    rw [List.filterMap_cons, List.filterMap_cons, h a (by simp), fm_congr fun x hx => h x (by simp [hx])]
theorem rev_pick (xs : Array Value) : ((List.range xs.size).filterMap fun (k : Nat) => xs[(((xs.size : Int) - 1) + (k : Int) * (-1)).toNat]?).toArray = xs.toList.reverse.toArray := by
  have h : ∀ k ∈ List.range xs.size, xs[(((xs.size : Int) - 1) + (k : Int) * (-1)).toNat]? = xs.toList.reverse[k]? := by
    intro k hk
    rw [List.mem_range] at hk
    have e : (((xs.size : Int) - 1) + (k : Int) * (-1)).toNat = xs.size - 1 - k := by omega
    rw [e, List.getElem?_reverse (by simpa using hk), Array.length_toList, Array.getElem?_toList]
  rw [fm_congr h]
  have q : ∀ (l : List Value), (List.range l.length).filterMap (fun k => l[k]?) = l := by
    intro l
    induction l with
    | nil => rfl
    | cons a r ih =>
      rw [List.length_cons, List.range_succ_eq_map, List.filterMap_cons]
      simp [List.filterMap_map, Function.comp_def, ih]
  have q2 := q xs.toList.reverse
  rw [List.length_reverse, Array.length_toList] at q2
  rw [q2]
theorem rev_adjust (n : Nat) : Builtin.Slice.sliceAdjust none none (-1) (n : Int) = ((n : Int) - 1, -1) := by
  unfold Builtin.Slice.sliceAdjust
  simp
theorem rev_places (n : Nat) : Builtin.Slice.slicePlaces ((n : Int) - 1) (-1) (-1) = n := by
  unfold Builtin.Slice.slicePlaces
  simp
  omega
theorem applied_rev {sl : Addr} {n : Nat} {vl vu vs : Value} {Q : Int × Int × Nat → Shared → Prop} (hs : s.heap.IsSliceOf sl vl vu vs) (pl : IsPart vl none) (pu : IsPart vu none) (ps : IsPart vs (some (-1)))
    (h : Q ((n : Int) - 1, -1, n) s) : wpAny (model prog w) A (Builtin.Slice.sliceApplied (.ref sl) (pure (n : Int))) Q E s := by
  obtain ⟨os, hos, hcs, hds⟩ := id hs
  unfold Builtin.Slice.sliceApplied Builtin.Slice.sliceFields
  refine wpAny_bind (wpAny_bind (wpAny_field hos hds (x := vl) rfl (wpAny_bind (wpAny_field hos hds (x := vu) rfl (wpAny_bind (wpAny_field hos hds (x := vs) rfl (wpAny_pure ?_)))))))
  refine wpAny_bind (HT.slicePart_ ps ?_)
  show wpAny _ _ (if ((-1 : Int) == 0) = true then _ else _) _ _ s
  rw [if_neg (by decide)]
  refine wpAny_bind (HT.slicePart_ pl (wpAny_bind (HT.slicePart_ pu (wpAny_bind (wpAny_pure ?_)))))
  show wpAny _ _ (match Builtin.Slice.sliceAdjust none none (-1) (n : Int) with | (lo, hi) => pure (lo, (-1 : Int), Builtin.Slice.slicePlaces lo hi (-1))) _ _ s
  rw [rev_adjust]
  show wpAny _ _ (pure ((n : Int) - 1, (-1 : Int), Builtin.Slice.slicePlaces ((n : Int) - 1) (-1) (-1))) _ _ s
  rw [rev_places]
  exact wpAny_pure h
theorem getItem_tuple_rev {t sl : Addr} {items : Array Value} {vl vu vs : Value} {Q : Value → Shared → Prop} (ht : IsTup s.heap t items) (hs : s.heap.IsSliceOf sl vl vu vs) (pl : IsPart vl none) (pu : IsPart vu none) (ps : IsPart vs (some (-1)))
    (h : Q (.ref s.heap.objs.size) { s with heap := s.heap.push { cls := .type "tuple", data := .seq items.toList.reverse.toArray } })
    (hsz : items.size ≤ sizeLine) : wpAny (model prog w) A (getItem (.ref t) (.ref sl)) Q E s := by
  have htake : sizeOk (.seq items.toList.reverse.toArray) := by
    show items.toList.reverse.toArray.size ≤ sizeLine
    rw [List.size_toArray, List.length_reverse, Array.length_toList]
    exact hsz
  obtain ⟨os, hos, hcs, hds⟩ := id hs
  have hTs : s.TypeIs (.ref sl) "slice" := ⟨os, hos, hcs⟩
  unfold getItem
  try with_reducible refine wpAny_holding ?_
  first | refine wpAny_bind (wpAny_pure ?_) | skip
  refine wpAny_bind (wpAny_sequenceKey ht.typeIs (by decide) ?_)
  refine wpAny_bind (wpAny_callSpecial?_slot (name := Str.ofString "__getitem__") ht.typeIs PyProof.Rows.slot_tuple_getitem
    (wpAny_call_entry PyProof.Rows.slot_tuple_getitem ht.typeIs PyProof.Rows.entry_tuple_getitem ?_ (PyProof.Rows.args_tuple_getitem _ _)))
  show wpAny _ _ (Builtin.Tuple.tupleItemsOf (.ref t) >>= _) _ _ s
  refine wpAny_bind (tupleItemsOf_ ht ?_)
  refine wpAny_bind (wpAny_typeOf hTs ?_)
  rw [if_pos (by decide)]
  refine wpAny_bind (applied_rev hs pl pu ps ?_)
  have hno : ¬ ((((items.size : Int) - 1) == 0 && (-1 : Int) == 1 && items.size == items.size) = true) := by
    intro q
    rw [Bool.and_eq_true, Bool.and_eq_true] at q
    exact absurd q.1.2 (by decide)
  show wpAny _ _ (if (((items.size : Int) - 1) == 0 && (-1 : Int) == 1 && items.size == items.size) = true then _ else _) _ _ s
  rw [if_neg hno, rev_pick]
  first
    | exact wpAny_bind (m := Builtin.Tuple.tupleExact _) (wpAny_newObj_type (wpAny_pure ⟨_, rfl, wpAny_pure h⟩) htake)
    | exact wpAny_bind (m := Builtin.Tuple.tupleExact _) (wpAny_newObj_type (wpAny_bind (wpAny_pure (wpAny_pure ⟨_, rfl, wpAny_pure h⟩))) htake)
    | exact wpAny_bind (wpAny_bind (m := Builtin.Tuple.tupleExact _) (wpAny_newObj_type (wpAny_pure (wpAny_pure ⟨_, rfl, wpAny_pure h⟩)) htake))
    | exact wpAny_bind (wpAny_bind (m := Builtin.Tuple.tupleExact _) (wpAny_newObj_type (wpAny_pure ⟨_, rfl, wpAny_pure h⟩) htake))
end
section
variable {X : Cx} {e : Expr} {f1 : Ev D} {k : Nat} {p1 p2 p3 pos : Pos}
/-- xs[::-1], a tuple or a list: lists come closed -/
def tRevX (K : Ctx) (te : TE) : TE := fun σ H Q => te σ H fun x H1 => ∃ a xs, x = .ref a ∧ ((SqL K.K H1 a xs ∧ ∀ p, H1 p = none → Q (.ref p) (upd H1 p (.lst xs.reverse))) ∨ (SqT K.K H1 a xs ∧ ∀ p, H1 p = none → Q (.ref p) (upd H1 p (.tup xs.reverse))))
theorem pe_revX {te : TE} (he : PE X e te) : PE X (.Subscript e (.Slice none none (some (.UnaryOp .USub (.Constant (.int 1) k p1) p2)) p3) pos) (tRevX X.cx te) := by
  refine ⟨fun pins s σ H Q I h => ?_⟩
  refine Subscript_ (thn (he.run pins s σ H _ I h) fun v s1 ⟨x, H1, I1, r1, q1⟩ => ?_)
  obtain ⟨a, xs, ex, q1⟩ := q1
  subst ex
  cases r1
  have hst : PO X (some (.UnaryOp .USub (.Constant (.int 1) k p1) p2)) (tPart (tUn (rU fun i => .int (-i)) (tC (.int 1)))) := po_some (pe_un un_neg pe_int)
  refine wpAny_Slice (thn (po_none.run pins s1 σ H1 (fun o H2 => o = none ∧ H2 = H1) I1 ⟨rfl, rfl⟩) fun vl s2 ⟨l, H2, I2, pl, el, e2⟩ => ?_)
  subst el e2
  refine thn (po_none.run pins s2 σ H2 (fun o H3 => o = none ∧ H3 = H2) I2 ⟨rfl, rfl⟩) fun vu s3 ⟨u, H3, I3, pu, eu, e3⟩ => ?_
  subst eu e3
  refine thn (hst.run pins s3 σ H3 (fun o H4 => o = some (-1) ∧ H4 = H3) I3 ⟨1, rfl, -1, rfl, rfl, rfl⟩) fun vs s4 ⟨o, H4, I4, ps, eo, e4⟩ => ?_
  subst eo e4
  have I5 : Inv X pins σ H4 { s4 with heap := s4.heap.push { cls := .type "slice", data := .fields #[vl, vu, vs] } } := I4.kept (t' := s4.toks) fun b ob q => Heap.get?_push_of_some _ q
  show wpAny (model X.prog X.w) X.A (subscriptTail e (.Slice none none (some (.UnaryOp .USub (.Constant (.int 1) k p1) p2)) p3) (.ref a) (.ref s4.heap.objs.size)) (EP X pins σ Q) X.xe { s4 with heap := s4.heap.push { cls := .type "slice", data := .fields #[vl, vu, vs] } }
  rcases q1 with ⟨hx, q⟩ | ⟨hx, q⟩
  · obtain ⟨its, r, ht, hz⟩ := I5.list hx
    have hlen := r.length
    refine tail_any (ops := [.ref a, .ref s4.heap.objs.size]) ht.isList.typeIs (PySem.slot_list_getitem.lookup) ?_ (by with_unfolding_all rfl)
    refine wpAny_getItem_list_slice ht.isList (Heap.IsSliceOf.new _ vl vu vs) pl pu ps (by decide) ?_ (by rw [List.size_toArray]; omega)
    rw [PySem.W.krv_pick]
    refine ⟨.ref _, _, I5.laid (t' := s4.toks) (o := .lst xs.reverse) (fun b ob q => Heap.get?_push_of_some _ q) (Nat.le_refl _) ?_, rfl, q _ (I5.hok.fresh (Nat.le_refl _))⟩
    exact ⟨by rw [List.length_reverse]; exact hz, _, 0, r.reverse, Heap.get?_push_size _ rfl⟩
  · obtain ⟨its, r, ht, hz⟩ := I5.tuple hx
    have hlen := r.length
    refine tail_any (ops := [.ref a, .ref s4.heap.objs.size]) ht.typeIs (PyProof.Rows.slot_tuple_getitem.lookup) ?_ (by with_unfolding_all rfl)
    refine getItem_tuple_rev ht (Heap.IsSliceOf.new _ vl vu vs) pl pu ps ?_ (by rw [List.size_toArray]; omega)
    refine ⟨.ref _, _, I5.laid (t' := s4.toks) (o := .tup xs.reverse) (fun b ob q => Heap.get?_push_of_some _ q) (Nat.le_refl _) ?_, rfl, q _ (I5.hok.fresh (Nat.le_refl _))⟩
    exact ⟨by rw [List.length_reverse]; exact hz, _, r.reverse, IsTup.new _ _⟩
def gRev : G1 := fun w M => match w with
  | .tup ws => .ok (.tup ws.reverse) M
  | w => match lstOf w M with
    | some ws => .ok (.lst ws.reverse) M
    | none => .stuck
def eRev (f : Ev D) : Ev D := fun ρ M => (f ρ M).bind gRev
theorem fe_rev (ha : FE X e f1) : FE X (.Subscript e (.Slice none none (some (.UnaryOp .USub (.Constant (.int 1) k p1) p2)) p3) pos) (eRev f1) :=
  ⟨fun Wx tk => PE.imp (PE.frz? (pe_revX (ha.run Wx tk))) fun σ H Q ⟨ρ, M, ι, hS, hM, h⟩ => (TD.bind hS hM h).mono fun v H1 ⟨w, M1, ι1, x, s, m, r, g⟩ => by
    unfold gRev at g
    split at g
    · cases r with
      | tup hT rr => exact ⟨_, _, rfl, .inr ⟨hT, fun p hp => .inl (new_tup m rr.reverse g hp)⟩⟩
    · split at g
      · rename_i ws hw
        obtain ⟨a, vs, rfl, q, hL⟩ := lstOf_rel m r hw
        refine ⟨a, vs, rfl, .inl ⟨?_, fun p hp => .inr (frz_new m q.reverse g hp)⟩⟩
        rcases hL with hL | hL
        · exact SqL.of hL
        · exact hL.seq
      · exact g.elim⟩
end
end FL

namespace FL
open PySem PySem.Spec PyProof.Rows L2

/-! ### sets of keys that are carried by value -/
def SetHp (P : Program) (w : World) (h : Heap) (a : Addr) (ws : List D) : Prop := ∃ o, h.get? a = some o ∧ SetOk P w o ws
def addL (ws : List D) (y : D) : List D := if leafOf y ∈ ws.map leafOf then ws else ws ++ [y]
theorem SetHp.of {P : Program} {w : World} {h : Heap} {a : Addr} {ws : List D} (x : SetHp P w h a ws) : h.SetOf (leafKind P w) a (fun k => decide (some k ∈ ws.map leafOf)) ws.length := by
  obtain ⟨o, e, es, ep, t, h1, h2, h3, h4, h5, h6, h7, _⟩ := x
  exact ⟨o, es, ep, t, e, h1, h2, h3, fun k => by rw [decide_eq_true_eq]; exact h4 k, h5, h6, h7⟩
theorem SetHp.mk {P : Program} {w : World} {h : Heap} {a : Addr} {ws : List D} {S : Leaf → Bool} {n : Nat} (x : h.SetOf (leafKind P w) a S n) (hS : ∀ k, S k = true ↔ some k ∈ ws.map leafOf) (hn : n = ws.length) (nd : (ws.map leafOf).Nodup) (sm : ∀ d ∈ ws, (leafOf d).isSome = true) : SetHp P w h a ws := by
  obtain ⟨o, es, ep, t, e, h1, h2, h3, h4, h5, h6, h7⟩ := x
  exact ⟨o, e, es, ep, t, h1, h2, h3, fun k => (hS k).symm.trans (h4 k), h5, h6, h7.trans hn, nd, sm⟩
theorem SetHp.nd {P : Program} {w : World} {h : Heap} {a : Addr} {ws : List D} (x : SetHp P w h a ws) : (ws.map leafOf).Nodup ∧ ∀ d ∈ ws, (leafOf d).isSome = true := by
  obtain ⟨o, e, es, ep, t, h1, h2, h3, h4, h5, h6, h7, h8, h9⟩ := x
  exact ⟨h8, h9⟩
def SetLO (P : Program) (w : World) (a : Addr) (ws : List D) : HO := .ext fun h => SetHp P w h a ws
theorem setLO_new {w : World} {P P' : Program} {w' : World} {H : Hp} {h : Heap} {a : Addr} {ws : List D} (R : SetHp P w h a ws) : ObjOk P' w' H h a (SetLO P w a ws) := by
  have R' := R
  obtain ⟨o, e, _⟩ := R
  exact ⟨R', ⟨o, e⟩, fun h1 h2 ⟨o, e, x⟩ k => ⟨o, k _ e, x⟩⟩
theorem scan_leaf {P : Program} {w : World} {k : Leaf} {u : Value} (h : (leafKind P w).is k u = true) : u.scannable = true := by
  have h' : Leaf.isOf k u = true := h
  cases k with
  | none => cases u <;> first | rfl | cases h'
  | num i => cases u <;> first | rfl | cases h'
  | text x =>
    obtain ⟨t, rfl⟩ := Value.isStrOf_shape (show Value.isStrOf x u = true from h')
    rfl
section
variable {X : Cx} {pins : List (Addr × Obj)} {σ : L2.St} {H : Hp} {s : Shared} {E : Value → Shared → Prop} {Z : Addr} {ws : List D} {y : D} {k : Leaf} {u : Value} {Q : Value → Shared → Prop}
theorem addL_ok (I : Inv X pins σ H s) (hZ : H Z = some (SetLO X.prog X.w Z ws)) (room : ws.length + 1 < scanBound) (hk : leafOf y = some k) (hu : (leafKind X.prog X.w).is k u = true)
    (h : ∀ s', Inv X pins σ (upd H Z (SetLO X.prog X.w Z (addL ws y))) s' → Q .none s') : wpAny (model X.prog X.w) X.A (call (.builtin "set.add") [.ref Z, u]) Q E s := by
  have R : SetHp X.prog X.w s.heap Z ws := (I.hok Z _ hZ).1
  obtain ⟨nd, sm⟩ := R.nd
  refine call_set_add hu (scan_leaf hu) R.of room fun h' sb new => ?_
  have R' : SetHp X.prog X.w h' Z (addL ws y) := by
    refine SetHp.mk new (fun k' => ?_) ?_ ?_ ?_
    · rw [Bool.or_eq_true, decide_eq_true_eq, decide_eq_true_eq]
      unfold addL
      split
      · rename_i hm
        rw [hk] at hm
        exact ⟨fun z => z.elim id fun e => e ▸ hm, .inl⟩
      · rw [List.map_append, List.mem_append]
        simp only [List.map_cons, List.map_nil, List.mem_singleton, hk, Option.some.injEq]
    · unfold addL
      rw [hk]
      by_cases hm : some k ∈ ws.map leafOf
      · rw [if_pos hm, if_pos (decide_eq_true hm)]
      · rw [if_neg hm, if_neg (by rw [decide_eq_true_eq]; exact hm)]
        simp
    · unfold addL
      split
      · exact nd
      · rename_i hm
        rw [List.map_append, List.nodup_append]
        exact ⟨nd, by simp, fun a ha b hb z => hm (by
          have : b = leafOf y := by simpa using hb
          rw [← this, ← z]
          exact ha)⟩
    · unfold addL
      split
      · exact sm
      · intro d hd
        rcases List.mem_append.mp hd with hd | hd
        · exact sm d hd
        · rw [List.mem_singleton] at hd
          subst hd
          rw [hk]
          rfl
  have he : ∃ u, h'.get? Z = some u := by
    obtain ⟨o, e, _⟩ := R'
    exact ⟨o, e⟩
  exact h _ (I.write (e := Z) (t' := s.toks + 1) (by rw [hZ]; trivial) (.inl rfl) (fun b u hb hu => (sb.2 b hb).trans hu) he (setLO_new R'))
end
end FL

namespace FL
open PySem PySem.Spec PyProof.Rows L2 PpSet

/-! ### {elt for target in iter if ..}, elt a key carried by value -/
/-- what one turn's value asks of the set at Z -/
def AddTo (X : Cx) (Z : Addr) (Nx : Hp → Prop) : VK := fun y H => ∃ (d : D) (k : Leaf) (ws : List D), leafOf d = some k ∧ (∀ u, RelV y u → (leafKind X.prog X.w).is k u = true) ∧ H Z = some (SetLO X.prog X.w Z ws) ∧ ws.length + 1 < scanBound ∧ Nx (upd H Z (SetLO X.prog X.w Z (addL ws d)))
def tSet (X : Cx) (wi : TI) (g : TG) (tt : TT) (te : TE) (vs : List Nat) : TE := fun σ H Q => wi σ H fun J H1 => ∀ Z, H1 Z = none →
  ∃ W : Nat → Nat → Hp → Prop, (∃ m, W 0 m (upd H1 Z (SetLO X.prog X.w Z []))) ∧ ∀ i m H, W i m H → (J.stop i H ∧ Q (.ref Z) H) ∨
    (J.go i H ∧ ∃ Nx : Hp → Prop, (∀ H', Nx H' → ∃ m', m' < m ∧ W (i + 1) m' H') ∧
      ∀ x H', J.yld i H x H' → g x (L2.wipe σ vs) H' fun σ2 H2 => L2.wipe σ2 vs = L2.wipe σ vs ∧ tt σ2 H2 fun b H3 => if b = true then te σ2 H3 (AddTo X Z Nx) else Nx H3)
section
variable {X : Cx}
theorem pe_set {elt tg iter : Expr} {ifs : List Expr} {scope : Scope} {own : List (Str × Nat)} {pos : Pos} {wi : TI} {g : TG} {tt : TT} {te : TE} (hcalm : X.calm = true) (hN : X.N.Nodup) (hi : PI X tg iter wi) (blk : BlkOk X.N X.env.scope scope own)
    (hg : ∀ (s : Shared) (H : Hp) (C : Addr) (cl : List (Str × Addr)) (fp : List Addr), PG (X.blk s H scope (compEnvC scope cl C X.env) fp) tg g)
    (ht : ∀ (s : Shared) (H : Hp) (C : Addr) (cl : List (Str × Addr)) (fp : List Addr), PTs (X.blk s H scope (compEnvC scope cl C X.env) fp) ifs tt)
    (he : ∀ (s : Shared) (H : Hp) (C : Addr) (cl : List (Str × Addr)) (fp : List Addr), PE (X.blk s H scope (compEnvC scope cl C X.env) fp) elt te)
    (hfold : ∀ x, foldedSetIterable iter X.env x = pure x) : PE X (.SetComp elt [⟨tg, iter, ifs, 0⟩] scope pos) (tSet X wi g tt te (own.map (·.2))) := by
  refine ⟨fun pins t0 σ H Q J0 hw => ?_⟩
  have cellsThere : ∀ y ∈ scope.names, y.2 = .free → ∃ c, X.env.cells.lookup y.1 = some c := fun y hy e => (blk.free y hy e).elim (fun k => J0.ok.has _ (.inl k)) (fun k => J0.ok.has _ (.inr k))
  rw [eval_SetComp]
  refine wpAny_comprehension_free (use := none) rfl hfold (closure_ok cellsThere) blk.kind (fun y hy e => by rw [blk.uniq y hy, e]) (thn (hi.run pins t0 σ H _ J0 hw) fun xv t1 hx => thn hx fun itv t2 h2 => ?_)
  obtain ⟨it, fp, tn, J, H2, rfl, J2, T, st2, f2, q⟩ := h2
  refine newSet_ok (newEnv_comp ?_)
  generalize hZ : t2.heap.objs.size = Z
  have freeZ : H2 Z = none := J2.hok.fresh (Nat.le_of_eq hZ)
  obtain ⟨W, ⟨m0, w0⟩, turn⟩ := q Z freeZ
  generalize hnew : ({ cls := .type "set", dict := none, data := .set #[] 0 (.fresh 0 0 (!X.w.params.followText "set-order")) } : Obj) = obj
  have R0 : SetHp X.prog X.w (t2.heap.push obj) Z [] := by
    subst hnew
    rw [← hZ]
    exact ⟨_, Heap.get?_push_size _ rfl, #[], 0, _, ⟨rfl, rfl, rfl⟩, rfl, fun e z => by simp at z, fun k => by simp, by decide, rfl, rfl, by simp, fun d z => by cases z⟩
  generalize ht3 : ({ t2 with heap := t2.heap.push obj } : Shared) = t3
  have heap3 : t3.heap = t2.heap.push obj := by rw [← ht3]
  have J3 : Inv X pins σ (upd H2 Z (SetLO X.prog X.w Z [])) t3 := by
    subst ht3
    exact J2.laid (t' := t2.toks) (fun b o e => Heap.get?_push_of_some _ e) (Nat.le_of_eq hZ) (setLO_new R0)
  have small : ∀ b ∈ fp, b < t2.heap.objs.size := fun b hb => let ⟨o, e, _⟩ := T.obj _ _ st2 b hb; Heap.lt_size e
  have f3 : ∀ b ∈ fp, FpOk X pins (upd H2 Z (SetLO X.prog X.w Z [])) b ∧ b < t3.heap.objs.size := fun b hb =>
    ⟨⟨by rw [upd_ne (by rw [← hZ]; exact Nat.ne_of_lt (small b hb))]; exact (f2 b hb).1, (f2 b hb).2⟩, by rw [heap3, Heap.size_push]; exact Nat.lt_succ_of_lt (small b hb)⟩
  have st3 : tn 0 t3.heap := T.keep _ _ _ st2 fun b _ o e => by rw [heap3]; exact Heap.get?_push_of_some _ e
  have J4 := block_start J3 blk hN f3
  have pg := hg t3 (upd H2 Z (SetLO X.prog X.w Z [])) t3.heap.objs.size (cellsFrom (t3.heap.objs.size + 1) scope.names (cloFrom X.env.cells scope.names [])) fp
  have pt := ht t3 (upd H2 Z (SetLO X.prog X.w Z [])) t3.heap.objs.size (cellsFrom (t3.heap.objs.size + 1) scope.names (cloFrom X.env.cells scope.names [])) fp
  have pe := he t3 (upd H2 Z (SetLO X.prog X.w Z [])) t3.heap.objs.size (cellsFrom (t3.heap.objs.size + 1) scope.names (cloFrom X.env.cells scope.names [])) fp
  show codeAny _ _ (.compStart (.SetComp elt [⟨tg, iter, ifs, 0⟩] scope pos) 0 (.ref it) (.ref Z) (compEnvC scope (cellsFrom (t3.heap.objs.size + 1) scope.names (cloFrom X.env.cells scope.names [])) t3.heap.objs.size X.env)) (compPost (model X.prog X.w) X.A X.xe none (EP X pins σ Q) (.ref Z) t3.heap.objs.size)
    { t3 with heap := pushCells (t3.heap.push { cls := .type "dict", data := .dict #[] }) scope.names }
  have offFp : ∀ b ∈ fp, (upd H2 Z (SetLO X.prog X.w Z [])) b = none := fun b hb => (f3 b hb).1.1
  generalize hce : compEnvC scope (cellsFrom (t3.heap.objs.size + 1) scope.names (cloFrom X.env.cells scope.names [])) t3.heap.objs.size X.env = ce at J4 pg pt pe ⊢
  have locE : ce.locals = t3.heap.objs.size := by rw [← hce]; rfl
  generalize hH3 : upd H2 Z (SetLO X.prog X.w Z []) = H3 at J3 J4 pg pt pe w0 offFp f3
  generalize ht4 : ({ t3 with heap := pushCells (t3.heap.push { cls := .type "dict", data := .dict #[] }) scope.names } : Shared) = t4 at J4 ⊢
  have st4 : tn 0 t4.heap := T.keep _ _ _ st3 fun b _ o e => by rw [← ht4]; exact pushCells_keeps _ _ _ _ (Heap.get?_push_of_some _ e)
  have stay : ∀ {σ' : L2.St} {H' : Hp} {s' : Shared}, Inv (X.blk t3 H3 scope ce fp) [] σ' H' s' → (∀ b ∈ fp, H' b = none) → ∀ b ∈ fp, FpOk (X.blk t3 H3 scope ce fp) [] H' b := fun {σ' H' s'} K' hn b hb =>
    ⟨hn b hb, (K'.ok.exf b hb).1, K'.ok.exfs b hb, .inl hb, fun x c e => (K'.ok.exf b hb).2 x c e, fun p hp => absurd (show p ∈ ([] : List (Addr × Obj)) ++ [] from hp) (by simp)⟩
  have loop : codeAny (model X.prog X.w) X.A (.compLoop (.SetComp elt [⟨tg, iter, ifs, 0⟩] scope pos) 0 (.ref it) (.ref Z) ce) (compPost (model X.prog X.w) X.A X.xe none (EP X pins σ Q) (.ref Z) t3.heap.objs.size) t4 := by
    refine compLoopS_any (fun n s' => ∃ i H', Inv (X.blk t3 H3 scope ce fp) [] (L2.wipe σ (own.map (·.2))) H' s' ∧ tn i s'.heap ∧ (∀ b ∈ fp, H' b = none) ∧ W i n H') ?_ m0 ⟨0, H3, J4, st4, offFp, w0⟩
    rintro n t5 ⟨i, H5, J5, st5, n5, w5⟩
    rcases turn i n H5 w5 with ⟨stop, done⟩ | ⟨go, Nx, hNx, step⟩
    · refine thnF (T.done (X.blk t3 H3 scope ce fp) rfl rfl rfl hcalm i [] t5 _ H5 (fun _ _ => False) J5 (stay J5 n5) st5 stop) fun r t6 ⟨hr, J6⟩ => ?_
      subst hr
      have J7 : Inv X pins σ H5 t6 := J3.call' (ch := fp) J6.os J6.base J6.hok J6.bare fun b hb => let z := (f3 b hb).1.2; ⟨z.2.2.1, z.1, z.2.2.2.1, z.2.2.2.2⟩
      have freeC : H5 t3.heap.objs.size = none := by
        have z : H5 ce.locals = none := J6.free
        rwa [locE] at z
      obtain ⟨m, hn, _⟩ := J6.loc
      have hn : t6.heap.Ns ce.locals m := hn
      rw [locE] at hn
      refine ⟨m, hn, fun h'' sb => ?_⟩
      obtain ⟨g0, g1, g2, g3, g4, g5⟩ := J3.fpOk (Nat.le_refl _) freeC
      exact ⟨.ref Z, H5, J7.turned (t' := t6.toks) (fun b o hb e => (sb.2 b hb).trans e) g0 g1 g3 g4 g5, rfl, done⟩
    · refine thnF (T.item (X.blk t3 H3 scope ce fp) rfl rfl rfl hcalm i [] t5 _ H5 (fun _ _ => False) J5 (stay J5 n5) st5 go) fun r t6 ⟨u, hr, h6⟩ => ?_
      subst hr
      refine thnF h6 fun _ t7 ⟨x, H7, J7, r7, y7, st7, n7⟩ => ?_
      refine thnF (pg.run _ t7 _ H7 x u _ (J7.pinned (stay J7 n7) (T.obj _ _ st7)) r7 (step x H7 y7)) fun _ t8 ⟨σ8, H8, J8, hw8, q8⟩ => ?_
      refine thnF (pt.run _ t8 σ8 H8 _ J8 q8) fun b t9 ⟨H9, J9, q9⟩ => ?_
      have next : ∀ {s' : Shared} {H' : Hp}, Inv (X.blk t3 H3 scope ce fp) ([] ++ pinsAt fp t7.heap) σ8 H' s' → Nx H' →
          ∃ m, m < n ∧ ∃ i H', Inv (X.blk t3 H3 scope ce fp) [] (L2.wipe σ (own.map (·.2))) H' s' ∧ tn i s'.heap ∧ (∀ b ∈ fp, H' b = none) ∧ W i m H' := fun {s' H'} K' nx => by
        obtain ⟨m', hm, w'⟩ := hNx H' nx
        have held : ∀ b ∈ fp, ∀ o, t7.heap.get? b = some o → s'.heap.get? b = some o ∧ H' b = none := fun b hb o e =>
          let z := K'.pin (b, o) (List.mem_append_right _ (List.mem_append_right _ (mem_pinsAt hb e))); ⟨z.1, z.2.1⟩
        refine ⟨m', hm, i + 1, H', (K'.unpinned (pins := [])).weak (by rw [← hw8, wipe_length]) (fun j v e => ?_), T.keep _ _ _ st7 fun b hb o e => (held b hb o e).1, fun b hb => ?_, w'⟩
        · rw [← hw8] at e
          exact (wipe_some e).1
        · obtain ⟨o, e, _⟩ := T.obj _ _ st7 b hb
          exact (held b hb o e).2
      cases b with
      | false =>
        rw [if_neg (by decide)] at q9 ⊢
        exact next J9 q9
      | true =>
        rw [if_pos rfl] at q9 ⊢
        refine thnF (pe.run _ t9 σ8 H9 _ J9 q9) fun z t10 ⟨yv, H10, J10, r10, d, k, ws, hk, hu, h10, room, nx⟩ => ?_
        exact addL_ok (X := X.blk t3 H3 scope ce fp) J10 h10 room hk (hu z r10) fun t11 J11 => next J11 nx
  exact codeAny_compStart_set loop (T.self X.A 0 _ _ _ st4 loop)
end
end FL

namespace FL
open PySem PySem.Spec PyProof.Rows L2

/-- a new set is closed at once -/
def frzS (P : Program) (w : World) (Q : VK) : VK := fun v H => ∃ (a : Addr) (ws : List D), v = .ref a ∧ H a = some (SetLO P w a ws) ∧ ∀ o : Obj, SetOk P w o ws → Q v (upd H a (.frz o (SetLO P w a ws)))
theorem EP.frzS {X : Cx} {pins : List (Addr × Obj)} {σ : L2.St} {Q : VK} {u : Value} {s : Shared} (h : EP X pins σ (frzS X.prog X.w Q) u s) : EP X pins σ Q u s := by
  obtain ⟨v, H, I, r, a, ws, e, h1, q⟩ := h
  subst e
  obtain ⟨od, I'⟩ := I.lock h1 trivial
  obtain ⟨e1, ⟨o, e2, so⟩, _⟩ := I'.hok a _ upd_same
  rw [e1] at e2
  cases e2
  exact ⟨.ref a, _, I', r, q od so⟩
theorem PE.frzS {X : Cx} {e : Expr} {t : TE} (h : PE X e t) : PE X e (fun σ H Q => t σ H (frzS X.prog X.w Q)) := ⟨fun pins s σ H Q I hw => thn (h.run pins s σ H _ I hw) fun _ _ q => EP.frzS q⟩
theorem set_it {X : Cx} {J : It} {n : Nat} {G : Hp → Prop} {Y : Nat → Hp → V → Hp → Prop} (w : Walk J n G Y) {g : TG} {tt : TT} {te : TE} {vs : List Nat} {σ : L2.St} {H1 : Hp} {Z : Addr} {Qd : Hp → Prop} (Pv : Nat → Hp → Prop) (h0 : Pv 0 (upd H1 Z (SetLO X.prog X.w Z []))) (hG : ∀ i H, i ≤ n → Pv i H → G H)
    (hs : ∀ i x H H', i < n → Pv i H → Y i H x H' → g x (L2.wipe σ vs) H' fun σ2 H2 => L2.wipe σ2 vs = L2.wipe σ vs ∧ tt σ2 H2 fun b H3 => if b = true then te σ2 H3 (AddTo X Z (Pv (i + 1))) else Pv (i + 1) H3) (hd : ∀ H, Pv n H → Qd H) :
    ∃ W : Nat → Nat → Hp → Prop, (∃ m, W 0 m (upd H1 Z (SetLO X.prog X.w Z []))) ∧ ∀ i m H, W i m H → (J.stop i H ∧ Qd H) ∨
      (J.go i H ∧ ∃ Nx : Hp → Prop, (∀ H', Nx H' → ∃ m', m' < m ∧ W (i + 1) m' H') ∧ ∀ x H', J.yld i H x H' → g x (L2.wipe σ vs) H' fun σ2 H2 => L2.wipe σ2 vs = L2.wipe σ vs ∧ tt σ2 H2 fun b H3 => if b = true then te σ2 H3 (AddTo X Z Nx) else Nx H3) := by
  refine ⟨fun i m H => m + i = n ∧ Pv i H, ⟨n, rfl, h0⟩, ?_⟩
  rintro i m H ⟨hm, p⟩
  have q := hG i H (by omega) p
  cases m with
  | zero =>
    have e : i = n := by omega
    rw [← e] at hd
    exact .inl ⟨e ▸ w.stops H q, hd H p⟩
  | succ m => exact .inr ⟨w.goes i H (by omega) q, Pv (i + 1), fun H' p' => ⟨m, Nat.lt_succ_self m, by omega, p'⟩, fun x H' y => hs i x H H' (by omega) p (w.yields i H x H' (by omega) q y)⟩
/-- the element has to be a key -/
def leafE (f : Ev D) : Ev D := fun ρ M => (f ρ M).bind fun y M1 => if (leafOf y).isSome = true then .ok y M1 else .stuck
def dedupL (ys : List D) : List D := ys.foldl addL []
def eSc (src : Ev (List D)) (h : Tgt) (t : Ev Bool) (f : Ev D) (vs : List Nat) : Ev D := fun ρ M => (src ρ M).bind fun items M1 => if items.length + 1 < scanBound then (lcD h t (leafE f) (wipeD ρ vs) items M1).bind fun ys M2 => .ok (.set (dedupL ys)) M2 else .stuck
theorem addL_len (ws : List D) (y : D) : (addL ws y).length ≤ ws.length + 1 := by
  unfold addL
  split <;> simp
theorem dedup_len (ys : List D) : ∀ acc : List D, (ys.foldl addL acc).length ≤ acc.length + ys.length := by
  induction ys with
  | nil => intro acc; simp
  | cons y r ih =>
    intro acc
    have h1 := ih (addL acc y)
    have h2 := addL_len acc y
    rw [List.foldl_cons, List.length_cons]
    omega
def accS (acc : List D) (r : Res (List D)) : Res D := r.bind fun ys M => .ok (.set (dedupL (acc ++ ys))) M
theorem sc_reads {X : Cx} {us vs : List Nat} {Wx : WX} {σ : L2.St} {H : Hp} {Q : VK} {src : Ev (List D)} {h : Tgt} {t : Ev Bool} {f : Ev D} (hsub : ∀ i ∈ us, i ∈ vs) (hh : TD X.cx Wx (eSc src h t f vs) σ H Q) :
    tSet X (TI' X.cx Wx src) (TGd X.cx us h) (TB X.cx (fun _ _ _ _ => False) t) (TD X.cx (fun _ _ _ _ => False) f) vs σ H (frzS X.prog X.w Q) := by
  obtain ⟨ρ, M, ι, hS, hM, q⟩ := hh
  refine ⟨ρ, M, ι, hS, hM, ?_⟩
  unfold eSc at q
  cases e : src ρ M with
  | stuck => rw [e] at q; exact q.elim
  | exc c fs M1 => rw [e] at q; exact q
  | ok items M1 =>
    rw [e, Res.bind_ok] at q
    split at q
    · rename_i hlen
      intro H1 ι1 x1 m1 J wd Z hZ
      obtain ⟨G, Y, wk, hG, hY⟩ := wd
      have s1 : RelS X.cx H1 ι1 (L2.wipe σ vs) (wipeD ρ vs) := (hS.ext x1).wipe _
      have q1 := Good.ext x1 q
      have mutS : ∀ {H' : Hp} {ws : List D}, H' Z = some (SetLO X.prog X.w Z ws) → Mut (H' Z) := fun hz => by rw [hz]; trivial
      refine set_it (Qd := fun H' => frzS X.prog X.w Q (.ref Z) H') wk (fun i H' => ∃ (M' : MH) (ι' : List Addr) (acc : List D), Ext H1 ι1 H' ι' ∧ MemD X.cx H' ι' M' ∧ H' Z = some (SetLO X.prog X.w Z (dedupL acc)) ∧ Z ∉ ι' ∧ acc.length ≤ i ∧
        Good X.cx H1 ι1 (fun w _ H' ι' => ∀ v, RelD X.cx H' ι' w v → Q v H') (fun c d H' => Wx c d σ H') (accS acc (lcD h t (leafE f) (wipeD ρ vs) (items.drop i) M'))) ?_ ?_ ?_ ?_
      · refine ⟨M1, ι1, [], Ext.new hZ, m1.new hZ, upd_same, fun z => ?_, Nat.le_refl _, q1⟩
        obtain ⟨n, hn⟩ := List.getElem?_of_mem z
        obtain ⟨o, ho⟩ := m1.there n Z hn
        rw [hZ] at ho; cases ho
      · rintro i H' _ ⟨M', ι', acc, x, _⟩
        exact hG H' ι' x
      · rintro i y H' H2 hi' ⟨M', ι', acc, x, m', hz, nZ, la, q'⟩ hy
        obtain ⟨d, hd, x2, r2, mm⟩ := hY i H' ι' y H2 x hi' hy
        rw [drop_cons hd, lcD] at q'
        cases e1 : h d (wipeD ρ vs) with
        | none => rw [e1] at q'; exact q'.elim
        | some ρ1 =>
          rw [e1] at q'
          have hz2 := x2.frame Z _ hz nZ
          refine ⟨d, _, ι', ρ1, r2, s1.ext (x.trans x2), e1, fun σ3 s3 l3 k3 => ⟨wipe_eq (us := us) (l3.trans (wipe_length _ _)) hsub k3, ρ1, M', ι', s3, mm M' m', ?_⟩⟩
          dsimp only at q'
          cases e2 : t ρ1 M' with
          | stuck => rw [e2] at q'; exact q'.elim
          | exc c fs M2 => rw [e2] at q'; exact q'.elim
          | ok b M2 =>
            rw [e2] at q'
            intro H3 ι3 x3 m3
            have nZ3 : Z ∉ ι3 := fun z => by
              rcases x3.fresh Z z with z2 | z2
              · exact nZ z2
              · rw [hz2] at z2; cases z2
            have hz3 := x3.frame Z _ hz2 nZ
            cases b with
            | false =>
              refine (iteF ?_ : if false = true then _ else _)
              exact ⟨M2, ι3, acc, x.trans (x2.trans x3), m3, hz3, nZ3, Nat.le_succ_of_le la, q'⟩
            | true =>
              refine (iteT ?_ : if true = true then _ else _)
              refine ⟨ρ1, M2, ι3, s3.ext x3, m3, ?_⟩
              have q2 : Good X.cx H1 ι1 (fun w _ H' ι' => ∀ v, RelD X.cx H' ι' w v → Q v H') (fun c d H' => Wx c d σ H') (accS acc ((noX (leafE f ρ1 M2)).bind fun y M2 => (lcD h t (leafE f) (wipeD ρ vs) (items.drop (i + 1)) M2).bind fun ys M3 => .ok (y :: ys) M3)) := q'
              cases e4 : f ρ1 M2 with
              | stuck =>
                have ef : leafE f ρ1 M2 = .stuck := by unfold leafE; rw [e4]; rfl
                rw [ef] at q2; exact q2.elim
              | exc c fs M4 =>
                have ef : leafE f ρ1 M2 = .exc c fs M4 := by unfold leafE; rw [e4]; rfl
                rw [ef] at q2; exact q2.elim
              | ok yd M4 =>
                by_cases hk : (leafOf yd).isSome = true
                · have ef : leafE f ρ1 M2 = .ok yd M4 := by unfold leafE; rw [e4, Res.bind_ok, if_pos hk]
                  rw [ef] at q2
                  obtain ⟨k, hk⟩ := Option.isSome_iff_exists.mp hk
                  intro H4 ι4 x4 m4 v rv
                  have nZ4 : Z ∉ ι4 := fun z => by
                    rcases x4.fresh Z z with z2 | z2
                    · exact nZ3 z2
                    · rw [hz3] at z2; cases z2
                  have hz4 := x4.frame Z _ hz3 nZ3
                  have ed : addL (dedupL acc) yd = dedupL (acc ++ [yd]) := by
                    unfold dedupL
                    rw [List.foldl_append]
                    rfl
                  have dl := dedup_len acc []
                  refine ⟨yd, k, dedupL acc, hk, fun u ru => leaf_is rv ru hk, hz4, ?_, M4, ι4, acc ++ [yd], (x.trans (x2.trans (x3.trans x4))).under hZ, m4.other nZ4 (fun _ _ e z => by have mu := mutS hz4; rw [z] at e; rw [e] at mu; exact mu) (fun _ _ r => r.sideM (mutS hz4)), by rw [upd_same, ed], nZ4, ?_, ?_⟩
                  · have e0 : ([] : List D).length = 0 := rfl
                    rw [e0] at dl
                    unfold dedupL
                    omega
                  · rw [List.length_append]; simp; omega
                  · have q3 : Good X.cx H1 ι1 (fun w _ H' ι' => ∀ v, RelD X.cx H' ι' w v → Q v H') (fun c d H' => Wx c d σ H') (accS acc ((lcD h t (leafE f) (wipeD ρ vs) (items.drop (i + 1)) M4).bind fun ys M3 => .ok (yd :: ys) M3)) := q2
                    revert q3
                    unfold accS
                    cases lcD h t (leafE f) (wipeD ρ vs) (items.drop (i + 1)) M4 with
                    | ok ys M5 =>
                      simp only [Res.bind_ok, List.append_assoc, List.singleton_append]
                      exact id
                    | exc c fs M5 => exact id
                    | stuck => exact id
                · have ef : leafE f ρ1 M2 = .stuck := by unfold leafE; rw [e4, Res.bind_ok, if_neg hk]
                  rw [ef] at q2; exact q2.elim
      · rintro H' ⟨M', ι', acc, x, m', hz, nZ, la, q'⟩
        rw [List.drop_length, lcD] at q'
        have q2 : Good X.cx H1 ι1 (fun w _ H' ι' => ∀ v, RelD X.cx H' ι' w v → Q v H') (fun c d H' => Wx c d σ H') (.ok (.set (dedupL (acc ++ []))) M') := q'
        rw [List.append_nil] at q2
        refine ⟨Z, _, rfl, hz, fun o so => ?_⟩
        exact q2 _ ι' (x.under hZ) (m'.other nZ (fun _ _ e z => by have mu := mutS hz; rw [z] at e; rw [e] at mu; exact mu) (fun _ _ r => r.sideM (mutS hz))) _ (.set ⟨o, _, upd_same, so⟩)
    · exact q.elim
section
variable {X : Cx} {tg iter elt : Expr} {ifs : List Expr} {f : Ev D} {t : Ev Bool} {src : Ev (List D)} {h : Tgt} {pos : Pos} {scope : Scope} {own : List (Str × Nat)} {us : List Nat}
theorem fe_sc (hc : X.calm = true) (hN : X.N.Nodup) (hi : FI X tg iter src) (ok : BlkOk X.N X.env.scope scope own) (hsub : ∀ i ∈ us, i ∈ own.map (·.2))
    (hg : ∀ (s : Shared) (H : Hp) (C : Addr) (cl : List (Str × Addr)) (fp : List Addr), FG (X.blk s H scope (compEnvC scope cl C X.env) fp) tg us h) (ht : ∀ (s : Shared) (H : Hp) (C : Addr) (cl : List (Str × Addr)) (fp : List Addr), FTs (X.blk s H scope (compEnvC scope cl C X.env) fp) ifs t)
    (he : ∀ (s : Shared) (H : Hp) (C : Addr) (cl : List (Str × Addr)) (fp : List Addr), FE (X.blk s H scope (compEnvC scope cl C X.env) fp) elt f) (hs : ∀ x, foldedSetIterable iter X.env x = pure x := by intro _; rfl) :
    FE X (.SetComp elt [⟨tg, iter, ifs, 0⟩] scope pos) (eSc src h t f (own.map (·.2))) :=
  ⟨fun Wx tk => PE.imp (PE.frzS (pe_set (g := TGd X.cx us h) (tt := TB X.cx (fun _ _ _ _ => False) t) (te := TD X.cx (fun _ _ _ _ => False) f) hc hN (hi.run Wx tk) ok (fun s H C cl fp => (hg s H C cl fp).run)
    (fun s H C cl fp => (ht s H C cl fp).run (fun _ _ _ _ => False) takes0) (fun s H C cl fp => (he s H C cl fp).run (fun _ _ _ _ => False) takes0) hs)) fun σ H Q q => sc_reads hsub q⟩
end
end FL

namespace FL
open PySem PySem.Spec PyProof.Rows L2

/-! ### the order of texts -/
def leS (a b : Str) : Bool := !ltCps b.cps.toList a.cps.toList
def insS (x : Str) : List Str → List Str
  | [] => [x]
  | y :: r => if leS x y = true then x :: y :: r else y :: insS x r
def sortS : List Str → List Str
  | [] => []
  | x :: r => insS x (sortS r)
theorem leS_iff (a b : Str) : leS a b = true ↔ a.cps.toList ≤ b.cps.toList := by
  unfold leS
  rw [ltCps_eq]
  simp
theorem leS_trans {a b c : Str} (h : leS a b = true) (h' : leS b c = true) : leS a c = true := by
  rw [leS_iff] at *
  exact List.le_trans h h'
theorem leS_total (a b : Str) : leS a b = true ∨ leS b a = true := by
  rw [leS_iff, leS_iff]
  exact List.le_total _ _
theorem leS_anti {a b : Str} (h : leS a b = true) (h' : leS b a = true) : a = b := by
  rw [leS_iff] at *
  have e := List.le_antisymm h h'
  obtain ⟨⟨x⟩⟩ := a
  obtain ⟨⟨y⟩⟩ := b
  have e' : x = y := e
  rw [e']
theorem insS_perm (x : Str) : ∀ l : List Str, (insS x l).Perm (x :: l)
  | [] => .refl _
  | y :: r => by
    unfold insS
    split
    · exact .refl _
    · exact ((insS_perm x r).cons y).trans (.swap x y r)
theorem sortS_perm : ∀ l : List Str, (sortS l).Perm l
  | [] => .refl _
  | x :: r => (insS_perm x (sortS r)).trans ((sortS_perm r).cons x)
theorem insS_pair (x : Str) : ∀ {l : List Str}, l.Pairwise (fun a b => leS a b = true) → (insS x l).Pairwise fun a b => leS a b = true
  | [], _ => by simp [insS]
  | y :: r, h => by
    rw [List.pairwise_cons] at h
    unfold insS
    split
    · rename_i hxy
      rw [List.pairwise_cons, List.pairwise_cons]
      exact ⟨fun z hz => by
        rcases List.mem_cons.mp hz with rfl | hz
        · exact hxy
        · exact leS_trans hxy (h.1 z hz), h⟩
    · rename_i hxy
      rw [List.pairwise_cons]
      refine ⟨fun z hz => ?_, insS_pair x h.2⟩
      rcases List.mem_cons.mp ((insS_perm x r).mem_iff.mp hz) with rfl | hz
      · exact (leS_total y z).resolve_right hxy
      · exact h.1 z hz
theorem sortS_pair : ∀ l : List Str, (sortS l).Pairwise fun a b => leS a b = true
  | [] => .nil
  | x :: r => insS_pair x (sortS_pair r)
theorem rising_pair : ∀ {l : List Str} {x : Str}, risingS x l = true → (x :: l).Pairwise fun a b => leS a b = true
  | [], x, _ => by simp
  | y :: r, x, h => by
    have h' : (!ltCps y.cps.toList x.cps.toList && risingS y r) = true := h
    rw [Bool.and_eq_true] at h'
    have p := rising_pair h'.2
    have hxy : leS x y = true := h'.1
    rw [List.pairwise_cons]
    refine ⟨fun z hz => ?_, p⟩
    rcases List.mem_cons.mp hz with rfl | hz
    · exact hxy
    · exact leS_trans hxy ((List.pairwise_cons.mp p).1 z hz)
theorem sorted_pair {l : List Str} (h : sortedS l = true) : l.Pairwise fun a b => leS a b = true := by
  cases l with
  | nil => exact .nil
  | cons x r => exact rising_pair h
theorem sorted_is {ys ks : List Str} (p : ys.Perm ks) (h : sortedS ys = true) : ys = sortS ks :=
  List.Perm.eq_of_pairwise (le := fun a b => leS a b = true) (fun _ _ _ _ => leS_anti) (sorted_pair h) (sortS_pair ks) (p.trans (sortS_perm ks).symm)

/-! ### sorted(d), d a dict with texts for keys -/
section
variable {X : Cx}
def rSortD (X : Cx) : List V → Hp → VK → Prop := fun xs H Q => ∃ (a : Addr) (es : List DictEntry) (vs : List (Leaf × Value)) (ks : List Str), xs = [.ref a] ∧ DctF X.cx H a es vs ∧ vs.map (·.1) = ks.map Leaf.text ∧ ks.length < 64 ∧
  ∀ p, H p = none → Q (.ref p) (upd H p (.lst ((sortS ks).map V.str)))
theorem call_sortDct (hcalm : X.calm = true) : CallR X (.builtin "sorted") (rSortD X) := by
  intro pins s σ H xs us Q I r q
  obtain ⟨a, es, vs, ks, rfl, hD, hkeys, h64, q⟩ := q
  obtain ⟨u, rfl, rx⟩ := vals1 r
  cases rx
  obtain ⟨lo, dd, h16⟩ := dct_at (ι := []) I hD
  obtain ⟨ep, hat⟩ := dd.dictAt
  have hl : vs.length = ks.length := by
    have e := congrArg List.length hkeys
    rwa [List.length_map, List.length_map] at e
  refine Calls.call_function_entry PyProof.Rows.kind_sorted PyProof.Rows.plain_sorted PyProof.Rows.entry_sorted (PyProof.Rows.args_sorted1 _) ?_
  unfold Builtin.«sorted»
  refine wpAny_bind (m := checkCount "sorted" 1 1 _) (wpAny_pure ?_)
  refine wpAny_bind (PySem.W.kdu_collect (A := X.A.in1) (PySem.W.kdl_dict (knd := leafKind X.prog X.w) (kvs := vs) (ep := ep) lo) (I.ok.hd hcalm) hat h16 fun h' tk acc keep inAcc => ?_)
  have accLen : acc.toList.length = ks.length := by rw [Array.length_toList, inAcc.1, hl]
  have texts : StrsAre acc.toList ks := strs_at accLen fun j v e => by
    obtain ⟨k, x, e1, e2⟩ := inAcc.2 j v (by rw [← Array.getElem?_toList]; exact e)
    have e3 : (vs.map (·.1))[j]? = some k := by rw [List.getElem?_map, e1]; rfl
    rw [hkeys, List.getElem?_map] at e3
    cases e4 : ks[j]? with
    | none => rw [e4] at e3; cases e3
    | some y =>
      rw [e4] at e3
      have e5 : Leaf.text y = k := Option.some.inj e3
      subst e5
      obtain ⟨t, ev⟩ := Value.isStrOf_shape (x := y) (v := v) e2
      exact ⟨y, t, rfl, ev⟩
  have J : Inv X pins σ H { s with heap := h', toks := tk } := I.kept keep
  refine wpAny_bind (wpAny_newList ?_ (by rw [accLen, sizeLine_eq]; omega))
  have there : (h'.push (seqObj "list" acc.toList.toArray 0)).get? h'.objs.size = some (seqObj "list" acc.toList.toArray 0) := Heap.get?_push_size _ rfl
  show wpAny _ _ _ _ _ { s with heap := h'.push (seqObj "list" acc.toList.toArray 0), toks := tk }
  refine wpAny_bind (wpAny_holding (wpAny_call_entry PyProof.Rows.slot_list_sort ⟨_, there, rfl⟩ PyProof.Rows.entry_list_sort
    (list_sort_treeK strKind_oneLt (s := { s with heap := h'.push (seqObj "list" acc.toList.toArray 0), toks := tk }) there texts.keysOf (fun v₁ v₂ rest e => keyKind_strs (by rw [← e]; exact texts)) (by rw [accLen]; exact h64) fun st' hp hs => ⟨_, rfl, ?_⟩)
    (PyProof.Rows.args_list_sort _)))
  obtain ⟨ys, g1, g2, g3⟩ := sorted_out_str texts hp hs
  have ey := sorted_is g2 g3
  subst ey
  obtain ⟨e', he'⟩ := PyProof.Rows.sortedHeap_at (vs := acc.toList) (out := (arrOf st').map (·.2)) there
  have hlen : ((sortS ks).map V.str).length ≤ sizeLine := by
    rw [List.length_map, g2.length_eq]
    exact Nat.le_trans (Nat.le_of_lt h64) (by decide)
  refine wpAny_pure ⟨_, rfl, .ref h'.objs.size, upd H h'.objs.size (.lst ((sortS ks).map V.str)), J.laid (t' := tk) (fun b u e => ?_) (Nat.le_refl _)
    (show ObjOk X.prog X.w _ _ _ (.lst ((sortS ks).map V.str)) from ⟨hlen, ((arrOf st').map (·.2)).toList, e', vals_of_strs g1, by rw [Array.toArray_toList]; exact he'⟩), rfl, q _ (J.hok.fresh (Nat.le_refl _))⟩
  have hb : b < h'.objs.size := Heap.lt_size e
  rw [PyProof.Rows.sortedHeap_old (Nat.ne_of_lt hb) (by rw [size_push']; exact Nat.lt_succ_of_lt hb)]
  exact Heap.get?_push_of_some _ e
def textsOf : List (D × D) → Option (List Str)
  | [] => some []
  | (.str x, _) :: r => (textsOf r).map (x :: ·)
  | _ :: _ => none
theorem textsOf_leaf : ∀ {kvs : List (D × D)} {ks : List Str}, textsOf kvs = some ks → kvs.map (fun p => leafOf p.1) = ks.map fun x => some (Leaf.text x)
  | [], ks, h => by cases h; rfl
  | (k, w) :: r, ks, h => by
    unfold textsOf at h
    split at h
    · rename_i e; cases e
    · rename_i x y z e
      obtain ⟨e1, e2⟩ := List.cons.inj e
      cases e1
      subst e2
      cases e3 : textsOf r with
      | none => rw [e3] at h; cases h
      | some ys =>
        rw [e3] at h
        cases h
        rw [List.map_cons, List.map_cons, textsOf_leaf e3]
        rfl
    · cases h
/-- sorted(x): a closed list -/
def gSorted : GN := fun ws M => match ws with
  | [.dct kvs] => match textsOf kvs with
    | some ks => if ks.length < 64 then .ok (.lst ((sortS ks).map D.str)) M else .stuck
    | none => .stuck
  | _ => .stuck
theorem strs_relD {K : Ctx} {H : Hp} {ι : List Addr} : ∀ xs : List Str, RelDs K H ι (xs.map D.str) (xs.map V.str)
  | [] => .nil
  | x :: r => .cons (.str x) (strs_relD r)
theorem cd_sorted (hc : X.calm = true) : CallD X (.builtin "sorted") gSorted := by
  intro pins s σ H vs us Q I rv h
  obtain ⟨ws, M, ι, m, r, g⟩ := h
  refine (CallR.frz (call_sortDct hc)) pins s σ H vs us Q I rv ?_
  unfold gSorted at g
  split at g
  · rename_i kvs
    split at g
    · rename_i ks hk
      split at g
      · rename_i h64
        obtain ⟨v, rfl, r1⟩ := r.one
        cases r1 with
        | dct hD hE hl =>
          refine ⟨_, _, _, ks, rfl, hD, ?_, h64, fun p hp => frz_new m (strs_relD _) g hp⟩
          rw [textsOf_leaf hk] at hl
          have inj : ∀ {as bs : List Leaf}, as.map some = bs.map some → as = bs := fun {as bs} z => by
            have := congrArg (List.filterMap id) z
            simpa using this
          refine inj ?_
          rw [List.map_map, List.map_map]
          exact hl.symm
      · exact g.elim
    · exact g.elim
  · exact g.elim
end
theorem bt_sorted : bootBuiltins "sorted" = some (.builtin "sorted") := by decide +kernel
end FL

namespace FL
open PySem PySem.Spec PyProof.Rows L2

/-! ### the module's own dicts and tuples: texts, ints -/
/-- a value of the top is the tree -/
inductive IsD : D → Value → Prop
  | non : IsD .non .none
  | bl (b : Bool) : IsD (.bl b) (.bool b)
  | int (i : Int) (t : Tok) : IsD (.int i) (.int i t)
  | str (x : Str) (t : Tok) : IsD (.str x) (.str x t)
theorem IsD.rel {w : D} {u : Value} (h : IsD w u) : ∃ v, RelV v u ∧ ∀ (K : Ctx) (H : Hp) (ι : List Addr), RelD K H ι w v := by
  cases h with
  | non => exact ⟨.non, rfl, fun _ _ _ => .non⟩
  | bl b => exact ⟨.bl b, rfl, fun _ _ _ => .bl b⟩
  | int i t => exact ⟨.int i, ⟨t, rfl⟩, fun _ _ _ => .int i⟩
  | str x t => exact ⟨.str x, ⟨t, rfl⟩, fun _ _ _ => .str x⟩
inductive AreD : List D → List Value → Prop
  | nil : AreD [] []
  | cons {w : D} {u : Value} {ws : List D} {us : List Value} : IsD w u → AreD ws us → AreD (w :: ws) (u :: us)
theorem AreD.rel : ∀ {ws : List D} {us : List Value}, AreD ws us → ∃ vs, Vals vs us ∧ ∀ (K : Ctx) (H : Hp) (ι : List Addr), RelDs K H ι ws vs
  | _, _, .nil => ⟨[], .nil, fun _ _ _ => .nil⟩
  | _, _, .cons h r => by
    obtain ⟨v, h1, h2⟩ := h.rel
    obtain ⟨vs, h3, h4⟩ := r.rel
    exact ⟨v :: vs, .cons h1 h3, fun K H ι => .cons (h2 K H ι) (h4 K H ι)⟩
inductive EntsD (w : World) : List (D × D) → List DictEntry → Prop
  | nil : EntsD w [] []
  | cons {x : Str} {t : Tok} {hh : Int} {d : D} {u : Value} {kvs : List (D × D)} {es : List DictEntry} : hh = hashStr w x → IsD d u → EntsD w kvs es → EntsD w ((.str x, d) :: kvs) (⟨hh, .str x t, u⟩ :: es)
def keyTexts : List (D × D) → List Str
  | [] => []
  | (.str x, _) :: r => x :: keyTexts r
  | _ :: r => keyTexts r
theorem EntsD.out {P : Program} {w : World} : ∀ {kvs : List (D × D)} {es : List DictEntry}, EntsD w kvs es → ∃ vs : List (Leaf × Value), Pairs (leafKind P w) es vs ∧ KeysOf (leafKind P w) es.toArray ∧ vs.map (·.1) = (keyTexts kvs).map Leaf.text ∧ kvs.map (fun p => leafOf p.1) = vs.map (fun p => some p.1) ∧
    ∀ (K : Ctx) (H : Hp) (ι : List Addr), RelE K H ι kvs es
  | _, _, .nil => ⟨[], .nil, fun e z => by simp at z, rfl, rfl, fun _ _ _ => .nil⟩
  | _, _, .cons (x := x) (t := t) (u := u) hh hd r => by
    obtain ⟨vs, h1, h2, h3, h4, h5⟩ := r.out (P := P)
    obtain ⟨v, q1, q2⟩ := hd.rel
    have is : (leafKind P w).is (.text x) (.str x t) = true := by
      show (x == x) = true
      simp
    refine ⟨(.text x, u) :: vs, .cons is rfl h1, ?_, by rw [List.map_cons, h3]; rfl, by rw [List.map_cons, List.map_cons, h4]; rfl, fun K H ι => .cons (.str x) ⟨t, rfl⟩ (q2 K H ι) q1 (h5 K H ι)⟩
    intro e he
    rcases List.mem_cons.mp (by simpa using he) with e1 | e1
    · subst e1
      exact ⟨.text x, is, hh⟩
    · exact h2 e (by simpa using e1)
theorem GlobD.dctK {P : Program} {w : World} {K : Frg} {mg : Str → Option Value} {x : Str} {a : Addr} {es : List DictEntry} {n : Nat} {kvs : List (D × D)} (h : mg x = some (.ref a)) (hl : K.lookup a = some ⟨.type "dict", none, .dict es.toArray n, #[]⟩) (ne : a ≠ sysModules)
    (he : EntsD w kvs es) (nd : (keyTexts kvs).Nodup) (hz : es.length ≤ 1000) : GlobD ⟨P, w, K⟩ mg x (.dct kvs) := by
  obtain ⟨vs, h1, h2, h3, h4, h5⟩ := he.out (P := P)
  refine ⟨.ref a, .ref a, h, rfl, fun H ι => .dct ⟨ne, _, .inr hl, n, ⟨rfl, rfl, rfl⟩, rfl, Nat.le_trans hz (by decide), h2, h1, ?_⟩ (h5 _ _ _) h4⟩
  rw [h3]
  exact List.Pairwise.map Leaf.text (fun a b hab z => hab (by injection z)) nd
theorem GlobD.tupK {P : Program} {w : World} {K : Frg} {mg : Str → Option Value} {x : Str} {a : Addr} {us : List Value} {n : Nat} {ws : List D} (h : mg x = some (.ref a)) (hl : K.lookup a = some ⟨.type "tuple", none, .seq us.toArray n, #[]⟩) (he : AreD ws us) (hz : us.length ≤ 1000) : GlobD ⟨P, w, K⟩ mg x (.tup ws) := by
  obtain ⟨vs, h1, h2⟩ := he.rel
  exact ⟨.ref a, .ref a, h, rfl, fun H ι => .tup (.inr ⟨_, us.toArray, n, hl, rfl, rfl, by rw [List.size_toArray]; exact Nat.le_trans hz (by decide), by simpa using h1⟩) (h2 _ _ _)⟩
end FL

namespace FL
open PySem L2
/-! ### what laws share: cuts, dice, drawn lists -/
theorem signs_len {x : Str} : (signs x).length = x.length := by
  unfold signs
  rw [List.length_map, Array.length_toList]
  rfl
theorem len_bl {x : Str} {b : Bool} : (decide (1 ≤ x.length) && decide (x.length ≤ 8) && b) = if x.length < 1 then false else if 8 < x.length then false else b := by
  split
  · rename_i h
    have a1 : ¬ 1 ≤ x.length := by omega
    simp [a1]
  · split
    · rename_i h
      have a1 : ¬ x.length ≤ 8 := by omega
      simp [a1]
    · rename_i h1 h2
      have a1 : x.length ≤ 8 := by omega
      have a2 : 1 ≤ x.length := by omega
      simp [a1, a2]
/-- a list of things is the empty list -/
theorem eq_nil {M : MH} {ws : List D} : gEq (.lst ws) (.lst []) M = .ok (.bl (decide (ws = []))) M := by
  cases ws with
  | nil => rfl
  | cons w r => rfl
theorem filter_nil {α : Type} {p q : α → Bool} {ws : List α} (h : ∀ w ∈ ws, p w = !q w) : (decide (ws.filter p = [])) = ws.all q := by
  rw [Bool.eq_iff_iff, decide_eq_true_eq, List.filter_eq_nil_iff, List.all_eq_true]
  constructor
  · intro z w hw
    have := z w hw
    rw [h w hw] at this
    simpa using this
  · intro z w hw
    rw [h w hw, z w hw]
    simp
theorem lst_nil {M : MH} {ρ : DSt} : (eLst eNil) ρ M = .ok (.lst []) M := rfl
theorem len_bl2 {n m : Nat} {b : Bool} : (decide (1 ≤ n) && decide (n ≤ m) && b) = if n < 1 then false else if m < n then false else b := by
  split
  · rename_i h
    have a1 : ¬ 1 ≤ n := by omega
    simp [a1]
  · split
    · rename_i h
      have a1 : ¬ n ≤ m := by omega
      simp [a1]
    · rename_i h1 h2
      have a1 : n ≤ m := by omega
      have a2 : 1 ≤ n := by omega
      simp [a1, a2]
theorem len_txts : ∀ ws : List D, ws.length ≤ txts ws
  | [] => Nat.zero_le _
  | w :: r => by
    have := len_txts r
    rw [List.length_cons, txts]
    omega
/-- at the end a gap is allowed, behind another entry -/
def isGap : D → Bool
  | .non => true
  | _ => false
theorem cut_init {ws : List D} (h : 1 ≤ ws.length) : cutD ws none (some (-1)) = ws.dropLast := by
  unfold cutD
  rw [HT.sIx_none]
  have e : HT.sIx ws.length ws.length (some (-1)) = ws.length - 1 := by
    show (if (-1 : Int) < 0 then ((-1 : Int) + (ws.length : Int)).toNat else min (-1 : Int).toNat ws.length) = ws.length - 1
    rw [if_pos (by decide)]
    omega
  rw [e, List.drop_zero, Nat.sub_zero, List.dropLast_eq_take]
theorem at_last {ws : List D} {w : D} (h : ws.getLast? = some w) : atI ws (-1) = some w := by
  obtain ⟨r, rfl⟩ : ∃ r, ws = r ++ [w] := List.getLast?_eq_some_iff.mp h
  exact atI_last _ _
theorem isN_plain {w : D} {M : MH} (hw : plainD w = true) : gIsN false w .non M = .ok (.bl (isGap w)) M := by
  cases w with
  | ob n => cases hw
  | _ => rfl
structure St (n k : Nat) (M : MH) : Prop where
  clean : Clean M
  dice : ∃ a b c : Int, M[n]? = some (.lst [.int a, .int b, .int c]) ∧ 0 ≤ b ∧ b < 2 ^ 100 ∧ 0 ≤ c ∧ c ≤ k
structure Fr (n : Nat) (M M' : MH) : Prop where
  len : M'.length = M.length
  off : ∀ j, j ≠ n → M'[j]? = M[j]?
theorem Fr.refl {n : Nat} {M : MH} : Fr n M M := ⟨rfl, fun _ _ => rfl⟩
theorem Fr.trans {n : Nat} {M M1 M2 : MH} (a : Fr n M M1) (b : Fr n M1 M2) : Fr n M M2 := ⟨b.len.trans a.len, fun j h => (b.off j h).trans (a.off j h)⟩
theorem clean_set {n : Nat} {M : MH} {ws : List D} (h : Clean M) (hw : belows M.length ws = true) : Clean (M.set n (.lst ws)) := by
  unfold Clean at h ⊢
  rw [List.length_set, List.all_eq_true]
  intro o ho
  rcases List.mem_or_eq_of_mem_set ho with ho | rfl
  · exact List.all_eq_true.mp h o ho
  · exact hw
theorem fr_set {n : Nat} {M : MH} {o : MO} : Fr n M (M.set n o) := ⟨List.length_set .., fun j h => List.getElem?_set_ne (Ne.symm h)⟩
theorem get_set {n : Nat} {M : MH} {o o' : MO} (h : M[n]? = some o') : (M.set n o)[n]? = some o := List.getElem?_set_self (List.getElem?_eq_some_iff.mp h).1
theorem log2_le {a : Int} {k : Nat} (h0 : 0 ≤ a) (h : a < 2 ^ k) : a.natAbs.log2 ≤ k := by
  have h1 : a.natAbs < 2 ^ k := by
    have e : ((a.natAbs : Nat) : Int) = a := Int.natAbs_of_nonneg h0
    have : ((a.natAbs : Nat) : Int) < ((2 ^ k : Nat) : Int) := by rw [e]; push_cast; exact h
    exact_mod_cast this
  by_cases hz : a.natAbs = 0
  · rw [hz]; exact Nat.zero_le _
  · exact Nat.le_of_lt ((Nat.log2_lt hz).mpr h1)
theorem St.le {n k k' : Nat} {M : MH} (s : St n k M) (h : k ≤ k') : St n k' M := by
  obtain ⟨c, a, b, c', h1, h2, h3, h4, h5⟩ := s
  exact ⟨c, a, b, c', h1, h2, h3, h4, by omega⟩
theorem Fr.length {n : Nat} {M M' : MH} (f : Fr n M M') : M'.length = M.length := f.len
theorem len_pos_int {α : Type} {ws : List α} (h : ws ≠ []) : (0 : Int) < ws.length := by
  have := List.length_pos_iff.mpr h
  omega
theorem atI_some {α : Type} {ws : List α} {r : Int} (h0 : 0 ≤ r) (h1 : r < ws.length) : ∃ w, atI ws r = some w ∧ w ∈ ws := by
  have e : ((r.toNat : Nat) : Int) = r := Int.toNat_of_nonneg h0
  have hl : r.toNat < ws.length := by omega
  refine ⟨ws[r.toNat], ?_, List.getElem_mem hl⟩
  have q := atI_nat (List.getElem?_eq_getElem hl)
  rwa [e] at q
theorem one_plain {c : Nat} (h : c < 16 ^ 8) : plainD (.str ⟨#[c]⟩) = true := by
  show (([c] : List Nat).all fun c => decide (c < 16 ^ 8)) = true
  simp [h]
/-- drawn one after another -/
theorem draws {n k c lots i : Nat} {M : MH} {R : D → Prop} {f : Ev D} {ρ0 : DSt} (s : St n k M)
    (step : ∀ (j : Int) (k' : Nat) (M' : MH), k' ≤ k + c * lots → St n k' M' → Fr n M M' → ∃ y M'', f (ρ0.set i (some (.int j))) M' = .ok y M'' ∧ R y ∧ St n (k' + c) M'' ∧ Fr n M' M'') :
    ∃ ys M', lcD (tgName i) eYes f ρ0 (rangeD 0 lots) M = .ok ys M' ∧ ys.length = lots ∧ (∀ y ∈ ys, R y) ∧ St n (k + c * lots) M' ∧ Fr n M M' := by
  have h := lcD_inv (h := tgName i) (f := f) (ρ0 := ρ0) (P := fun acc items M' => acc.length + items.length = lots ∧ St n (k + c * acc.length) M' ∧ Fr n M M' ∧ (∀ y ∈ acc, R y) ∧ ∀ w ∈ items, ∃ j, w = D.int j) (by
    rintro acc w r M' ⟨h1, h2, h3, h4, h5⟩
    obtain ⟨j, rfl⟩ := h5 w (by simp)
    rw [List.length_cons] at h1
    obtain ⟨y, M'', e, hy, s2, f2⟩ := step j _ M' (by
      have : c * acc.length ≤ c * lots := Nat.mul_le_mul (Nat.le_refl _) (by omega)
      omega) h2 h3
    refine ⟨_, rfl, y, M'', e, by simp; omega, ?_, h3.trans f2, ?_, fun w hw => h5 w (by simp [hw])⟩
    · rw [List.length_append, List.length_singleton, Nat.mul_add]
      exact s2.le (by omega)
    · intro z hz
      rcases List.mem_append.mp hz with hz | hz
      · exact h4 z hz
      · rw [List.mem_singleton] at hz
        subst hz
        exact hy) (rangeD 0 lots) [] M ⟨by simp [rangeD], s, Fr.refl, by simp, by
      intro w hw
      obtain ⟨i, _, rfl⟩ := List.mem_map.mp hw
      exact ⟨_, rfl⟩⟩
  obtain ⟨ys, M2, e, h1, h2, h3, h4, _⟩ := h
  simp at h1
  refine ⟨ys, M2, e, h1, h4, ?_, h3⟩
  simp [h1] at h2
  exact h2
theorem lc_range {f0 f : Ev D} {h : Tgt} {t : Ev Bool} {vs : List Nat} {ρ : DSt} {M M1 : MH} {m : Int} (hf : f0 ρ M = .ok (.int m) M1) (h0 : 0 ≤ m) (h1 : m ≤ 1000000) :
    eLc (eRange1 (eCons f0 eNil)) h t f vs ρ M = (lcD h t f (wipeD ρ vs) (rangeD 0 m.toNat) M1).bind fun ys M2 => .ok (.lst ys) M2 := by
  unfold eLc
  have z : 16777216 ≤ sizeLine := by decide
  have hr : eRange1 (eCons f0 eNil) ρ M = .ok (rangeD 0 m.toNat) M1 := by
    unfold eRange1
    simp [hf]
    unfold gRange1
    dsimp only
    rw [if_pos (by omega)]
  rw [hr, Res.bind_ok, if_pos (by
    unfold rangeD
    rw [List.length_map, List.length_range]
    omega)]
theorem strs_of {ys : List D} (h : ∀ y ∈ ys, ∃ x : Str, y = .str x ∧ plainD (.str x) = true ∧ x.length = 1) : ∃ xs : List Str, ys = xs.map D.str ∧ ∀ x ∈ xs, plainD (.str x) = true ∧ x.length = 1 := by
  induction ys with
  | nil => exact ⟨[], rfl, by simp⟩
  | cons y r ih =>
    obtain ⟨x, rfl, h1, h2⟩ := h y (by simp)
    obtain ⟨xs, rfl, h3⟩ := ih fun z hz => h z (by simp [hz])
    refine ⟨x :: xs, rfl, ?_⟩
    intro z hz
    rcases List.mem_cons.mp hz with rfl | hz
    · exact ⟨h1, h2⟩
    · exact h3 z hz
theorem sum_ones {xs : List Str} (h : ∀ x ∈ xs, x.length = 1) : (xs.map (·.length)).sum = xs.length := by
  induction xs with
  | nil => rfl
  | cons x r ih =>
    rw [List.map_cons, List.sum_cons, h x (by simp), ih fun z hz => h z (by simp [hz]), List.length_cons]
    omega
structure Gr (n : Nat) (M M' : MH) : Prop where
  len : M.length ≤ M'.length
  off : ∀ j, j ≠ n → j < M.length → M'[j]? = M[j]?
theorem Gr.refl {n : Nat} {M : MH} : Gr n M M := ⟨Nat.le_refl _, fun _ _ _ => rfl⟩
theorem Gr.fr {n : Nat} {M M1 M2 : MH} (a : Gr n M M1) (b : Fr n M1 M2) : Gr n M M2 := ⟨by rw [b.len]; exact a.len, fun j h1 h2 => (b.off j h1).trans (a.off j h1 h2)⟩
theorem Gr.add {n : Nat} {M M1 : MH} {o : MO} (a : Gr n M M1) : Gr n M (M1 ++ [o]) := ⟨by have := a.len; simp; omega, fun j h1 h2 => by
  have := a.len
  rw [List.getElem?_append_left (by omega)]
  exact a.off j h1 h2⟩
theorem Gr.put {n m : Nat} {M M1 : MH} {o : MO} (a : Gr n M M1) (h : M.length ≤ m) : Gr n M (M1.set m o) := ⟨by rw [List.length_set]; exact a.len, fun j h1 h2 => by
  rw [List.getElem?_set_ne (by omega)]
  exact a.off j h1 h2⟩
theorem St.lt {n k : Nat} {M : MH} (s : St n k M) : n < M.length := by
  obtain ⟨_, a, b, c, h, _⟩ := s
  exact (List.getElem?_eq_some_iff.mp h).1
theorem St.add {n k : Nat} {M : MH} {o : MO} (s : St n k M) (h : belowO (M.length + 1) o = true) : St n k (M ++ [o]) := by
  have hl := s.lt
  obtain ⟨hc, a, b, c, h1, h2⟩ := s
  exact ⟨clean_add hc h, a, b, c, by rw [List.getElem?_append_left hl]; exact h1, h2⟩
theorem St.put {n k m : Nat} {M : MH} {o : MO} (s : St n k M) (hm : m ≠ n) (h : belowO M.length o = true) : St n k (M.set m o) := by
  obtain ⟨hc, a, b, c, h1, h2⟩ := s
  exact ⟨clean_put hc h, a, b, c, by rw [List.getElem?_set_ne hm]; exact h1, h2⟩
theorem cut_clean {n k : Nat} {M M' : MH} (hM : Clean M) (s : St n k M') (g : Gr n M M') (hn : n < M.length) : ((M'.take M.length).all (belowO M.length)) = true ∧ St n k (M'.take M.length) := by
  have hl := g.len
  obtain ⟨hc, a, b, c, h1, h2⟩ := s
  have hall : ((M'.take M.length).all (belowO M.length)) = true := by
    rw [List.all_eq_true]
    intro x hx
    obtain ⟨j, hj⟩ := List.getElem?_of_mem hx
    have hjl : j < (M'.take M.length).length := (List.getElem?_eq_some_iff.mp hj).1
    rw [List.length_take] at hjl
    have hj2 : M'[j]? = some x := by
      rw [← hj, List.getElem?_take, if_pos (by omega)]
    by_cases e : j = n
    · subst e
      rw [h1] at hj2
      cases hj2
      rfl
    · rw [g.off j e (by omega)] at hj2
      exact List.all_eq_true.mp hM x (List.mem_of_getElem? hj2)
  refine ⟨hall, ?_, a, b, c, ?_, h2⟩
  · unfold Clean
    rw [List.length_take, Nat.min_eq_left hl]
    exact hall
  · rw [List.getElem?_take, if_pos hn, h1]
theorem gcD_cut {φ : List D → MH → Res D} {ws : List D} {M M' : MH} {w : D} (h : φ ws M = .ok w M') (hw : below M.length w = true) (hM : ((M'.take M.length).all (belowO M.length)) = true) : gcD φ ws M = .ok w (M'.take M.length) := by
  unfold gcD
  rw [h]
  show (if below M.length w = true ∧ ((M'.take M.length).all (belowO M.length)) = true then Res.ok w (M'.take M.length) else .stuck) = _
  rw [if_pos ⟨hw, hM⟩]
theorem gAbs_int {a : Int} {M : MH} : gAbs [.int a] M = .ok (.int (if a < 0 then -a else a)) M := rfl
theorem lc_ok {src : Ev (List D)} {h : Tgt} {t : Ev Bool} {f : Ev D} {vs : List Nat} {ρ : DSt} {M M1 M2 : MH} {items ys : List D} (e1 : src ρ M = .ok items M1) (hl : items.length ≤ sizeLine) (e2 : lcD h t f (wipeD ρ vs) items M1 = .ok ys M2) : eLc src h t f vs ρ M = .ok (.lst ys) M2 := by
  unfold eLc
  rw [e1, Res.bind_ok, if_pos hl, e2]
  rfl
theorem fin_step {g1 g2 : Es} {ρ : DSt} {M : MH} (ρ1 : DSt) (M1 : MH) {r : Res D} (h : g1 ρ M = .nx ρ1 M1) (h2 : (g2 ρ1 M1).fin = r) : (sSeq g1 g2 ρ M).fin = r := by
  rw [run_sSeq, h]
  exact h2
end FL

namespace FL
open PySem PySem.Spec PyProof.Rows L2
section
variable {K : Ctx} {H : Hp} {ι ι' : List Addr}
mutual
theorem RelD.widen (p : ι <+: ι') : ∀ {w : D} {v : V}, RelD K H ι w v → RelD K H ι' w v
  | _, _, .non => .non
  | _, _, .bl b => .bl b
  | _, _, .int b => .int b
  | _, _, .str b => .str b
  | _, _, .ty b => .ty b
  | _, _, .glb b => .glb b
  | _, _, .tup h r => .tup h (RelDs.widen p r)
  | _, _, .lst h r => .lst h (RelDs.widen p r)
  | _, _, .dct h r z => .dct h (RelE.widen p r) z
  | _, _, .set h => .set h
  | _, _, .ob h => .ob (pre_get p h)
theorem RelDs.widen (p : ι <+: ι') : ∀ {w : List D} {v : List V}, RelDs K H ι w v → RelDs K H ι' w v
  | _, _, .nil => .nil
  | _, _, .cons h r => .cons (RelD.widen p h) (RelDs.widen p r)
theorem RelE.widen (p : ι <+: ι') : ∀ {w : List (D × D)} {v : List DictEntry}, RelE K H ι w v → RelE K H ι' w v
  | _, _, .nil => .nil
  | _, _, .cons h1 h2 h3 h4 r => .cons (RelD.widen p h1) h2 (RelD.widen p h3) h4 (RelE.widen p r)
end
/-- a list that stands is taken in as a thing that may change -/
theorem MemD.adopt {M : MH} {a : Addr} {ws : List D} {vs : List V} (m : MemD K H ι M) (ha : H a = some (.lst vs)) (na : a ∉ ι) (r : RelDs K H ι ws vs) : MemD K H (ι ++ [a]) (M ++ [.lst ws]) := by
  have p : ι <+: ι ++ [a] := List.prefix_append _ _
  refine ⟨by simp [m.len], ?_, fun k mo b h1 h2 => ?_, fun k b h => ?_⟩
  · rw [List.nodup_append]
    exact ⟨m.nd, by simp, fun b hb c hc z => na (by
      have e : c = a := by simpa using hc
      rw [← e, ← z]
      exact hb)⟩
  · by_cases e : k < M.length
    · rw [List.getElem?_append_left e] at h1
      rw [List.getElem?_append_left (by rw [m.len]; exact e)] at h2
      have q := m.obj k mo b h1 h2
      cases mo with
      | lst ws => obtain ⟨vs, h, r⟩ := q; exact ⟨vs, h, r.widen p⟩
      | dct kvs => exact q.elim
      | ins C fs => obtain ⟨dx, vs, h, r⟩ := q; exact ⟨dx, vs, h, r.widen p⟩
      | exc C fs => obtain ⟨d, vs, ⟨C', hC, h⟩, z, r⟩ := q; exact ⟨d, vs, ⟨C', hC, h⟩, z.go fun d' r n => ⟨r, fun z => by
          rcases List.mem_append.mp z with z | z
          · exact n z
          · have e : d' = a := by simpa using z
            rw [e, ha] at r; cases r⟩, r.widen p⟩
      | dead => trivial
    · have hk : k = M.length := by
        have := (List.getElem?_eq_some_iff.mp h1).1
        simp at this; omega
      subst hk
      rw [← m.len, List.getElem?_concat_length] at h2
      cases h2
      rw [List.getElem?_concat_length] at h1
      cases h1
      exact ⟨vs, ha, r.widen p⟩
  · by_cases e : k < ι.length
    · rw [List.getElem?_append_left e] at h
      exact m.there k b h
    · have hk : k = ι.length := by
        have := (List.getElem?_eq_some_iff.mp h).1
        simp at this; omega
      subst hk
      rw [List.getElem?_concat_length] at h
      cases h
      exact ⟨_, ha⟩
theorem Ext.adopt {H0 : Hp} {ι0 : List Addr} {a : Addr} (x : Ext H0 ι0 H ι) (h0 : H0 a = none) : Ext H0 ι0 H (ι ++ [a]) :=
  ⟨x.pre.trans (List.prefix_append _ _), fun b hb => by
    rcases List.mem_append.mp hb with hb | hb
    · exact x.fresh b hb
    · have e : b = a := by simpa using hb
      exact .inr (e ▸ h0), x.frame, x.tups, x.frzs⟩
end
end FL

namespace FL
open PySem PySem.Spec PyProof.Rows L2
/-- a comprehension's list, as a thing that may change -/
def eLcM (src : Ev (List D)) (h : Tgt) (t : Ev Bool) (f : Ev D) (vs : List Nat) : Ev D := fun ρ M => (src ρ M).bind fun items M1 => if items.length ≤ sizeLine then (lcD h t f (wipeD ρ vs) items M1).bind fun ys M2 => .ok (.ob M2.length) (M2 ++ [.lst ys]) else .stuck
def accM (acc : List D) (r : Res (List D)) : Res D := r.bind fun ys M => .ok (.ob M.length) (M ++ [.lst (acc ++ ys)])
theorem lc_readsM {X : Cx} {us vs : List Nat} {src : Ev (List D)} {h : Tgt} {t : Ev Bool} {f : Ev D} {Wx : WX} {σ : L2.St} {H : Hp} {Q Z : VK} (hsub : ∀ i ∈ us, i ∈ vs) (hh : TD X.cx Wx (eLcM src h t f vs) σ H Q) (iz : ∀ v H', Q v H' → Z v H') :
    tLc (TI' X.cx Wx src) (TGd X.cx us h) (TB X.cx (fun _ _ _ _ => False) t) (TD X.cx (fun _ _ _ _ => False) f) vs σ H Z := by
    obtain ⟨ρ, M, ι, hS, hM, q⟩ := hh
    refine ⟨ρ, M, ι, hS, hM, ?_⟩
    unfold eLcM at q
    cases e : src ρ M with
    | stuck => rw [e] at q; exact q.elim
    | exc c fs M1 => rw [e] at q; exact q
    | ok items M1 =>
      rw [e, Res.bind_ok] at q
      split at q
      · rename_i hlen
        intro H1 ι1 x1 m1 J wd Dl hD
        obtain ⟨G, Y, wk, hG, hY⟩ := wd
        have s1 : RelS X.cx H1 ι1 (L2.wipe σ vs) (wipeD ρ vs) := (hS.ext x1).wipe _
        have q1 := Good.ext x1 q
        refine lc_it (Qd := fun H' => Z (.ref Dl) H') wk (fun i H' => ∃ (M' : MH) (ι' : List Addr) (acc : List D) (av : List V), Ext H1 ι1 H' ι' ∧ MemD X.cx H' ι' M' ∧ H' Dl = some (.lst av) ∧ RelDs X.cx H' ι' acc av ∧ Dl ∉ ι' ∧ acc.length ≤ i ∧
          Good X.cx H1 ι1 (fun w _ H' ι' => ∀ v, RelD X.cx H' ι' w v → Q v H') (fun c d H' => Wx c d σ H') (accM acc (lcD h t f (wipeD ρ vs) (items.drop i) M'))) ?_ ?_ ?_ ?_
        · refine ⟨M1, ι1, [], [], Ext.new hD, m1.new hD, upd_same, .nil, fun z => ?_, Nat.le_refl _, ?_⟩
          · obtain ⟨n, hn⟩ := List.getElem?_of_mem z
            obtain ⟨o, ho⟩ := m1.there n Dl hn
            rw [hD] at ho; cases ho
          · exact q1
        · rintro i H' _ ⟨M', ι', acc, av, x, _⟩
          exact hG H' ι' x
        · rintro i y H' H2 hi' ⟨M', ι', acc, av, x, m', hDl, ra, nD, la, q'⟩ hy
          obtain ⟨d, hd, x2, r2, mm⟩ := hY i H' ι' y H2 x hi' hy
          rw [drop_cons hd, lcD] at q'
          cases e1 : h d (wipeD ρ vs) with
          | none => rw [e1] at q'; exact q'.elim
          | some ρ1 =>
            rw [e1] at q'
            have nD2 : H2 Dl = some (.lst av) := x2.frame Dl _ hDl nD
            refine ⟨d, _, ι', ρ1, r2, s1.ext (x.trans x2), e1, fun σ3 s3 l3 k3 => ⟨wipe_eq (us := us) (l3.trans (wipe_length _ _)) hsub k3, ρ1, M', ι', s3, mm M' m', ?_⟩⟩
            dsimp only at q'
            -- the test
            cases e2 : t ρ1 M' with
            | stuck => rw [e2] at q'; exact q'.elim
            | exc c fs M2 => rw [e2] at q'; exact q'.elim
            | ok b M2 =>
              rw [e2] at q'
              intro H3 ι3 x3 m3
              have nD3 : Dl ∉ ι3 := fun z => by
                rcases x3.fresh Dl z with z2 | z2
                · exact nD z2
                · rw [nD2] at z2; cases z2
              have hD3 : H3 Dl = some (.lst av) := x3.frame Dl _ nD2 nD
              have ra3 := (ra.ext x2).ext x3
              cases b with
              | false =>
                refine (iteF ?_ : if false = true then _ else _)
                exact ⟨M2, ι3, acc, av, x.trans (x2.trans x3), m3, hD3, ra3, nD3, Nat.le_succ_of_le la, q'⟩
              | true =>
                refine (iteT ?_ : if true = true then _ else _)
                refine ⟨ρ1, M2, ι3, s3.ext x3, m3, ?_⟩
                have q2 : Good X.cx H1 ι1 (fun w _ H' ι' => ∀ v, RelD X.cx H' ι' w v → Q v H') (fun c d H' => Wx c d σ H') (accM acc ((noX (f ρ1 M2)).bind fun y M2 => (lcD h t f (wipeD ρ vs) (items.drop (i + 1)) M2).bind fun ys M3 => .ok (y :: ys) M3)) := q'
                cases e4 : f ρ1 M2 with
                | stuck => rw [e4] at q2; exact q2.elim
                | exc c fs M4 => rw [e4] at q2; exact q2.elim
                | ok yd M4 =>
                  rw [e4] at q2
                  intro H4 ι4 x4 m4 v rv
                  have nD4 : Dl ∉ ι4 := fun z => by
                    rcases x4.fresh Dl z with z2 | z2
                    · exact nD3 z2
                    · rw [hD3] at z2; cases z2
                  have hD4 : H4 Dl = some (.lst av) := x4.frame Dl _ hD3 nD3
                  have ra4 := ra3.ext x4
                  refine ⟨av, hD4, ?_, M4, ι4, acc ++ [yd], av ++ [v], Ext.behind (x.trans (x2.trans (x3.trans x4))) hD hD4, m4.other nD4 (fun _ _ e z => by rw [z, hD4] at e; cases e) (fun _ _ r => r.side hD4), upd_same, (ra4.side hD4).append (.cons (rv.side hD4) .nil), nD4, ?_, ?_⟩
                  · rw [ra4.length]; omega
                  · rw [List.length_append]; simp; omega
                  · have q3 : Good X.cx H1 ι1 (fun w _ H' ι' => ∀ v, RelD X.cx H' ι' w v → Q v H') (fun c d H' => Wx c d σ H') (accM acc ((lcD h t f (wipeD ρ vs) (items.drop (i + 1)) M4).bind fun ys M3 => .ok (yd :: ys) M3)) := q2
                    revert q3
                    unfold accM
                    cases lcD h t f (wipeD ρ vs) (items.drop (i + 1)) M4 with
                    | ok ys M5 =>
                      simp only [Res.bind_ok, List.append_assoc, List.singleton_append]
                      exact id
                    | exc c fs M5 => exact id
                    | stuck => exact id
        · rintro H' ⟨M', ι', acc, av, x, m', hDl, ra, nD, la, q'⟩
          rw [List.drop_length, lcD] at q'
          have q2 : Good X.cx H1 ι1 (fun w _ H' ι' => ∀ v, RelD X.cx H' ι' w v → Q v H') (fun c d H' => Wx c d σ H') (.ok (.ob M'.length) (M' ++ [.lst (acc ++ [])])) := q'
          rw [List.append_nil] at q2
          refine iz _ _ ?_
          have xx : Ext H1 ι1 H' (ι' ++ [Dl]) := x.adopt hD
          refine q2 _ _ xx (m'.adopt hDl nD ra) _ (.ob ?_)
          rw [← m'.len]
          exact List.getElem?_concat_length
      · exact q.elim
section
variable {X : Cx} {tg e iter elt : Expr} {ifs : List Expr} {f : Ev D} {t : Ev Bool} {src : Ev (List D)} {h : Tgt} {pos : Pos} {scope : Scope} {own : List (Str × Nat)} {us : List Nat}
theorem fe_lcM (hc : X.calm = true) (hN : X.N.Nodup) (hi : FI X tg iter src) (ok : BlkOk X.N X.env.scope scope own) (hsub : ∀ i ∈ us, i ∈ own.map (·.2))
    (hg : ∀ (s : Shared) (H : Hp) (C : Addr) (cl : List (Str × Addr)) (fp : List Addr), FG (X.blk s H scope (compEnvC scope cl C X.env) fp) tg us h) (ht : ∀ (s : Shared) (H : Hp) (C : Addr) (cl : List (Str × Addr)) (fp : List Addr), FTs (X.blk s H scope (compEnvC scope cl C X.env) fp) ifs t)
    (he : ∀ (s : Shared) (H : Hp) (C : Addr) (cl : List (Str × Addr)) (fp : List Addr), FE (X.blk s H scope (compEnvC scope cl C X.env) fp) elt f) (hs : ∀ x, foldedSetIterable iter X.env x = pure x := by intro _; rfl) :
    FE X (.ListComp elt [⟨tg, iter, ifs, 0⟩] scope pos) (eLcM src h t f (own.map (·.2))) :=
  ⟨fun Wx tk => PE.imp (pe_lc (g := TGd X.cx us h) (tt := TB X.cx (fun _ _ _ _ => False) t) (te := TD X.cx (fun _ _ _ _ => False) f) hc hN (hi.run Wx tk) ok (fun s H C cl fp => (hg s H C cl fp).run) (fun s H C cl fp => (ht s H C cl fp).run (fun _ _ _ _ => False) takes0) (fun s H C cl fp => (he s H C cl fp).run (fun _ _ _ _ => False) takes0) hs) fun σ H Q q => lc_readsM hsub q fun _ _ z => z⟩
theorem fs_setLcM {i : Nat} {y : Str} {py spos : Pos} (hc : X.calm = true) (hN : X.N.Nodup) (hy : X.N[i]? = some y) (hyl : X.env.scope.names.lookup y = some .local) (hi : FI X tg iter src) (ok : BlkOk X.N X.env.scope scope own) (hsub : ∀ i ∈ us, i ∈ own.map (·.2))
    (hg : ∀ (s : Shared) (H : Hp) (C : Addr) (cl : List (Str × Addr)) (fp : List Addr), FG (X.blk s H scope (compEnvC scope cl C X.env) fp) tg us h) (ht : ∀ (s : Shared) (H : Hp) (C : Addr) (cl : List (Str × Addr)) (fp : List Addr), FTs (X.blk s H scope (compEnvC scope cl C X.env) fp) ifs t)
    (he : ∀ (s : Shared) (H : Hp) (C : Addr) (cl : List (Str × Addr)) (fp : List Addr), FE (X.blk s H scope (compEnvC scope cl C X.env) fp) elt f) (hsw : swapsWith (.ListComp elt [⟨tg, iter, ifs, 0⟩] scope pos) (some (.Name y py)) spos.line X.env = pure true) (hs : ∀ x, foldedSetIterable iter X.env x = pure x := by intro _; rfl) :
    FS X (.Assign [.Name y py] (.ListComp elt [⟨tg, iter, ifs, 0⟩] scope pos) spos) (sSet i (eLcM src h t f (own.map (·.2)))) :=
  ⟨fun Wx tk => PS.imp (ps_setLc (g := TGd X.cx us h) (tt := TB X.cx (fun _ _ _ _ => False) t) (te := TD X.cx (fun _ _ _ _ => False) f) hc hN hy hyl hsw (hi.run Wx tk) ok (fun s H C cl fp => (hg s H C cl fp).run) (fun s H C cl fp => (ht s H C cl fp).run (fun _ _ _ _ => False) takes0) (fun s H C cl fp => (he s H C cl fp).run (fun _ _ _ _ => False) takes0) hs) fun Dd σ H q => by
    obtain ⟨ρ, M, ι, hS, hM, q⟩ := q
    have q2 : TD X.cx Wx (eLcM src h t f (own.map (·.2))) σ H (fun v H1 => Dd.nx (σ.set i (some v)) H1) := (TD.sk hS hM q).mono fun v H1 z => by
      obtain ⟨w, M1, ι1, x, s1, m1, r1, g1⟩ := z
      exact g1 _ H1 ι1 (Ext.refl _ _) (s1.set r1 i) m1
    exact lc_readsM hsub q2 fun v H' z => z⟩
end
end FL

set_option maxHeartbeats 2000000
/-! an own exception whose __init__ says super().__init__(text); self.n = n -/
namespace FX
open PySem PySem.Spec PySem.W PySem.Calls PyProof.Rows
/-- what the built-in base's __init__ is -/
structure BaseI (B i : String) : Prop where
  kxs : KxsFacts B i
  kind : builtinKind i = some .slot
  row : Manifest.signature? i = some ⟨.positional, "*", B, .self, [⟨"args", .varPos, false⟩]⟩
  star : (B != "*") = true
  entry : entryFor table i = some Builtin.«BaseException.__init__»
  plain : plainId i = true
theorem BaseI.of {B newId i : String} {b0 : List Value} (F : ExcBaseFacts B newId i b0) (k : KxsFacts B i) : BaseI B i :=
  ⟨k, F.initKind, F.initRow, F.noStar, F.initEntry, F.init.plain⟩
theorem bi_Value : BaseI "ValueError" "ValueError.__init__" := .of F.excBase_ValueError kxs_ValueError
theorem bi_Index : BaseI "IndexError" "IndexError.__init__" := .of F.excBase_IndexError kxs_IndexError
theorem bi_Lookup : BaseI "LookupError" "LookupError.__init__" := .of F.excBase_LookupError kxs_LookupError
theorem bi_Overflow : BaseI "OverflowError" "OverflowError.__init__" := .of F.excBase_OverflowError kxs_OverflowError
theorem bi_Runtime : BaseI "RuntimeError" "RuntimeError.__init__" := .of F.excBase_RuntimeError kxs_RuntimeError
theorem kxs_Key : KxsFacts "KeyError" "KeyError.__init__" :=
  ⟨by show builtinType _ = _; rw [builtinType_eq_fast]; kernel_rfl, by kernel_rfl⟩
theorem bi_Key : BaseI "KeyError" "KeyError.__init__" where
  kxs := kxs_Key
  kind := by decide +kernel
  row := by kernel_rfl
  star := by decide +kernel
  entry := by
    refine entryFor_alias (id' := "BaseException.__init__") ?_ ?_ ?_ ?_
    · rw [fastTable_eq_tree]
      kernel_rfl
    · decide +kernel
    · decide +kernel
    · rw [fastTable_eq_tree]
      kernel_rfl
  plain := by decide +kernel
end FX

set_option maxHeartbeats 2000000
namespace FX
open PySem PySem.Spec PySem.W PySem.Calls PyProof.Rows
open L2 (defArgs defBody defScope)
open Builtin Builtin.ObjectAttr
abbrev Frg := PySem.W.Frag
/-- an exception's object: its args at t, its own dict d -/
abbrev xo (C t : Addr) (d : Option Addr) : Obj := { cls := .ref C, dict := d, data := .fields #[.ref t, .none, .none, .none, .bool false, .none] }
/-- the __init__ as it stands behind the top -/
structure InitT (P : Program) (K : Frg) (C fI : Addr) (n qual : Str) (st : Stmt) : Prop where
  fn : ∃ (oc kV doc pm ct : Value) (od an : Option Addr) (osl : Array (Option Value)) (cda cc : Addr),
    K.lookup fI = some ⟨oc, od, .func (ksFn "__init__" qual (defArgs st) (defBody st) (defScope st) .none kV doc pm an (.ref cda) ct cc), osl⟩ ∧ codeIn K (.ref cda) qual = true ∧
    (∃ cl cld csl, K.lookup cc = some ⟨cl, cld, .cell (some (.ref C)), csl⟩) ∧
    (∃ ccl cdd vs ccs file tf, K.lookup cda = some ⟨ccl, cdd, .fields vs, ccs⟩ ∧ vs[2]? = some (.str file tf) ∧ ((P.main.file : Str) == file) = true)
  body : ∃ (msg : Str) (j : Nat) (q0 q1 q2 q3 q4 q5 q6 q7 q8 q9 : Pos), q2.endLine = q4.line ∧ defBody st = [
    .Expr (.Call (.Attribute (.Call (.Name "super" q0) [] [] q1) "__init__" q2) [.Constant (.str msg) j q3] [] q4) q5,
    .Assign [.Attribute (.Name "self" q6) n q7] (.Name n q8) q9]
  args : ∃ p1 p2 : Pos, defArgs st = { posonlyargs := [], args := [{ arg := "self", annotation := none, pos := p1 }, { arg := n, annotation := none, pos := p2 }], vararg := none, kwonlyargs := [], kw_defaults := [], kwarg := none, defaults := [] }
  bind : ∀ (x : Addr) (v : Value) (qual : Str) (kV doc pm ct cdv : Value) (an : Option Addr) (cc : Addr) (s : Shared),
    BindsTo s (ksFn "__init__" qual (defArgs st) (defBody st) (defScope st) .none kV doc pm an cdv ct cc) ⟨[.ref x, v], []⟩ [("self", .ref x), (n, v)]
  l0 : (defScope st).names.lookup ("self" : Str) = some .local
  l1 : (defScope st).names.lookup n = some .local
  l2 : (defScope st).names.lookup ("super" : Str) = some .globalImplicit
  l3 : (defScope st).names.lookup ("__class__" : Str) = some .free
  lc : ∀ x ∈ (defScope st).names, x.2 ≠ .cell
  sc : defScope st = { kind := .function, names := (defScope st).names, isGenerator := false, isCoroutine := false, more := [] }
  ne : (n == ("self" : Str)) = false
  dbg : (n == ("__debug__" : Str)) = false
  top : (P.main.scope.names.lookup ("super" : Str)).isSome = false
/-- the class as it stands behind the top -/
structure ClsT (K : Frg) (C : Addr) (B i : String) (n : Str) (bm : List Value) : Prop where
  bi : BaseI B i
  st : StoreFacts B bm "object.__setattr__" "object"
  over : excOver K C bm = true
  cls : (clsIn K C).isSome = true
  hd : hasDictIn K C = true
  sa : findIn K (.ref C) "__setattr__" = some (some (.builtin "object.__setattr__"))
  noN : findIn K (.ref C) n = some none
  subB : subIn K (.ref C) (.type B) = some true
  sup : ks_superIn K C C "__init__" = some (some (.builtin i))
  any : nsIn K cStatics "thirdparty.any" = some none
  own : mroIn K C (.ref C) = some true
structure InitEnd (h h' : Heap) (x C dx : Addr) (n : Str) (v : Value) : Prop where
  keep : ∀ b o, b ≠ x → h.get? b = some o → h'.get? b = some o
  obj : ∃ t, h'.get? x = some (xo C t (some dx))
  dbig : h.objs.size ≤ dx
  dne : dx ≠ x
  ns : h'.Ns1 dx (fun y => if y = n then some v else none)
section
variable {prog : Program} {w : World} {A : Around} {E : Value → Shared → Prop} {K : Frg} {C x : Addr} {B i : String} {n : Str} {bm : List Value} {hp : Heap} {g : Array GenState} {d : Drawn} {t : Nat} {os : OsState}
/-- self.n = v on an exception that has no dict yet -/
theorem set_first (T : ClsT K C B i n bm) {t0 : Addr} {v : Value} {Q : Unit → Shared → Prop} (X : K.In hp) (hx : hp.get? x = some (xo C t0 none))
    (hq : ∀ h' tk' dx, InitEnd hp h' x C dx n v → Q () ⟨h', g, d, tk', os⟩) : wpAny (model prog w) A (setAttr (.ref x) n v) Q E ⟨hp, g, d, t, os⟩ := by
  have I : InstAt hp x (xo C t0 none) C none := ⟨hx, rfl, rfl, trivial⟩
  have tk : takerIn K C n = some none := by
    unfold takerIn
    rw [T.noN]
    rfl
  have nx : x ≠ hp.objs.size := Nat.ne_of_lt (Heap.lt_size hx)
  obtain ⟨cd, hcd, hd⟩ := any_some (show (clsIn K C).any (·.hasDict) = true from T.hd)
  have lk : Looks (model prog w) hp (classData C) cd := looks_clsIn X hcd
  refine set_plain X I T.sa (osa_openX T.st X I T.over tk fun b => ?_)
  show wpAny _ _ (storeInOwnDict (.ref x) (.ref C) (.str n t) n v b) _ _ _
  obtain ⟨nm, bs, mro, ns, qn, hd0, sn, sb, ab, col, del⟩ := cd
  dsimp only at hd
  subst hd
  unfold storeInOwnDict ownDictForStores
  repeat (first | with_reducible refine PySem.HandSPX.store_in_new ?_ ?_
                | with_reducible refine wpAny_loadPart_at hx ?_
                | with_reducible refine lk.at ?_
                | wp_step)
  · refine ⟨_, #[], _, (Heap.get?_update_ne _ _ _ _ nx.symm).trans
      (Heap.get?_push_at rfl rfl), rfl, ?_, fun _ => rfl⟩
    intro e he
    exact absurd he (by simp)
  · intro h' tk' hn' hs
    have hx1 : (hp.push { cls := .type "dict", data := .dict #[] }).get? x = some (xo C t0 none) := Heap.get?_push_of_some _ hx
    refine hq h' tk' hp.objs.size ⟨fun b o hb ho => ?_, ⟨t0, ?_⟩, Nat.le_refl _, nx.symm, hn'⟩
    · rw [hs.2 b (Nat.ne_of_lt (Heap.lt_size ho)), Heap.get?_update_ne _ _ _ _ hb]
      exact Heap.get?_push_of_some _ ho
    · rw [hs.2 x nx]
      exact Heap.get?_update_self _ hx1 rfl
/-- the base's __init__, bound to the exception, called -/
theorem call_wrapped (BI : BaseI B i) {u t0 : Addr} {rest : List Value} {Q : Value → Shared → Prop} {nm q : Str} {N : Addr} {bs b0 : List Value} {hdct : Bool} {sn : List Str} {sub : List Value} {ab : Bool} {col : Option Bool} {dd : Option Addr} {k0 k1 k2 k3 k5 : Option Value} {newId : String}
    (cC : hp.get? C = some (excClassObj nm q C N bs b0 hdct sn sub ab col dd k0 k1 k2 k3 k5 newId)) (cx : hp.get? x = some (xo C t0 none)) (cu : hp.get? u = some (kxs_mw i x)) (hz : rest.length ≤ sizeLine)
    (hq : ∀ h' t1, (∀ b o, b ≠ x → hp.get? b = some o → h'.get? b = some o) → h'.get? x = some (xo C t1 none) → Q .none ⟨h', g, d, t, os⟩) :
    wpAny (model prog w) A (call (.ref u) rest) Q E ⟨hp, g, d, t, os⟩ := by
  have sh := BI.star
  have chk : ∀ {A : Around} {E : Value → Shared → Prop} {Q : Unit → Shared → Prop}, Q () ⟨hp, g, d, t, os⟩ → wpAny (model prog w) A (checkBoundCall i ⟨.ref x :: rest, []⟩) Q E ⟨hp, g, d, t, os⟩ := by
    intro A E Q z
    simp only [checkBoundCall, BI.kind, BI.row]
    repeat (first | (with_reducible refine wpAny_loadPart_at cx ?_; dsimp only) | with_reducible refine wpAny_loadPart_at cC ?_ | wp_step)
    refine wpAny_onRaise ?_
    have e : ∀ (a b : String) (m : Nat), Bind.check ⟨.positional, "*", B, .self, [⟨"args", .varPos, false⟩]⟩ a b m (List.map (fun x => x.fst) ({ pos := Value.ref x :: rest } : Args).kw) = pure () :=
      fun a b m => check_star_args _ _ _ _ _ _
    rw [e]
    exact wpAny_pure z
  refine wpAny_call (codeAny_of_tree ?_)
  show wpAny _ A.in1 (callAny (.ref u) ⟨rest, []⟩) _ _ _
  simp only [callAny]
  refine wpAny_bind (wpAny_load cu ?_)
  have m1 : (Value.type "method-wrapper" == Value.type "method" || Value.type "method-wrapper" == Value.type "builtin_function_or_method" || Value.type "method-wrapper" == Value.type "method-wrapper") = true := by decide
  simp only [kxs_mw, m1, if_true]
  refine KFB.if_so (by decide) ?_
  refine wpAny_bind (chk (wpAny_bind (wpAny_pure (wpAny_pure ⟨plainId_quiet BI.plain _, codeAny_builtin BI.entry ?_⟩))))
  exact exc_init_tree (cls := .ref C) (t0 := t0) (dv := none) (c2 := .none) (c3 := .none) (b4 := .bool false) cx hz fun h' k e1 e2 => hq h' _ k e1
end
end FX

set_option maxHeartbeats 2000000
namespace FX
open PySem PySem.Spec PySem.W PySem.Calls PyProof.Rows
open L2 (defArgs defBody defScope)
theorem meth_shape {env : Env} {o : Expr} {q2 q4 q3 : Pos} {m : Str} {j : Nat} (h : q2.endLine = q4.line) : ∃ pl : Sem Bool, eval (.Call (.Attribute o "__init__" q2) [.Constant (.str m) j q3] [] q4) env = (do
      let ov ← attributeBase o "__init__" env (eval o env)
      standAt q2.atName
      let (f, first) ← holding [ov] (getMethod ov "__init__" pl)
      callWith q4 f first (backTo q4 (starEach [.Constant (.str m) j q3] env)) []) := by
  refine ⟨(do return (← importBound o env).getD true), ?_⟩
  show (do
    let ov ← attributeBase o "__init__" env (eval o env)
    standAt q2.atName
    methodCall o "__init__" q2 q4 env ov 1 (backTo q4 (starEach [.Constant (.str m) j q3] env)) []) = _
  unfold methodCall methodCallPos
  simp [h]
  rfl
section
variable {prog : Program} {w : World} {A : Around} {R : Result → Shared → Prop} {K : Frg} {C fI x t0 : Addr} {B i n qual : Str} {st : Stmt} {bm : List Value} {s : Shared} {mg mb : Str → Option Value}
theorem init_run {B i : String} (T : ClsT K C B i n bm) (I : InitT prog K C fI n qual st) {v : Value} {nm q : Str} {N : Addr} {bs b0 : List Value} {hdct : Bool} {sn : List Str} {sub : List Value} {ab : Bool} {col : Option Bool} {dd : Option Addr} {k0 k1 k2 k3 k5 : Option Value} {newId : String}
    (cK : K.lookup C = some (excClassObj nm q C N bs b0 hdct sn sub ab col dd k0 k1 k2 k3 k5 newId))
    (X : K.In s.heap) (hlim : s.heap.NoLimit) (hg : s.heap.Ns mainGlobals mg) (hmg : mg "super" = none) (hb : s.heap.Ns builtinsNs mb) (hmb : mb "super" = some (.type "super"))
    (hx : s.heap.get? x = some (xo C t0 none)) (hnx : K.lookup x = none) (hroom : A.depth < recursionLimit)
    (hq : ∀ h' tk dx, InitEnd s.heap h' x C dx n v → R (.ok (.ret .none)) { s with heap := h', toks := tk }) :
    codeAny (model prog w) A (.call (.ref fI) ⟨[.ref x, v], []⟩) R s := by
  obtain ⟨oc, kV, doc, pm, ct, od, an, osl, cda, cc, ho, hcd, ⟨cl, cld, csl, hcc⟩, ⟨ccl, cdd, vs, ccs, file, tf, hca, hvs, hfile⟩⟩ := I.fn
  obtain ⟨msg, j, q0, q1, q2, q3, q4, q5, q6, q7, q8, q9, hq4, hbd⟩ := I.body
  obtain ⟨p1, p2, har⟩ := I.args
  have bind0 := I.bind
  have l0 := I.l0
  have l1 := I.l1
  have l2 := I.l2
  have l3 := I.l3
  have lc := I.lc
  have sc := I.sc
  generalize (defScope st).names = ns at l0 l1 l2 l3 lc sc
  rw [sc] at ho bind0
  have locs : ∀ y ∈ [(("self" : Str), Value.ref x), (n, v)], ns.lookup y.1 = some .local := by
    intro y hy
    simp only [List.mem_cons, List.not_mem_nil, or_false] at hy
    rcases hy with rfl | rfl
    · exact l0
    · exact l1
  have em : ∀ y : Str, ([(("self" : Str), Value.ref x), (n, v)].reverse.lookup y) = if y = n then some v else if y = "self" then some (.ref x) else none := by
    intro y
    show List.lookup y [(n, v), (("self" : Str), Value.ref x)] = _
    by_cases h1 : y = n
    · subst h1
      simp [List.lookup]
    · have e1 : (y == n) = false := by simpa using h1
      rw [if_neg h1]
      by_cases h2 : y = "self"
      · subst h2
        simp [List.lookup, e1]
      · have e2 : (y == ("self" : Str)) = false := by simpa using h2
        rw [if_neg h2]
        simp [List.lookup, e1, e2]
  have n0 : ("self" : Str) ≠ n := by
    intro z
    have := I.ne
    rw [← z] at this
    simp at this
  obtain ⟨hp, g, d, t, os⟩ := s
  refine ks_codeAny_call_defAt (fd := ksFn "__init__" qual (defArgs st) (defBody st) { kind := .function, names := ns, isGenerator := false, isCoroutine := false, more := [] } .none kV doc pm an (.ref cda) ct cc) (body := defBody st)
    (binds := [("self", .ref x), (n, v)]) hroom (X _ _ ho) rfl hlim (codeRec_of X hcd) rfl (bind0 x v qual kV doc pm ct (.ref cda) an cc _) lc locs (fun h₁ hns k₁ => ?_) rfl rfl rfl
  have hz : hp.objs.size ≠ x := Nat.ne_of_gt (Heap.lt_size hx)
  have X1 : K.In h₁ := X.keeps k₁
  have kL : hp.objs.size < h₁.objs.size := hns.lt
  rw [hbd]
  refine ks_wpAt_execs_cons (ks_wpAt_Expr_any ?_ rfl rfl)
  obtain ⟨pl, hpl⟩ := meth_shape (env := callEnv (ksFn "__init__" qual (defArgs st) _ { kind := .function, names := ns, isGenerator := false, isCoroutine := false, more := [] } .none kV doc pm an (.ref cda) ct cc) hp.objs.size fI) (o := .Call (.Name "super" q0) [] [] q1) (q3 := q3) (m := msg) (j := j) hq4
  refine ks_wpAt_MethodCall (pl := pl) ?_ hpl
  refine ks_wpAt_super_base (cc := cda) (f := fI) (ar := { arg := "self", annotation := none, pos := p1 }) l2 l3 (by decide) rfl (X1 _ _ ho) rfl (by rw [har]; rfl) rfl (X1 _ _ hca) rfl hvs hfile I.top ?_
  refine ks_loadName_global rfl l2 (loadGlobal_builtin (mg := mg) (mb := mb) ?_ hmg ?_ hmb ⟨rfl, ?_⟩)
  · obtain ⟨o, es, ep, e, r⟩ := hg
    exact ⟨o, es, ep, k₁ _ _ e, r⟩
  · obtain ⟨o, es, ep, e, r⟩ := hb
    exact ⟨o, es, ep, k₁ _ _ e, r⟩
  refine wpAny_loadName_free rfl l3 rfl ⟨_, X1 _ _ hcc, rfl⟩ ?_
  refine wpAny_loadName_local rfl l0 hns (by rw [em, if_neg n0, if_pos rfl]) ?_
  have cC : h₁.get? C = some _ := X1 _ _ cK
  have hx1 : h₁.get? x = some (xo C t0 none) := k₁ _ _ hx
  have hxi : InstAt h₁ x (xo C t0 none) C none := ⟨hx1, rfl, rfl, trivial⟩
  obtain ⟨cd, hcd0⟩ := Option.isSome_iff_exists.mp T.cls
  refine ks_wpAny_isType_cls cC rfl ⟨rfl, ?_⟩
  refine ks_wpAny_call_super cC rfl hx1 rfl (fun c z => by cases z) (looks_mroIn X1 T.own) (fun h₂ e2 k₂ => ?_)
  have X2 : K.In h₂ := X1.keeps k₂
  have hx2 := k₂ _ _ hx1
  have hi2 : InstAt h₂ x (xo C t0 none) C none := ⟨hx2, rfl, rfl, trivial⟩
  have al : alongIn K "__init__" ((cd.mro.dropWhile (· != .ref C)).drop 1) = some (some (.builtin i)) := by
    have := T.sup
    unfold ks_superIn at this
    rw [hcd0] at this
    exact this
  have mro2 : Looks (model prog w) h₂ (mroOf (.ref C)) cd.mro := fun A Q E s k z => wpAny_bind ((looks_clsIn X2 hcd0) A _ E s k (wpAny_pure z))
  refine kxs_getMethod T.bi.kxs e2 (looks_opaque X2 T.any) mro2 rfl X2 al (hi2.type.andThen (looks_subIn X2 T.subB)) (ks_ne X2 hi2 hcd0) (by decide) ?_
  have hu : (h₂.push (kxs_mw i x)).get? h₂.objs.size = some (kxs_mw i x) := Heap.get?_push_at rfl rfl
  have k₃ : ∀ b o, h₂.get? b = some o → (h₂.push (kxs_mw i x)).get? b = some o := fun b o e => Heap.get?_push_of_some _ e
  show wpAny _ _ (callWith q4 (.ref h₂.objs.size) [] (backTo q4 (starEach [.Constant (.str msg) j q3] _)) []) _ _ _
  refine kxs_callWith (i := i) (x := x) rfl (evalArgs_plain ?_)
  show wpAny _ _ (spliced ((false, eval (.Constant (.str msg) j q3) (callEnv _ hp.objs.size fI)) :: backTo q4 (starEach [] (callEnv _ hp.objs.size fI)))) _ _ _
  refine Calls.spliced_cons (Calls.Constant_str (Calls.spliced_nil ⟨hu, ?_⟩))
  have X3 : K.In (h₂.push (kxs_mw i x)) := X2.keeps k₃
  have hx3 := k₃ _ _ hx2
  refine call_wrapped T.bi (X3 _ _ cK) hx3 hu (by show 1 ≤ sizeLine; rw [sizeLine_eq]; omega) (fun h₄ t1 k₄ hx4 => ?_)
  have X4 : K.In h₄ := fun a o e => by
    refine k₄ a o (fun z => ?_) (X3 _ _ e)
    rw [z, hnx] at e
    cases e
  have kall : ∀ b o, b ≠ x → hp.get? b = some o → h₄.get? b = some o := fun b o hb e => k₄ b o hb (k₃ _ _ (k₂ _ _ (k₁ _ _ e)))
  have hns4 : h₄.Ns hp.objs.size (fun y => [(("self" : Str), Value.ref x), (n, v)].reverse.lookup y) := by
    obtain ⟨o, es, ep, e, r⟩ := hns
    exact ⟨o, es, ep, k₄ _ _ hz (k₃ _ _ (k₂ _ _ e)), r⟩
  refine wpAt_of_wpAny (wpAny_execs_cons (plainObj_wpAny_Assign_Attribute ?_))
  refine wpAny_Name (wpAny_loadName_local rfl l1 hns4 (by rw [em, if_pos rfl]) ?_) I.dbg
  refine wpAny_Name (wpAny_loadName_local rfl l0 hns4 (by rw [em, if_neg n0, if_pos rfl]) ?_)
  refine set_first T X4 hx4 fun h₅ tk₅ dx Z => ?_
  refine wpAny_execs_nil (hq h₅ tk₅ dx ⟨fun b o hb e => Z.keep b o hb (kall b o hb e), Z.obj, ?_, Z.dne, Z.ns⟩)
  have z5 : hp.objs.size < h₄.objs.size := Heap.lt_size (show h₄.get? hp.objs.size = some _ from hns4.choose_spec.choose_spec.choose_spec.1)
  exact Nat.le_of_lt (Nat.lt_of_lt_of_le z5 Z.dbig)
end
end FX

set_option maxHeartbeats 2000000
namespace FX
open PySem PySem.Spec PySem.W PySem.Calls
section
variable {M : Model} {prog : Program} {w : World} {A : Around} {E : Value → Shared → Prop} {R : Result → Shared → Prop} {h : Heap} {g : Array GenState} {d : Drawn} {t : Nat} {os : OsState}
variable {nm q : Str} {C N : Addr} {bs bm b0 : List Value} {hdct : Bool} {sn : List Str} {sub : List Value} {ab : Bool} {col : Option Bool} {dd : Option Addr} {k0 k1 k2 k3 k5 : Option Value} {B newId initId : String}
/-- the class's ancestors, as __new__ asks them -/
structure Anc (B : String) (bm : List Value) : Prop where
  b : bm.contains (.type B) = true
  a : bm.contains (.type "AttributeError") = false
  n : bm.contains (.type "NameError") = false
theorem Anc.with {C : Addr} (Z : Anc B bm) : Anc B (Value.ref C :: bm) :=
  ⟨by rw [List.contains_cons, Z.b, Bool.or_true], by rw [List.contains_cons, Z.a]; rfl, by rw [List.contains_cons, Z.n]; rfl⟩
theorem new_check (F : ExcBaseFacts B newId initId b0) (Z : Anc B bm) {us : List Value} {Q : Unit → Shared → Prop}
    (cC : h.get? C = some (excClassObj nm q C N bs bm hdct sn sub ab col dd k0 k1 k2 k3 k5 newId)) (hq : Q () ⟨h, g, d, t, os⟩) :
    wpAny M A (checkBuiltinCall newId ⟨.ref C :: us, []⟩) Q E ⟨h, g, d, t, os⟩ := by
  have z := (Z.with (C := C)).b
  have st := F.noStar
  simp only [checkBuiltinCall, F.newKind, F.newSplit, F.newRow]
  repeat (first
    | refine wpAny_loadPart_at cC ?_
    | (refine wpAny_isSubtype_exc cC ?_; rw [z])
    | refine wpAny_staticBase_exc cC ?_
    | refine wpAny_madeBy_exc cC ?_
    | simp only [bne_self_eq_false, Bool.false_eq_true, if_false]
    | wp_step)
  exact hq
theorem new_made (F : ExcBaseFacts B newId initId b0) (Z : Anc B bm) {us : List Value}
    (cC : h.get? C = some (excClassObj nm q C N bs bm hdct sn sub ab col dd k0 k1 k2 k3 k5 newId))
    (hq : R (.ok (.ret (.ref (h.objs.size + 1)))) ⟨(h.push (kdv_tup us)).push (xo C h.objs.size none), g, d, t, os⟩) (hz : us.length ≤ sizeLine) :
    codeAny (model prog w) A (.builtin newId ⟨.ref C :: us, []⟩) R ⟨h, g, d, t, os⟩ := by
  have en := F.ends
  have zb := (Z.with (C := C)).b
  have za := (Z.with (C := C)).a
  have zn := (Z.with (C := C)).n
  refine codeAny_builtinAt F.entry ?_
  unfold Builtin.«BaseException.__new__»
  refine wpAt_bind ?_
  show wpAt _ _ _ (stack >>= _) _ _ _
  refine wpAt_bind (wpAt_stack fun p below => wpAt_of_wpAny ?_)
  wp_walk
  refine wpAt_of_wpAny ?_
  rw [F.owner]
  repeat (first
    | with_reducible refine wpAny_madeHere_exc F.canon cC ?_
    | with_reducible refine wpAny_loadPart_at cC ?_
    | (with_reducible refine wpAny_isSubtype_exc cC ?_; first | rw [zb] | rw [za] | rw [zn])
    | wp_step)
  show R _ _
  rw [Heap.size_push]
  exact hq
theorem type_called (F : ExcBaseFacts B newId initId b0) (Z : Anc B bm) {us : List Value} {fI : Addr} {Q : Fin → Shared → Prop}
    (cC : h.get? C = some (excClassObj nm q C N bs bm hdct sn sub ab col dd k0 k1 k2 k3 k5 newId))
    (hi : Looks (model prog w) h (typeLookup (.ref C) "__init__") (some (.ref fI))) (hb : ∀ self, Looks (model prog w) h (bindSpecial (.ref fI) self) (.ref fI, [self])) (hz : us.length ≤ sizeLine)
    (hq : codeAny (model prog w) A (.call (.ref fI) ⟨.ref (h.objs.size + 1) :: us, []⟩)
      (fun r s' => match r with
        | .ok (.ret v) => v = .none ∧ Q (.done (.ret (.ref (h.objs.size + 1)))) s'
        | .ok _ => False
        | .error e => E e s') ⟨(h.push (kdv_tup us)).push (xo C h.objs.size none), g, d, t, os⟩) :
    wpAny (model prog w) A (Builtin.«type.__call__» ⟨.ref C :: us, []⟩) Q E ⟨h, g, d, t, os⟩ := by
  repeat (first
    | with_reducible refine wpAny_loadPart_at cC ?_
    | with_reducible refine wpAny_madeBy_exc cC ?_
    | wp_step)
  refine codeAny_call_builtin_code (Code.quiet_builtin _ F.quiet) (new_check F Z cC (new_made F Z cC ?_ hz))
  show wpAny _ _ _ _ _ _
  have k : ∀ b o, h.get? b = some o → ((h.push (kdv_tup us)).push (xo C h.objs.size none)).get? b = some o :=
    fun b o e => Heap.get?_push_of_some _ (Heap.get?_push_of_some _ e)
  have cC1 := k _ _ cC
  have gx : ((h.push (kdv_tup us)).push (xo C h.objs.size none)).get? (h.objs.size + 1) = some (xo C h.objs.size none) := by heap_get
  have self : (Value.ref C :: bm).contains (.ref C) = true := by simp
  have i1 := hi.keeps k
  have b1 := (hb (.ref (h.objs.size + 1))).keeps k
  unfold isInstance
  repeat (first
    | with_reducible refine wpAny_loadPart_at gx ?_
    | (with_reducible refine wpAny_isSubtype_exc cC1 ?_; rw [self])
    | wp_step)
  show wpAny _ _ (typeLookup (.ref C) _) _ _ _
  refine i1.at (wpAny_holding (wpAny_bind (b1.at (wpAny_bind (wpAny_call (codeAny_mono hq fun r s' z => ?_))))))
  rcases r with e | (v | _ | _ | _) <;> first | exact z | exact z.elim | skip
  obtain ⟨rfl, z⟩ := z
  first
    | exact wpAny_pure (wpAny_pure z)
    | (wp_walk; exact z)
theorem call_x (F : ExcBaseFacts B newId initId b0) (Z : Anc B bm) {us : List Value} {fI : Addr}
    (cC : h.get? C = some (excClassObj nm q C N bs bm hdct sn sub ab col dd k0 k1 k2 k3 k5 newId))
    (hi : Looks (model prog w) h (typeLookup (.ref C) "__init__") (some (.ref fI))) (hb : ∀ self, Looks (model prog w) h (bindSpecial (.ref fI) self) (.ref fI, [self])) (hz : us.length ≤ sizeLine)
    (hq : codeAny (model prog w) (A.under (.builtin "type.__call__" ⟨.ref C :: us, []⟩)) (.call (.ref fI) ⟨.ref (h.objs.size + 1) :: us, []⟩) (InitBack (h.objs.size + 1) R)
      ⟨(h.push (kdv_tup us)).push (xo C h.objs.size none), g, d, t, os⟩) :
    codeAny (model prog w) A (.call (.ref C) ⟨us, []⟩) R ⟨h, g, d, t, os⟩ := by
  have f1 := tc_lookup
  have f2 := tc_bind (.ref C)
  have ty : (⟨h, g, d, t, os⟩ : Shared).TypeIs (.ref C) "type" := ⟨_, cC, rfl⟩
  refine codeAny_of_tree ?_
  show wpAny _ _ (callAny (.ref C) _) _ _ _
  repeat (any_goals (first | assumption | with_reducible refine wpAny_loadPart_at cC ?_ | wp_step))
  refine ⟨rfl, codeAny_call_builtin_at (Code.quiet_builtin _ (by decide +kernel)) entry_typeCall ?_⟩
  refine wpAny_check_type_call_sub cC (type_called F Z cC hi hb hz (codeAny_mono hq fun r s' z => ?_))
  rcases r with e | (v | _ | _ | _) <;> exact z
end
end FX

set_option maxHeartbeats 2000000
namespace FX
open PySem PySem.Spec PyProof.Rows L2
/-- an own exception class with such an __init__, as it stands behind the top -/
structure Sup (P : Program) (K : Frg) (C : Addr) (n : Str) : Prop where
  ex : ∃ (B i T newId i0 : String) (qual : Str) (bm b0 : List Value) (fI : Addr) (st : Stmt), ClsT K C B i n bm ∧ InitT P K C fI n qual st ∧ ExcBaseFacts T newId i0 b0 ∧
    (∃ nm q N bs b1 hdct sn sub ab col dd k0 k1 k2 k3 k5, K.lookup C = some (excClassObj nm q C N bs b1 hdct sn sub ab col dd k0 k1 k2 k3 k5 newId) ∧ Anc T b1) ∧
    PySem.W.findIn K (.ref C) "__init__" = some (some (.ref fI)) ∧ PySem.W.typeIn K (.ref fI) = some (.type "function")
  kC : PySem.W.keepIn K (.ref C) = true
  rB : PySem.W.subIn K (.ref C) (.type "BaseException") = some true
  rT : PySem.W.typeIn K (.ref C) = some (.type "type")
theorem Sup.raises {X : Cx} {C : Addr} {n : Str} (T : Sup X.prog X.K C n) : Raises X (.ref C) := raises_own T.rB T.rT
theorem relO_one {v : V} {u : Value} {n : Str} (r : RelV v u) (f : Str) : RelO (List.lookup f [(n, v)]) (if f = n then some u else none) := by
  by_cases h : f = n
  · subst h
    rw [if_pos rfl]
    have q : List.lookup f [(f, v)] = some v := by simp [List.lookup]
    rw [q]
    exact r
  · rw [if_neg h]
    have e : (f == n) = false := by simpa using h
    have q : List.lookup f [(n, v)] = none := by simp [List.lookup, e]
    rw [q]
    trivial
/-- what the making leaves: the exception at a, its dict at d; G: the heap without the exception -/
structure Made (X : Cx) (pins : List (Addr × Obj)) (σ : L2.St) (H1 : Hp) (C a d : Addr) (n : Str) (v : V) (s' : Shared) (G : Heap) : Prop where
  inv : Inv X pins σ (upd H1 d (.xd [(n, v)])) { s' with heap := G }
  keep : ∀ b o, G.get? b = some o → s'.heap.get? b = some o
  none : G.get? a = none
  obj : ∃ t, s'.heap.get? a = some (xo C t (some d))
  na : H1 a = Option.none
  nd : H1 d = Option.none
  ne : a ≠ d
section
variable {X : Cx} {pins : List (Addr × Obj)} {σ : L2.St} {H1 : Hp} {C : Addr} {n : Str}
theorem made_call (T : Sup X.prog X.K C n) {k : Nat} (hr : Room k X.A) (hsup : X.mg "super" = none) {s1 : Shared} {u : Value} {v : V} (I1 : Inv X pins σ H1 s1) (rv : RelV v u) {E : Value → Shared → Prop} {Q : Value → Shared → Prop}
    (hq : ∀ a d s' G, Made X pins σ H1 C a d n v s' G → s'.os = s1.os → s'.gens = s1.gens → Q (.ref a) s') :
    wpAny (model X.prog X.w) X.A (call (.ref C) [u]) Q E s1 := by
  obtain ⟨B, i, T', newId, i0, qual, bm, b0, fI, st, hc, hi, hF, ⟨nm, q, N, bs, b1, hdct, sn, sub, ab, col, dd, k0, k1, k2, k3, k5, hC, hA⟩, iC, tC⟩ := T.ex
  have hlim := I1.nolimit
  have kin := I1.kIn
  obtain ⟨mb, hb1, hb2⟩ := I1.ok.mod.blt
  have hb : s1.heap.Ns builtinsNs mb := hb1.keeps I1.bk
  have hg : s1.heap.Ns mainGlobals X.mg := I1.ok.mod.glob.keeps I1.bk
  have hmb : mb "super" = some (.type "super") := (hb2 _ (by decide +kernel)).trans (by kernel_rfl)
  obtain ⟨hp, g, d, t, os⟩ := s1
  have k2 : ∀ b o, hp.get? b = some o → ((hp.push (PySem.W.kdv_tup [u])).push (xo C hp.objs.size none)).get? b = some o :=
    fun b o e => Heap.get?_push_of_some _ (Heap.get?_push_of_some _ e)
  have gx : ((hp.push (PySem.W.kdv_tup [u])).push (xo C hp.objs.size none)).get? (hp.objs.size + 1) = some (xo C hp.objs.size none) := by heap_get
  have hnx : X.K.lookup (hp.objs.size + 1) = none := by
    cases e : X.K.lookup (hp.objs.size + 1) with
    | none => rfl
    | some o => exact absurd (Heap.lt_size (kin _ _ e)) (Nat.not_lt.mpr (Nat.le_succ _))
  refine wpAny_call (call_x hF hA (kin _ _ hC) (PySem.W.looks_findIn kin iC) (fun self => PySem.W.bind_fn kin self tC) (by show 1 ≤ sizeLine; rw [sizeLine_eq]; omega) ?_)
  refine init_run hc hi hC (kin.keeps k2) (hlim.keeps k2) (hg.keeps k2) hsup (hb.keeps k2) hmb gx hnx ?_ (fun h' tk dx Z => ?_)
  · show X.A.depth + 1 < recursionLimit
    have := hr.dp
    omega
  refine ⟨rfl, ?_⟩
  have old : ∀ b o, hp.get? b = some o → h'.get? b = some o := fun b o e => Z.keep b o (Nat.ne_of_lt (Nat.lt_succ_of_lt (Heap.lt_size e))) (k2 b o e)
  have big : hp.objs.size ≤ dx := by
    have := Z.dbig
    rw [Heap.size_push, Heap.size_push] at this
    omega
  obtain ⟨G, g1, g2⟩ := restrict h' fun b => decide (b ≠ hp.objs.size + 1)
  have gk : ∀ b, b ≠ hp.objs.size + 1 → G.get? b = h'.get? b := fun b hb => g1 b (decide_eq_true hb)
  have ge : G.get? (hp.objs.size + 1) = none := g2 _ (by simp)
  have oldG : ∀ b o, hp.get? b = some o → G.get? b = some o := fun b o e => (gk b (Nat.ne_of_lt (Nat.lt_succ_of_lt (Heap.lt_size e)))).trans (old b o e)
  have ob : ObjOk X.prog X.w (upd H1 dx (.xd [(n, v)])) G dx (.xd [(n, v)]) := ⟨_, Z.ns.at (fun o e => (gk dx Z.dne).trans e), fun f => relO_one rv f⟩
  have J : Inv X pins σ (upd H1 dx (.xd [(n, v)])) ⟨G, g, d, tk, os⟩ := I1.laid (t' := tk) oldG big ob
  refine hq (hp.objs.size + 1) dx ⟨h', g, d, tk, os⟩ G ⟨J, fun b o e => ?_, ge, Z.obj, I1.hok.fresh (Nat.le_succ _), I1.hok.fresh big, Z.dne.symm⟩ rfl rfl
  by_cases hb : b = hp.objs.size + 1
  · rw [hb, ge] at e
    cases e
  · rw [← gk b hb]
    exact e
end
end FX

set_option maxHeartbeats 2000000
namespace FX
open PySem PySem.Spec PyProof.Rows L2 FL
/-- what an own exception class says of its attributes -/
structure XK (K : Frg) (C : Addr) : Prop where
  ga : PySem.W.findIn K (.ref C) "__getattribute__" = some (some (.builtin "BaseException.__getattribute__"))
  gg : PySem.W.findIn K (.ref C) "__getattr__" = some none
  ex : PySem.W.subIn K (.ref C) (.type "BaseException") = some true
  hd : PySem.W.hasDictIn K C = true
  ca : PySem.W.findIn K (.ref C) "__class__" = some (some (.builtin "object.__class__"))
  cn : PySem.W.specialIn K (.builtin "object.__class__") "__get__" = some (some (.builtin "getset_descriptor.__get__"))
  ct : PySem.W.takesIn K (.builtin "object.__class__") = some true
  cm : PySem.W.mroIn K C (.type "object") = some true
theorem XK.cl {K : Frg} {C : Addr} (T : XK K C) : (PySem.W.clsIn K C).isSome = true := by
  obtain ⟨cd, h, _⟩ := PySem.W.any_some T.hd
  rw [h]
  rfl
section
variable {X : Cx} {pins : List (Addr × Obj)} {σ : L2.St} {H : Hp} {s : Shared} {a C : Addr} {d : Option Addr} {ι : List Addr} {fs : List (Str × V)}
theorem xo_at {P : Program} {w : World} {h : Heap} (ok : HOk P w H h) (e : H a = some (XO C d a)) : ∃ t, h.get? a = some (xobj C t d) := (ok a _ e).1
theorem xo_ok {P : Program} {w : World} {h : Heap} {t : Addr} (e : h.get? a = some (xobj C t d)) : ObjOk P w H h a (XO C d a) :=
  ⟨⟨t, e⟩, ⟨_, e⟩, fun _ _ ⟨t, q⟩ k => ⟨t, k _ q⟩⟩
theorem xo_inst (I : Inv X pins σ H s) (e : H a = some (XO C d a)) (z : XD H ι d fs) : ∃ ox od, PySem.W.InstAt s.heap a ox C od ∧ ((d = none ∧ od = none) ∨ ∃ (d' : Addr) (oD : Obj) (mA : Str → Option Value), d = some d' ∧ od = some oD ∧ (∀ f, PySem.W.lookIn f oD = some (mA f)) ∧ ∀ f, L2.RelO (fs.lookup f) (mA f)) := by
  obtain ⟨t, ho⟩ := xo_at I.hok e
  rcases z with ⟨_, rfl⟩ | ⟨d', rfl, _, e'⟩
  · exact ⟨_, none, ⟨ho, rfl, rfl, trivial⟩, .inl ⟨rfl, rfl⟩⟩
  · obtain ⟨mA, hn, hr⟩ := (show ∃ mA, s.heap.Ns1 d' mA ∧ ∀ f, L2.RelO (fs.lookup f) (mA f) from I.hok d' _ e')
    obtain ⟨oD, hD, hl⟩ := lookIn_ns hn
    exact ⟨_, some oD, ⟨ho, rfl, rfl, hD⟩, .inr ⟨d', oD, mA, rfl, rfl, hl, hr⟩⟩
end
section
variable {X : Cx} {x n : Str} {e : Expr} {ta te : TE} {p pos : Pos} {C : Addr}
/-- X(e), no __init__ of its own -/
theorem pe_x1 {bmB : List Value} {B newId initId : String} (F : ExcBaseFacts B newId initId bmB) (q : PySem.W.excIn X.K C bmB newId = true) (gC : X.mg x = some (.ref C)) (kC : PySem.W.keepIn X.K (.ref C) = true) (hg : Gl X x)
    (he : PE X e ta) (hs : starEach [e] X.env = (false, eval e X.env) :: starEach [] X.env := by rfl) (hdb : (x == ("__debug__" : Str)) = false := by decide) :
    PE X (.Call (.Name x p) [e] [] pos) (fun σ H Q => ta σ H fun _ H1 => ∀ a, H1 a = none → Q (.ref a) (upd H1 a (XO C none a))) := by
  refine ⟨fun pins s σ H Q I h => ?_⟩
  refine wpAny_Call_Name_kw (ld_glob I hg gC ?_ hdb)
  refine PySem.W.callWith_K (h₀ := X.base) I.ok.mod.kin kC ?_ hs (by rfl)
  rw [hs]
  show wpAny _ _ (spliced ((false, eval e X.env) :: backTo pos (starEach [] X.env))) _ _ s
  refine Calls.spliced_cons (thn (he.run pins s σ H _ I h) fun u s1 ⟨v, H1, I1, r1, q1⟩ => Calls.spliced_nil ⟨I1.kIn, ?_⟩)
  show wpAny _ _ (call (.ref C) [u]) _ _ _
  obtain ⟨bm, N, nm, qn, bs, hdct, sn, sub, ab, col, dd, k0, k1, k2, k3, k5, mN, hC, hN, hni, T⟩ := exc_obj I1.kIn q
  refine wpAny_call_exc_subT F T hC hN hni (fun h' a hm => ?_) (by show 1 ≤ sizeLine; rw [sizeLine_eq]; omega)
  have hn : H1 a = none := I1.hok.gone hm.new
  obtain ⟨t, ht, _, _⟩ := hm.there
  exact ⟨.ref a, _, I1.laidN hm.keeps hm.new hn (xo_ok ht), rfl, q1 a hn⟩
/-- X(e), its __init__ keeps e -/
theorem made_x {k : Nat} (T : Sup X.prog X.K C n) (hr : Room k X.A) (hsup : X.mg "super" = none) (gC : X.mg x = some (.ref C)) (hg : Gl X x) (he : PE X e ta) {pins : List (Addr × Obj)} {s : Shared} {σ : L2.St} {H : Hp} {Q : Value → Shared → Prop} {R : VK} (I : Inv X pins σ H s) (h : ta σ H R)
    (hR : ∀ (v : V) (H1 : Hp) (s1 s' : Shared) (a d : Addr) (G : Heap), R v H1 → Inv X pins σ H1 s1 → Made X pins σ H1 C a d n v s' G → s'.os = s1.os → s'.gens = s1.gens → Q (.ref a) s')
    (hs : starEach [e] X.env = (false, eval e X.env) :: starEach [] X.env := by rfl) (hdb : (x == ("__debug__" : Str)) = false := by decide) :
    wpAny (model X.prog X.w) X.A (eval (.Call (.Name x p) [e] [] pos) X.env) Q X.xe s := by
  refine wpAny_Call_Name_kw (ld_glob I hg gC ?_ hdb)
  refine PySem.W.callWith_K (h₀ := X.base) I.ok.mod.kin T.kC ?_ hs (by rfl)
  rw [hs]
  show wpAny _ _ (spliced ((false, eval e X.env) :: backTo pos (starEach [] X.env))) _ _ s
  refine Calls.spliced_cons (thn (he.run pins s σ H _ I h) fun u s1 ⟨v, H1, I1, r1, q1⟩ => Calls.spliced_nil ⟨I1.kIn, ?_⟩)
  exact made_call T hr hsup I1 r1 fun a d s' G m o g => hR v H1 s1 s' a d G q1 I1 m o g
theorem pe_xI {k : Nat} (T : Sup X.prog X.K C n) (hr : Room k X.A) (hsup : X.mg "super" = none) (gC : X.mg x = some (.ref C)) (hg : Gl X x) (he : PE X e ta)
    (hs : starEach [e] X.env = (false, eval e X.env) :: starEach [] X.env := by rfl) (hdb : (x == ("__debug__" : Str)) = false := by decide) :
    PE X (.Call (.Name x p) [e] [] pos) (fun σ H Q => ta σ H fun v H1 => ∀ a d, H1 a = none → H1 d = none → a ≠ d → Q (.ref a) (upd (upd H1 d (.xd [(n, v)])) a (XO C (some d) a))) := by
  refine ⟨fun pins s σ H Q I h => made_x T hr hsup gC hg he I h (fun v H1 s1 s' a d G q I1 m _ _ => ?_) hs hdb⟩
  obtain ⟨t, ho⟩ := m.obj
  have na : (upd H1 d (.xd [(n, v)])) a = none := by
    rw [upd_ne m.ne]
    exact m.na
  have J := m.inv.laidN (h' := s'.heap) (t' := s'.toks) m.keep m.none na (xo_ok ho)
  exact ⟨.ref a, _, J, rfl, q a d m.na m.nd m.ne⟩
theorem pmk_xI {k : Nat} (T : Sup X.prog X.K C n) (hr : Room k X.A) (hsup : X.mg "super" = none) (gC : X.mg x = some (.ref C)) (hg : Gl X x) (he : PE X e ta)
    (hs : starEach [e] X.env = (false, eval e X.env) :: starEach [] X.env := by rfl) (hdb : (x == ("__debug__" : Str)) = false := by decide) :
    PMk X (.Call (.Name x p) [e] [] pos) (fun σ H Q => ta σ H fun v H1 => ∀ d, H1 d = none → Q (.ref C) (some d) (upd H1 d (.xd [(n, v)]))) := by
  intro pins s σ H Q I h
  refine made_x T hr hsup gC hg he I h (fun v H1 s1 s' a d G q I1 m ho hg => ?_) hs hdb
  obtain ⟨t, hx⟩ := m.obj
  refine ⟨a, _, _, { s' with heap := G }, _, .ref C, some d, rfl, m.inv, m.keep, m.none, hx, ⟨rfl, rfl⟩, rfl, rfl, ?_, rfl, ?_, T.raises, q d m.nd⟩
  · rw [upd_ne m.ne]
    exact m.na
  · exact m.inv.bare
/-- e.n of an own exception -/
theorem pe_xf (he : PE X e te) (hb : attributeBase e n X.env (eval e X.env) = eval e X.env := by rfl) :
    PE X (.Attribute e n pos) (fun σ H Q => te σ H fun x H1 => ∃ (a C : Addr) (d : Option Addr) (ι : List Addr) (fs : List (Str × V)) (v : V), x = .ref a ∧ XK X.K C ∧ PySem.W.findIn X.K (.ref C) n = some none ∧ H1 a = some (XO C d a) ∧ XD H1 ι d fs ∧ fs.lookup n = some v ∧ Q v H1) := by
  refine ⟨fun pins s σ H Q I h => attr_of hb (thn (he.run pins s σ H _ I h) fun u s1 hh => ?_)⟩
  obtain ⟨x, H1, I1, rx, a, C, d, ι, fs, v, ex, T, hno, ea, z, l, q⟩ := hh
  subst ex
  obtain rfl : u = Value.ref a := rx
  obtain ⟨ox, od, J, k⟩ := xo_inst I1 ea z
  rcases k with ⟨rfl, rfl⟩ | ⟨d', oD, mA, rfl, rfl, hl, hr⟩
  · rcases z with ⟨rfl, _⟩ | ⟨_, z, _⟩
    · cases l
    · cases z
  · have r := hr n
    rw [l] at r
    obtain ⟨w, hw, rw⟩ := RelO.some_of r
    exact PySem.HandSPX.exc_get I1.kIn J T.ga T.gg T.ex (PySem.W.findObj_own T.hd hno rfl (by rw [hl, hw])) (handed_of rw) ⟨v, H1, I1.tok _, rw, q⟩
/-- isinstance(e, c) -/
theorem call_isX : CallR X (.builtin "isinstance") (fun xs H Q => ∃ (a C : Addr) (d : Option Addr) (ι : List Addr) (fs : List (Str × V)) (c : V) (cv : Value) (b : Bool), xs = [.ref a, c] ∧ XK X.K C ∧ H a = some (XO C d a) ∧ XD H ι d fs ∧
    (∀ u, RelV c u → u = cv) ∧ PySem.W.kitOne X.K (.ref C) cv = some b ∧ Q (.bl b) H) := by
  intro pins s σ H xs us Q I r h
  obtain ⟨a, C, d, ι, fs, c, cv, b, rfl, T, ea, z, hcv, e, q⟩ := h
  obtain ⟨u1, u2, rfl, r1, r2⟩ := vals2 r
  obtain rfl : u1 = Value.ref a := r1
  have e2 := hcv _ r2
  subst e2
  obtain ⟨ox, od, J, _⟩ := xo_inst I ea z
  exact PySem.W.kia_one (PySem.W.kitx_exc T.cl T.ga T.gg T.ex T.ca T.cn T.ct T.cm) I.kIn J e (fun z => nomatch z) fun tk => ⟨.bl b, H, I.tok tk, rfl, q⟩
end
end FX

namespace FX
open PySem PySem.Spec PyProof.Rows L2 FL
/-- X(e), no __init__ of its own -/
def eX1 (c : Str) (f : Ev D) : Ev D := fun ρ M => (f ρ M).bind fun _ M1 => .ok (.ob M1.length) (M1 ++ [.exc c []])
/-- X(e), kept as n -/
def eXI (c n : Str) (f : Ev D) : Ev D := fun ρ M => (f ρ M).bind fun w M1 => .ok (.ob M1.length) (M1 ++ [.exc c [(n, w)]])
/-- e.n, e one of cs -/
def gXf (cs : List Str) (n : Str) : G1 := fun w M => match w with
  | .ob k => match M[k]? with
    | some (.exc c fs) => if c ∈ cs then match fs.lookup n with
      | some v => .ok v M
      | none => .stuck
      else .stuck
    | _ => .stuck
  | _ => .stuck
def eXf (cs : List Str) (n : Str) (f : Ev D) : Ev D := fun ρ M => (f ρ M).bind (gXf cs n)
/-- isinstance(e, c): tb tells it by e's class -/
def gIsX (tb : Str → Option Bool) : G1 := fun w M => match w with
  | .ob k => match M[k]? with
    | some (.exc c _) => match tb c with
      | some b => .ok (.bl b) M
      | none => .stuck
    | _ => .stuck
  | _ => .stuck
def eIsX (tb : Str → Option Bool) (f : Ev D) : Ev D := fun ρ M => (f ρ M).bind (gIsX tb)
/-- raise X(e) -/
def sRaiseI (c n : Str) (f : Ev D) : Es := fun ρ M => (f ρ M).sk ρ fun w M1 => .exc c [(n, w)] ρ M1
section
variable {X : Cx} {x n : Str} {e ec : Expr} {f : Ev D} {p pos pos2 : Pos} {C : Addr}
theorem mem_x {K : FL.Ctx} {H : Hp} {ι : List Addr} {M : MH} {k : Nat} {a : Addr} {c : Str} {fs : List (Str × D)} (m : MemD K H ι M) (h : M[k]? = some (.exc c fs)) (ha : ι[k]? = some a) :
    ∃ C d vs, ClsN K.K c (.ref C) ∧ H a = some (XO C d a) ∧ XD H ι d ((fs.map (·.1)).zip vs) ∧ RelDs K H ι (fs.map (·.2)) vs := by
  obtain ⟨d, vs, ⟨C, hC, h⟩, z, r⟩ := m.obj _ _ _ h ha
  exact ⟨C, d, vs, hC, h, z, r⟩
theorem fe_x1 {bmB : List Value} {B newId initId : String} (F : ExcBaseFacts B newId initId bmB) (cl : ClsN X.K x (.ref C)) (q : PySem.W.excIn X.K C bmB newId = true) (gC : X.mg x = some (.ref C)) (kC : PySem.W.keepIn X.K (.ref C) = true) (hg : Gl X x)
    (he : FE X e f) (hs : starEach [e] X.env = (false, eval e X.env) :: starEach [] X.env := by rfl) (hdb : (x == ("__debug__" : Str)) = false := by decide) : FE X (.Call (.Name x p) [e] [] pos) (eX1 x f) :=
  ⟨fun Wx tk => PE.imp (pe_x1 F q gC kC hg (he.run Wx tk) hs hdb) fun σ H Q ⟨ρ, M, ι, hS, hM, h⟩ => (TD.bind hS hM h).mono fun v H1 ⟨w, M1, ι1, x1, s, m, r, g⟩ => by
    intro a ha
    have xa : Ext H1 ι1 (upd H1 a (XO C none a)) (ι1 ++ [a]) := Ext.add ha
    have m2 : MemD X.cx (upd H1 a (XO C none a)) (ι1 ++ [a]) (M1 ++ [.exc x []]) := m.add ha ⟨none, [], ⟨C, cl, upd_same⟩, .inl ⟨rfl, rfl⟩, .nil⟩
    exact g _ _ xa m2 _ (.ob (by rw [← m.len]; exact List.getElem?_concat_length))⟩
theorem fe_xI {k : Nat} (T : Sup X.prog X.K C n) (hr : Room k X.A) (cl : ClsN X.K x (.ref C)) (hsup : X.mg "super" = none) (gC : X.mg x = some (.ref C)) (hg : Gl X x)
    (he : FE X e f) (hs : starEach [e] X.env = (false, eval e X.env) :: starEach [] X.env := by rfl) (hdb : (x == ("__debug__" : Str)) = false := by decide) : FE X (.Call (.Name x p) [e] [] pos) (eXI x n f) :=
  ⟨fun Wx tk => PE.imp (pe_xI T hr hsup gC hg (he.run Wx tk) hs hdb) fun σ H Q ⟨ρ, M, ι, hS, hM, h⟩ => (TD.bind hS hM h).mono fun v H1 ⟨w, M1, ι1, x1, s, m, r, g⟩ => by
    intro a d ha hd ne
    have xd : Ext H1 ι1 (upd H1 d (.xd [(n, v)])) ι1 := Ext.new hd
    have md : MemD X.cx (upd H1 d (.xd [(n, v)])) ι1 M1 := m.new hd
    have ha2 : (upd H1 d (.xd [(n, v)])) a = none := by rw [upd_ne ne]; exact ha
    have xa : Ext (upd H1 d (.xd [(n, v)])) ι1 (upd (upd H1 d (.xd [(n, v)])) a (XO C (some d) a)) (ι1 ++ [a]) := Ext.add ha2
    have dn : d ∉ ι1 ++ [a] := fun z => by
      rcases List.mem_append.mp z with z | z
      · obtain ⟨i, hi⟩ := List.getElem?_of_mem z
        obtain ⟨o, ho⟩ := m.there i d hi
        rw [hd] at ho
        cases ho
      · have e : d = a := by simpa using z
        exact ne e.symm
    have m2 := md.add (mo := .exc x [(n, w)]) ha2 ⟨some d, [v], ⟨C, cl, upd_same⟩, .inr ⟨d, rfl, dn, by rw [upd_ne ne.symm, upd_same]; rfl⟩, .cons (r.ext (xd.trans xa)) .nil⟩
    exact g _ _ (xd.trans xa) m2 _ (.ob (by rw [← m.len]; exact List.getElem?_concat_length))⟩
theorem lookup_zip {K : FL.Ctx} {H : Hp} {ι : List Addr} {n : Str} {v : D} : ∀ {fs : List (Str × D)} {vs : List V}, RelDs K H ι (fs.map (·.2)) vs → fs.lookup n = some v → ∃ u, ((fs.map (·.1)).zip vs).lookup n = some u ∧ RelD K H ι v u
  | [], _, _, h => by cases h
  | (k, w) :: fs, _, .cons (v := u) r rs, h => by
    by_cases e : n = k
    · subst e
      simp only [List.lookup, beq_self_eq_true, Option.some.injEq] at h
      subst h
      exact ⟨u, by simp [List.lookup], r⟩
    · have e1 : (n == k) = false := by simpa using e
      simp only [List.lookup, e1] at h
      obtain ⟨y, h1, h2⟩ := lookup_zip rs h
      exact ⟨y, by simp [List.lookup, e1, h1], h2⟩
theorem fe_xf {cs : List Str} (hT : ∀ c ∈ cs, ∃ C, ClsN X.K c (.ref C) ∧ XK X.K C ∧ PySem.W.findIn X.K (.ref C) n = some none) (he : FE X e f) (hb : attributeBase e n X.env (eval e X.env) = eval e X.env := by rfl) : FE X (.Attribute e n pos) (eXf cs n f) :=
  ⟨fun Wx tk => PE.imp (pe_xf (he.run Wx tk) hb) fun σ H Q ⟨ρ, M, ι, hS, hM, h⟩ => (TD.bind hS hM h).mono fun v H1 ⟨w, M1, ι1, x1, s, m, r, g⟩ => by
    unfold gXf at g
    split at g
    · rename_i k
      split at g
      · rename_i c fs hk
        split at g
        · rename_i hc
          split at g
          · rename_i y hy
            cases r with
            | @ob _ a ha =>
              obtain ⟨C, d, vs, hC, ea, z, rr⟩ := mem_x m hk ha
              obtain ⟨C', hC', T, hn⟩ := hT c hc
              obtain rfl : C = C' := by injection hC.eq hC'
              obtain ⟨u, hu, ru⟩ := lookup_zip rr hy
              exact ⟨a, C, d, ι1, _, u, rfl, T, hn, ea, z, hu, g H1 ι1 (Ext.refl _ _) m _ ru⟩
          · exact g.elim
        · exact g.elim
      · exact g.elim
    · exact g.elim⟩
theorem fe_isX {tb : Str → Option Bool} {c : V} {cv : Value} (hg : Gl X "isinstance") (hm : X.mg "isinstance" = none) (he : FE X e f) (hc : PE X ec (tC c)) (hcv : ∀ u, RelV c u → u = cv)
    (hT : ∀ n b, tb n = some b → ∃ C, ClsN X.K n (.ref C) ∧ XK X.K C ∧ PySem.W.kitOne X.K (.ref C) cv = some b)
    (hs : starEach (e :: [ec]) X.env = (false, eval e X.env) :: starEach [ec] X.env := by rfl) (hs2 : (backTo pos (starEach [ec] X.env)).any (·.1) = false := by rfl) (hs3 : starEach [ec] X.env = (false, eval ec X.env) :: starEach [] X.env := by rfl) :
    FE X (.Call (.Name "isinstance" p) [e, ec] [] pos) (eIsX tb f) :=
  ⟨fun Wx tk => PE.imp (pe_callB call_isX hg hm (by kernel_rfl) (pa_cons (he.run Wx tk) (pa_cons hc pa_nil hs3) hs) (by decide) (by decide) hs hs2) fun σ H Q ⟨ρ, M, ι, hS, hM, h⟩ => (TD.bind hS hM h).mono fun v H1 ⟨w, M1, ι1, x1, s, m, r, g⟩ => by
    unfold gIsX at g
    split at g
    · rename_i k
      split at g
      · rename_i n fs hk
        split at g
        · rename_i b hb
          cases r with
          | @ob _ a ha =>
            obtain ⟨C, d, vs, hC, ea, z, rr⟩ := mem_x m hk ha
            obtain ⟨C', hC', T, hn⟩ := hT n b hb
            obtain rfl : C = C' := by injection hC.eq hC'
            exact ⟨a, C, d, ι1, _, c, cv, b, rfl, T, ea, z, hcv, hn, g H1 ι1 (Ext.refl _ _) m _ (.bl b)⟩
        · exact g.elim
      · exact g.elim
    · exact g.elim⟩
theorem fs_raiseI {k : Nat} (hcalm : X.calm = true) (T : Sup X.prog X.K C n) (hr : Room k X.A) (cl : ClsN X.K x (.ref C)) (hsup : X.mg "super" = none) (gC : X.mg x = some (.ref C)) (hg : Gl X x)
    (he : FE X e f) (hs : starEach [e] X.env = (false, eval e X.env) :: starEach [] X.env := by rfl) (hdb : (x == ("__debug__" : Str)) = false := by decide) :
    FS X (.Raise (some (.Call (.Name x p) [e] [] pos)) none pos2) (sRaiseI x n f) :=
  ⟨fun Wx tk => PS.imp (ps_raise hcalm tk (pmk_xI T hr hsup gC hg (he.run Wx tk) hs hdb)) fun Dd σ H ⟨ρ, M, ι, hS, hM, g⟩ => (TD.sk hS hM g).mono fun v H1 ⟨w, M1, ι1, x1, s1, m1, r1, g1⟩ => by
    intro d hd
    have xd : Ext H1 ι1 (upd H1 d (.xd [(n, v)])) ι1 := Ext.new hd
    exact g1 _ cl (some d) σ _ ι1 xd (s1.ext xd) (m1.new hd) fun _ => ⟨d, [v], rfl, upd_same, .cons (r1.ext xd) .nil⟩⟩
end
end FX

set_option maxHeartbeats 2000000
namespace FX
open PySem PySem.Spec PyProof.Rows L2 FL
/-- a clause's test: a class's name, or two in a tuple -/
inductive Clz (X : Cx) : Expr → List Value → Prop
  | one {x : Str} {c : Value} {p : Pos} (h : Names X x c) : Clz X (.Name x p) [c]
  | two {x y : Str} {c d : Value} {p q r : Pos} {k : Nat} (h : Names X x c) (h2 : Names X y d) : Clz X (.Tuple [.Name x p, .Name y q] k r) [c, d]
/-- what the clauses wish of an exception of the body -/
def wAny (K : Frg) (Wout : WX) (Dd : Ends) : List (List Value × (Addr → Value → Option Addr → TS)) → WX
  | [] => Wout
  | (cs, ts) :: r => fun cls d σ H => ∃ b, PySem.W.exmAny K cls cs = some b ∧ (b = true → ∀ a, H a = none → ts a cls d Dd σ H) ∧ (b = false → wAny K Wout Dd r cls d σ H)
inductive Hds (X : Cx) : List ExceptHandler → List (List Value × (Addr → Value → Option Addr → TS)) → Prop
  | nil : Hds X [] []
  | cons {e : Expr} {cs : List Value} {ts : Addr → Value → Option Addr → TS} {b0 : Stmt} {suite : List Stmt} {p : Pos} {hs : List ExceptHandler} {l : List (List Value × (Addr → Value → Option Addr → TS))} (hc : Clz X e cs)
      (hsu : ∀ (a : Addr) (oe : Obj) (cls : Value) (d : Option Addr) (pn : List (Addr × Obj)), Zc cls d oe → (∃ vs, oe.data = .fields vs) → PSs (X.suite a ((a, oe) :: pn)) (b0 :: suite) (ts a cls d)) (r : Hds X hs l) :
      Hds X (.ExceptHandler (some e) none (b0 :: suite) p :: hs) ((cs, ts) :: l)
/-- an exception over the state sI, which is s' without it -/
structure Air (X : Cx) (pins : List (Addr × Obj)) (σ : L2.St) (H : Hp) (sI s' : Shared) (B : Heap) (a : Addr) (cls : Value) (d : Option Addr) : Prop where
  inv : Inv X pins σ H sI
  nb : ∀ b o, sI.heap.get? b = some o → b ∉ frs X.stack → B.get? b = some o
  up : sI.heap.UpToSlots s'.heap
  fl : PySem.HandSPX.FlyingZ B (X.env :: X.outer) a (Zc cls d) s'.heap
  na : H a = none
  os : s'.os = sI.os
  ag : AllBare s'.gens
section
variable {X : Cx} {pins : List (Addr × Obj)} {σ : L2.St} {H : Hp} {sI s' : Shared} {B : Heap} {a : Addr} {cls : Value} {d : Option Addr}
theorem Air.land (A : Air X pins σ H sI s' B a cls d) : Inv X pins σ H s' := A.inv.landed A.nb A.fl.1 A.up A.os A.ag
theorem Air.go (A : Air X pins σ H sI s' B a cls d) {h : Heap} (fl : PySem.HandSPX.FlyingZ B (X.env :: X.outer) a (Zc cls d) h) (up : s'.heap.UpToSlots h) : Air X pins σ H sI { s' with heap := h } B a cls d :=
  ⟨A.inv, A.nb, A.up.trans up, fl, A.na, A.os, A.ag⟩
theorem fly_keeps {l : List Env} {Z : Obj → Prop} {h h' : Heap} (fl : PySem.HandSPX.FlyingZ B l a Z h) (k : ∀ b o, h.get? b = some o → h'.get? b = some o) : PySem.HandSPX.FlyingZ B l a Z h' := by
  obtain ⟨f1, f2, f3, oe, vs, T, oT, ts, e1, e2, e3, e4, e5, e6, e7, e8, e9⟩ := fl
  exact ⟨fun b o e => k b o (f1 b o e), f2, Heap.FunFrames.of_keeps (fun b o e _ => ⟨o, k b o e, rfl⟩) f3, oe, vs, T, oT, ts, k _ _ e1, e2, e3, e4, e5, e6, k _ _ e7, e8, e9⟩
theorem Air.keeps (A : Air X pins σ H sI s' B a cls d) {h : Heap} (k : ∀ b o, s'.heap.get? b = some o → h.get? b = some o) : Air X pins σ H sI { s' with heap := h } B a cls d :=
  A.go (fly_keeps A.fl k) (Heap.UpToSlots.of_keeps k)
theorem Air.suite (ok : X.Ok) (hs : X.stack = X.env :: X.outer) (hf : X.env.frame = some X.env.locals) (A : Air X pins σ H sI s' B a cls d) :
    ∃ oe vs, s'.heap.get? a = some oe ∧ Zc cls d oe ∧ oe.data = .fields vs ∧ Inv (X.suite a ((a, oe) :: (X.pn ++ pins))) [] σ H s' := by
  obtain ⟨oe, vs, he, hz, hd⟩ := A.fl.there
  have nfr : a ∉ frs (X.env :: X.outer) := fun hm => by
    obtain ⟨_, o, e, hnf⟩ := A.fl.2.2.1.mem hm
    rw [he] at e
    cases e
    exact hnf _ hd
  have nL : a ≠ X.env.locals := fun z => nfr (List.mem_filterMap.mpr ⟨X.env, List.mem_cons_self, by rw [hf, z]⟩)
  have nF : a ∉ X.fs := fun hm => by
    obtain ⟨e, he, q⟩ := List.mem_filterMap.mp hm
    exact nfr (List.mem_filterMap.mpr ⟨e, List.mem_cons_of_mem _ he, q⟩)
  exact ⟨oe, vs, he, hz, hd, A.land.suite he hd A.na nL nF⟩
theorem name_at {x : Str} {c : Value} {p : Pos} {Q : Value → Shared → Prop} {E : Value → Shared → Prop} (ok : X.Ok) (hs : X.stack = X.env :: X.outer) (hf : X.env.frame = some X.env.locals) (A : Air X pins σ H sI s' B a cls d) (h : Names X x c) (q : Q c s') :
    wpAny (model X.prog X.w) (X.A.mark (some (.ref a))) (eval (.Name x p) X.env) Q E s' := by
  obtain ⟨oe, vs, he, hz, hd, S⟩ := A.suite ok hs hf
  obtain ⟨hg, hdbg, hm | ⟨hm, hv, hnn⟩⟩ := h
  · exact ld_glob (X := X.suite a ((a, oe) :: (X.pn ++ pins))) S hg hm q hdbg
  · exact ld_blt (X := X.suite a ((a, oe) :: (X.pn ++ pins))) S hg hm hv q hnn hdbg
theorem Air.looks (A : Air X pins σ H sI s' B a cls d) : PySem.W.Looks (model X.prog X.w) s'.heap (typeOf (.ref a)) cls := fun M Q E s k q => by
  obtain ⟨oe, vs, he, hz, hd⟩ := A.fl.there
  exact wpAny_typeOf_ref (k _ _ he) (by rw [hz.1]; exact q)
theorem test_any {e : Expr} {cs : List Value} {b : Bool} (ok : X.Ok) (hs : X.stack = X.env :: X.outer) (hf : X.env.frame = some X.env.locals) (hc : Clz X e cs) (A : Air X pins σ H sI s' B a cls d) (hx : PySem.W.exmAny X.K cls cs = some b)
    {Q : Bool → Shared → Prop} {E E2 : Value → Shared → Prop} (hq : ∀ s2, Air X pins σ H sI s2 B a cls d → Q b s2) :
    wpAny (model X.prog X.w) (X.A.mark (some (.ref a))) (eval e X.env) (fun c s1 => wpAny (model X.prog X.w) (X.A.mark (some (.ref a))) (excMatches (.ref a) c) Q E s1) E2 s' := by
  cases hc with
  | one h =>
    refine name_at ok hs hf A h ?_
    obtain ⟨b1, d1, x1, x2, rfl⟩ := PySem.W.exmAny_cons hx
    have e0 : d1 = false := by
      unfold PySem.W.exmAny at x2
      exact (Option.some.inj x2).symm
    subst e0
    rw [Bool.or_false] at *
    exact (PySem.W.exm_one A.land.kIn A.looks x1).here (hq _ A)
  | @two x y c c2 p q r k h h2 =>
    refine wpAny_Tuple_spliced ?_
    show wpAny _ _ (spliced ((false, eval (.Name x p) X.env) :: backTo r (starEach [.Name y q] X.env))) _ _ _
    refine Calls.spliced_cons (name_at ok hs hf A h ?_)
    show wpAny _ _ (spliced ((false, eval (.Name y q) X.env) :: backTo r (starEach [] X.env))) _ _ _
    refine Calls.spliced_cons (name_at ok hs hf A h2 (Calls.spliced_nil ⟨by show 2 ≤ sizeLine; rw [sizeLine_eq]; omega, ?_⟩))
    have kp : ∀ b o, s'.heap.get? b = some o → (s'.heap.push { cls := .type "tuple", data := .seq [c, c2].toArray }).get? b = some o := fun b o e => Heap.get?_push_of_some _ e
    have A2 := A.keeps kp
    exact (PySem.W.exm_tup2 A2.land.kIn A2.looks (Heap.get?_push_size _ rfl) hx).here (hq _ A2)
end
end FX

set_option maxHeartbeats 2000000
namespace FX
open PySem PySem.Spec PyProof.Rows L2 FL
section
variable {X : Cx} {pins : List (Addr × Obj)} {σ : L2.St} {H : Hp} {sI : Shared} {B : Heap} {a : Addr} {cls : Value} {d : Option Addr} {Wout : WX} {Dd : Ends}
/-- the clauses, one after the other -/
theorem hands_any (ok : X.Ok) (hs : X.stack = X.env :: X.outer) (hf : X.env.frame = some X.env.locals) (tk : Takes X Wout) {hds : List ExceptHandler} {l : List (List Value × (Addr → Value → Option Addr → TS))} (hh : Hds X hds l) :
    ∀ {s' : Shared}, Air X pins σ H sI s' B a cls d → wAny X.K Wout Dd l cls d σ H → wpAny (model X.prog X.w) X.A (handleBy (.ref a) X.env hds) (SP X pins Dd) X.xe s' := by
  induction hh with
  | nil =>
    intro s' A w
    refine wpAny_handleBy_nil ?_
    have fl := A.fl
    obtain ⟨_, _, _, oe, vs, T, oT, ts, e1, e2, e3, e4, e5⟩ := id fl
    unfold PySem.passOn
    refine wpAny_bind (wpAny_field e1 e3 e4 ?_)
    rw [if_neg (show ¬ ((Value.ref T == Value.none) = true) from by simp)]
    have fin : wpAny (model X.prog X.w) X.A (setFlight (.ref a) X.env.frame) (fun _ s4 => wpAny (model X.prog X.w) X.A (throw (.ref a) : Sem Flow) (SP X pins Dd) X.xe s4) X.xe s' := by
      rw [hf]
      refine PySem.HandSPX.setFlight_upZ fl fun h4 q4 u4 => wpAny_throw (tk _ _ ?_)
      refine ⟨a, B, sI, pins, σ, H, cls, d, rfl, A.inv, A.nb, A.up.trans u4, .inr (.inr ?_), A.na, A.os, A.ag, w⟩
      rw [hs]
      exact q4
    first
      | exact wpAny_bind (wpAny_pure (wpAny_bind fin))
      | exact wpAny_bind fin
  | @cons e cs ts b0 suite p hs' l' hc hsu r ih =>
    intro s' A w
    obtain ⟨b, hx, yes, no⟩ := w
    refine wpAny_handleBy_cons (codeAny_handlers_test (test_any ok hs hf hc A hx fun s2 A2 => ?_)) (by intro q; cases q)
    cases b with
    | false => exact ih A2 (no rfl)
    | true =>
      refine codeAny_handlers_suite (PySem.HandSPX.lands_againZ A2.fl fun h4 f4 u4 => ?_)
      have A4 := A2.go f4 u4
      obtain ⟨oe, vs, he, hz, hd, S⟩ := A4.suite ok hs hf
      refine wpAny_mono ((hsu a oe cls d (X.pn ++ pins) hz ⟨_, hd⟩).run [] _ _ H _ S (yes rfl a A.na)) (fun f s6 q => ?_) (fun _ _ z => False.elim z)
      cases f with
      | ret u =>
        obtain ⟨v6, σ6, H6, S6, r6, q6⟩ := q
        exact ⟨_, _, _, S6.unsuite ok, r6, q6⟩
      | next =>
        obtain ⟨σ6, H6, S6, q6⟩ := q
        exact ⟨_, _, S6.unsuite ok, q6⟩
      | brk =>
        obtain ⟨σ6, H6, S6, q6⟩ := q
        exact ⟨_, _, S6.unsuite ok, q6⟩
      | cont =>
        obtain ⟨σ6, H6, S6, q6⟩ := q
        exact ⟨_, _, S6.unsuite ok, q6⟩
end
theorem ps_try_any {X : Cx} {body : List Stmt} {h0 : ExceptHandler} {hds : List ExceptHandler} {l : List (List Value × (Addr → Value → Option Addr → TS))} {pos : Pos} {tb : WX → TS} {Wout : WX} (hs : X.stack = X.env :: X.outer) (hf : X.env.frame = some X.env.locals) (tk : Takes X Wout)
    (hb : ∀ (W : WX) (pn : List (Addr × Obj)) (xe : Value → Shared → Prop), Takes (X.tr pn xe) W → PassesOwn (model X.prog X.w) X.A X.env xe → PSs (X.tr pn xe) body (tb W))
    (hh : Hds X (h0 :: hds) l) : PS X (.Try body (h0 :: hds) [] [] pos) (fun Dd σ H => tb (wAny X.K Wout Dd l) Dd σ H) := by
  refine ⟨fun pins s σ H Dd I h => wpAny_Try_except ?_⟩
  have ok := I.ok
  have fr : X.A.frames = some (X.env :: X.outer) := by rw [ok.frames, hs]
  let xe : Value → Shared → Prop := fun e s₁ => wpAny (model X.prog X.w) X.A (noteFrame e X.env) (fun _ s₂ => wpAny (model X.prog X.w) X.A (setFlight e none)
    (fun _ s₃ => wpAny (model X.prog X.w) X.A (handleBy e X.env (h0 :: hds)) (SP X pins Dd) X.xe s₃) X.xe s₂) X.xe s₁
  have caught : Takes (X.tr (X.pn ++ pins) xe) (wAny X.K Wout Dd l) := by
    intro u s' z
    obtain ⟨a, B, sI, pins', σ', H', cls, d, rfl, J0, nb, up, sky, na, os, ag, w⟩ := z
    have J : Inv X pins σ' H' sI := J0.ofTry ok
    have sky' : Sky B (X.env :: X.outer) a (Zc cls d) X.env.locals s'.heap := by rw [← hs]; exact sky
    show wpAny (model X.prog X.w) X.A (noteFrame (.ref a) X.env) _ _ _
    refine Sky.land Zc.steady fr hf sky' fun h3 f3 u3 => ?_
    exact hands_any ok hs hf tk hh (s' := { s' with heap := h3 }) ⟨J, nb, up.trans u3, f3, na, os, ag⟩ w
  refine wpAny_mono ((hb _ _ xe caught PassesOwn.looking).run [] s σ H Dd (I.toTry _) h) (fun f s1 q => ?_) (fun _ _ z => z)
  cases f with
  | ret u =>
    obtain ⟨v, σ', H', J', r, q⟩ := q
    exact ⟨v, σ', H', J'.ofTry ok, r, q⟩
  | next =>
    obtain ⟨σ', H', J', q⟩ := q
    exact wpAny_execs_nil ⟨σ', H', J'.ofTry ok, q⟩
  | brk =>
    obtain ⟨σ', H', J', q⟩ := q
    exact ⟨σ', H', J'.ofTry ok, q⟩
  | cont =>
    obtain ⟨σ', H', J', q⟩ := q
    exact ⟨σ', H', J'.ofTry ok, q⟩
/-! ### try, on trees -/
abbrev ExT := List ((Str → Option Bool) × Es)
def noS : SR → SR
  | .exc _ _ _ _ => .stuck
  | r => r
theorem GoodS.noS {K : FL.Ctx} {H : Hp} {ι : List Addr} {Dd : Ends} {W W' : WX} {r : SR} (g : GoodS K W H ι Dd (FX.noS r)) : GoodS K W' H ι Dd r := by
  cases r with
  | exc c fs ρ M => exact g.elim
  | stuck => exact g.elim
  | nx ρ M => exact g
  | rt w M => exact g
  | bk ρ M => exact g
  | ct ρ M => exact g
def handD (c : Str) (fs : List (Str × D)) (ρ : DSt) (M : MH) : ExT → SR
  | [] => .exc c fs ρ M
  | (tb, g) :: r => match tb c with
    | some true => noS (g ρ M)
    | some false => handD c fs ρ M r
    | none => .stuck
def sTry (g : Es) (hs : ExT) : Es := fun ρ M => match g ρ M with
  | .exc c fs ρ1 M1 => handD c fs ρ1 M1 hs
  | r => r
/-- the clauses, as they stand -/
inductive HdD (X : Cx) : List ExceptHandler → ExT → Prop
  | nil : HdD X [] []
  | cons {e : Expr} {cs : List Value} {tb : Str → Option Bool} {g : Es} {b0 : Stmt} {suite : List Stmt} {p : Pos} {hs : List ExceptHandler} {l : ExT} (hc : Clz X e cs) (ht : ∀ n b, tb n = some b → ∃ cv, ClsN X.K n cv ∧ PySem.W.exmAny X.K cv cs = some b)
      (hsu : ∀ (a : Addr) (pn : List (Addr × Obj)), FSs (X.suite a pn) (b0 :: suite) g) (r : HdD X hs l) : HdD X (.ExceptHandler (some e) none (b0 :: suite) p :: hs) ((tb, g) :: l)
section
variable {X : Cx} {Wx : WX} {Dd : Ends}
/-- the clauses' readings -/
def tsOf (X : Cx) (g : Es) : Addr → Value → Option Addr → TS := fun _ _ _ => TSt X.cx (fun _ _ _ _ => False) g
theorem HdD.hds {hds : List ExceptHandler} {l : ExT} (h : HdD X hds l) : ∃ l', Hds X hds l' ∧ ∀ (c : Str) (fs : List (Str × D)) (ρ : DSt) (M : MH) (H : Hp) (ι : List Addr), GoodS X.cx Wx H ι Dd (handD c fs ρ M l) →
    ExcS X.cx H ι c fs ρ M (wAny X.K Wx Dd l') := by
  induction h with
  | nil => exact ⟨[], .nil, fun c fs ρ M H ι g => g⟩
  | @cons e cs tb g b0 suite p hs l hc ht hsu r ih =>
    obtain ⟨l', h', k⟩ := ih
    refine ⟨(cs, tsOf X g) :: l', .cons hc (fun a oe cls d pn _ _ => (hsu a ((a, oe) :: pn)).run _ takes_none5) h', fun c fs ρ M H ι q => ?_⟩
    unfold handD at q
    intro cv hcv d σ' H' ι' x rs m hf
    cases e : tb c with
    | none => rw [e] at q; exact q.elim
    | some b =>
      obtain ⟨cv', h1, h2⟩ := ht c b e
      obtain rfl := hcv.eq h1
      refine ⟨b, h2, fun hb a ha => ?_, fun hb => ?_⟩
      · subst hb
        rw [e] at q
        have q2 : GoodS X.cx Wx H ι Dd (noS (g ρ M)) := q
        exact ⟨ρ, M, ι', rs, m, FX.GoodS.noS (GoodS.ext x q2)⟩
      · subst hb
        rw [e] at q
        exact k c fs ρ M H ι q cv hcv d σ' H' ι' x rs m hf
theorem fs_try {body : List Stmt} {h0 : ExceptHandler} {hds : List ExceptHandler} {pos : Pos} {g : Es} {l : ExT} (hs : X.stack = X.env :: X.outer) (hf : X.env.frame = some X.env.locals) (hb : ∀ (pn : List (Addr × Obj)) (xe : Value → Shared → Prop), FSs (X.tr pn xe) body g) (h : HdD X (h0 :: hds) l) :
    FS X (.Try body (h0 :: hds) [] [] pos) (sTry g l) := by
  constructor
  intro Wx tk
  constructor
  intro pins s σ H Dd I q
  obtain ⟨l', h', k⟩ := h.hds (Wx := Wx) (Dd := Dd)
  refine (ps_try_any (tb := fun W => TSt X.cx W g) hs hf tk (fun W pn xe t _ => (hb pn xe).run W t) h').run pins s σ H Dd I ?_
  obtain ⟨ρ, M, ι, hS, hM, q⟩ := q
  refine ⟨ρ, M, ι, hS, hM, ?_⟩
  unfold sTry at q
  cases e : g ρ M with
  | exc c fs ρ1 M1 =>
    rw [e] at q
    exact k c fs ρ1 M1 H ι q
  | stuck => rw [e] at q; exact q.elim
  | nx ρ1 M1 => rw [e] at q; exact q
  | rt w M1 => rw [e] at q; exact q
  | bk ρ1 M1 => rw [e] at q; exact q
  | ct ρ1 M1 => rw [e] at q; exact q
end
end FX

set_option maxHeartbeats 2000000
namespace FX
open PySem PySem.Spec PyProof.Rows L2 FL
/-- what the text of an __init__ says -/
structure InitY (n : Str) (st : Stmt) : Prop where
  body : ∃ (msg : Str) (j : Nat) (q0 q1 q2 q3 q4 q5 q6 q7 q8 q9 : Pos), q2.endLine = q4.line ∧ defBody st = [
    .Expr (.Call (.Attribute (.Call (.Name "super" q0) [] [] q1) "__init__" q2) [.Constant (.str msg) j q3] [] q4) q5,
    .Assign [.Attribute (.Name "self" q6) n q7] (.Name n q8) q9]
  args : ∃ p1 p2 : Pos, defArgs st = { posonlyargs := [], args := [{ arg := "self", annotation := none, pos := p1 }, { arg := n, annotation := none, pos := p2 }], vararg := none, kwonlyargs := [], kw_defaults := [], kwarg := none, defaults := [] }
  bind : ∀ (x : Addr) (v : Value) (qual : Str) (kV doc pm ct cdv : Value) (an : Option Addr) (cc : Addr) (s : Shared),
    BindsTo s (PySem.W.ksFn "__init__" qual (defArgs st) (defBody st) (defScope st) .none kV doc pm an cdv ct cc) ⟨[.ref x, v], []⟩ [("self", .ref x), (n, v)]
  l0 : (defScope st).names.lookup ("self" : Str) = some .local
  l1 : (defScope st).names.lookup n = some .local
  l2 : (defScope st).names.lookup ("super" : Str) = some .globalImplicit
  l3 : (defScope st).names.lookup ("__class__" : Str) = some .free
  lc : ∀ x ∈ (defScope st).names, x.2 ≠ .cell
  sc : defScope st = { kind := .function, names := (defScope st).names, isGenerator := false, isCoroutine := false, more := [] }
  ne : (n == ("self" : Str)) = false
  dbg : (n == ("__debug__" : Str)) = false
theorem sup_mk {P : Program} {K : Frg} {C fI cda cc : Addr} {n qual : Str} {B i T newId i0 : String} {bm b0 b1 bs : List Value} {st : Stmt} {oc kV doc pm ct cl ccl : Value} {od an cld cdd dd : Option Addr} {osl csl ccs : Array (Option Value)} {vs : Array Value} {file nm q : Str} {tf : Tok}
    {N : Addr} {hdct : Bool} {sn : List Str} {sub : List Value} {ab : Bool} {col : Option Bool} {k0 k1 k2 k3 k5 : Option Value}
    (Y : InitY n st) (F : ExcBaseFacts T newId i0 b0) (bi : BaseI B i) (sf : StoreFacts B bm "object.__setattr__" "object")
    (h1 : K.lookup C = some (excClassObj nm q C N bs b1 hdct sn sub ab col dd k0 k1 k2 k3 k5 newId))
    (h2 : PySem.W.findIn K (.ref C) "__init__" = some (some (.ref fI)))
    (h3 : K.lookup fI = some ⟨oc, od, .func (PySem.W.ksFn "__init__" qual (defArgs st) (defBody st) (defScope st) .none kV doc pm an (.ref cda) ct cc), osl⟩)
    (h4 : PySem.W.codeIn K (.ref cda) qual = true) (h5 : K.lookup cc = some ⟨cl, cld, .cell (some (.ref C)), csl⟩) (h6 : K.lookup cda = some ⟨ccl, cdd, .fields vs, ccs⟩) (h7 : vs[2]? = some (.str file tf)) (h8 : ((P.main.file : Str) == file) = true)
    (ht : (P.main.scope.names.lookup ("super" : Str)).isSome = false) (hA : Anc T b1) (h9 : PySem.W.typeIn K (.ref fI) = some (.type "function")) (o1 : PySem.W.excOver K C bm = true) (o2 : PySem.W.hasDictIn K C = true)
    (o3 : PySem.W.findIn K (.ref C) "__setattr__" = some (some (.builtin "object.__setattr__"))) (o4 : PySem.W.findIn K (.ref C) n = some none) (o5 : PySem.W.subIn K (.ref C) (.type B) = some true)
    (o6 : PySem.W.ks_superIn K C C "__init__" = some (some (.builtin i))) (o7 : PySem.W.nsIn K cStatics "thirdparty.any" = some none) (o8 : PySem.W.mroIn K C (.ref C) = some true)
    (kC : PySem.W.keepIn K (.ref C) = true) (rB : PySem.W.subIn K (.ref C) (.type "BaseException") = some true) (rT : PySem.W.typeIn K (.ref C) = some (.type "type")) : Sup P K C n := by
  have cl' : (PySem.W.clsIn K C).isSome = true := by
    obtain ⟨cd, h, _⟩ := PySem.W.any_some o2
    rw [h]
    rfl
  exact ⟨⟨B, i, T, newId, i0, qual, bm, b0, fI, st, ⟨bi, sf, o1, cl', o2, o3, o4, o5, o6, o7, o8⟩,
    ⟨⟨oc, kV, doc, pm, ct, od, an, osl, cda, cc, h3, h4, ⟨_, _, _, h5⟩, ⟨_, _, _, _, _, _, h6, h7, h8⟩⟩, Y.body, Y.args, Y.bind, Y.l0, Y.l1, Y.l2, Y.l3, Y.lc, Y.sc, Y.ne, Y.dbg, ht⟩,
    F, ⟨nm, q, N, bs, b1, hdct, sn, sub, ab, col, dd, k0, k1, k2, k3, k5, h1, hA⟩, h2, h9⟩, kC, rB, rT⟩
/-! ### what the classes are of one another -/
abbrev Rws := List (Str × List Str)
def tbN (rows : Rws) (c : Str) (n : Str) : Option Bool := (rows.lookup n).map fun l => l.contains c
def exN (rows : Rws) (cs : List Str) (n : Str) : Option Bool := (rows.lookup n).map fun l => cs.any fun c => l.contains c
structure XN (K : Frg) (n : Str) (C : Addr) : Prop where
  cls : ClsN K n (.ref C)
  xk : XK K C
theorem row_at {K : Frg} : ∀ {rows : Rws} {cas : List Addr}, Paired (fun p C => XN K p.1 C) rows cas → ∀ {n : Str} {l : List Str}, rows.lookup n = some l → ∃ C, ((n, l), C) ∈ rows.zip cas ∧ XN K n C
  | _, _, .nil, _, _, h => by cases h
  | (m, l0) :: rows, C :: cas, .cons r rs, n, l, h => by
    by_cases e : n = m
    · subst e
      simp only [List.lookup, beq_self_eq_true, Option.some.injEq] at h
      subst h
      exact ⟨C, List.mem_cons_self, r⟩
    · have e1 : (n == m) = false := by simpa using e
      simp only [List.lookup, e1] at h
      obtain ⟨D, h1, h2⟩ := row_at rs h
      exact ⟨D, List.mem_cons_of_mem _ h1, h2⟩
theorem isx_of {K : Frg} {rows : Rws} {cas : List Addr} {cv : Value} {c : Str} (h : Paired (fun p C => XN K p.1 C) rows cas) (hk : ((rows.zip cas).all fun p => decide (PySem.W.kitOne K (.ref p.2) cv = some (p.1.2.contains c))) = true) :
    ∀ n b, tbN rows c n = some b → ∃ C, ClsN K n (.ref C) ∧ XK K C ∧ PySem.W.kitOne K (.ref C) cv = some b := by
  intro n b e
  unfold tbN at e
  obtain ⟨l, h1, rfl⟩ := Option.map_eq_some_iff.mp e
  obtain ⟨C, h2, h3⟩ := row_at h h1
  exact ⟨C, h3.cls, h3.xk, of_decide_eq_true (List.all_eq_true.mp hk _ h2)⟩
theorem exm_of {K : Frg} {rows : Rws} {cas : List Addr} {cvs : List Value} {cs : List Str} (h : Paired (fun p C => XN K p.1 C) rows cas) (hk : ((rows.zip cas).all fun p => decide (PySem.W.exmAny K (.ref p.2) cvs = some (cs.any fun c => p.1.2.contains c))) = true) :
    ∀ n b, exN rows cs n = some b → ∃ cv, ClsN K n cv ∧ PySem.W.exmAny K cv cvs = some b := by
  intro n b e
  unfold exN at e
  obtain ⟨l, h1, rfl⟩ := Option.map_eq_some_iff.mp e
  obtain ⟨C, h2, h3⟩ := row_at h h1
  exact ⟨_, h3.cls, of_decide_eq_true (List.all_eq_true.mp hk _ h2)⟩
section
variable {X : Cx} {x : Str} {e : Expr} {f : Ev D} {p q pos : Pos} {C : Addr}
theorem fe_isXo {tb : Str → Option Bool} (hg : Gl X "isinstance") (hm : X.mg "isinstance" = none) (he : FE X e f) (hgx : Gl X x) (gC : X.mg x = some (.ref C)) (hT : ∀ n b, tb n = some b → ∃ D, ClsN X.K n (.ref D) ∧ XK X.K D ∧ PySem.W.kitOne X.K (.ref D) (.ref C) = some b)
    (hdb : (x == ("__debug__" : Str)) = false := by decide) (hs : starEach (e :: [.Name x q]) X.env = (false, eval e X.env) :: starEach [.Name x q] X.env := by rfl) : FE X (.Call (.Name "isinstance" p) [e, .Name x q] [] pos) (eIsX tb f) :=
  fe_isX (c := .ref C) hg hm he (pe_glob hgx gC (show RelV (.ref C) (.ref C) from rfl) hdb) (fun u h => h) hT hs rfl rfl
theorem fe_isXb {tb : Str → Option Bool} {T : String} (hg : Gl X "isinstance") (hm : X.mg "isinstance" = none) (he : FE X e f) (hgx : Gl X x) (zx : X.mg x = none) (bt : bootBuiltins x = some (.type T)) (hT : ∀ n b, tb n = some b → ∃ D, ClsN X.K n (.ref D) ∧ XK X.K D ∧ PySem.W.kitOne X.K (.ref D) (.type T) = some b)
    (hn : x ≠ "__name__" := by decide) (hdb : (x == ("__debug__" : Str)) = false := by decide) (hs : starEach (e :: [.Name x q]) X.env = (false, eval e X.env) :: starEach [.Name x q] X.env := by rfl) : FE X (.Call (.Name "isinstance" p) [e, .Name x q] [] pos) (eIsX tb f) :=
  fe_isX (c := .ty T) hg hm he (pe_bltn (v := .ty T) hgx zx bt rfl hn hdb) (fun u h => h) hT hs rfl rfl
theorem nm_own (hg : Gl X x) (gC : X.mg x = some (.ref C)) (hd : (x == ("__debug__" : Str)) = false := by decide) : Names X x (.ref C) := ⟨hg, hd, .inl gC⟩
theorem nm_blt {T : String} (hg : Gl X x) (z : X.mg x = none) (bt : bootBuiltins x = some (.type T)) (hd : (x == ("__debug__" : Str)) = false := by decide) (hn : x ≠ "__name__" := by decide) : Names X x (.type T) := ⟨hg, hd, .inr ⟨z, bt, hn⟩⟩
end
theorem bt_ValueError : bootBuiltins "ValueError" = some (.type "ValueError") := by decide +kernel
theorem bt_KeyError : bootBuiltins "KeyError" = some (.type "KeyError") := by decide +kernel
theorem bt_IndexError : bootBuiltins "IndexError" = some (.type "IndexError") := by decide +kernel
theorem bt_LookupError : bootBuiltins "LookupError" = some (.type "LookupError") := by decide +kernel
theorem bt_OverflowError : bootBuiltins "OverflowError" = some (.type "OverflowError") := by decide +kernel
theorem bt_ArithmeticError : bootBuiltins "ArithmeticError" = some (.type "ArithmeticError") := by decide +kernel
theorem bt_RuntimeError : bootBuiltins "RuntimeError" = some (.type "RuntimeError") := by decide +kernel
theorem sf_Key : StoreFacts "KeyError" [.type "KeyError", .type "LookupError", .type "Exception", .type "BaseException", .type "object"] "object.__setattr__" "object" where
  mro := by rw [mroOf_type]; kernel_rfl
  slot := by
    refine .of (owner := "object") (n := "__setattr__") ?_ (by decide +kernel) (by decide +kernel) (by decide +kernel) ?_ (by rw [isSubtype_type]; kernel_rfl)
    · rw [typeLookup_type, builtinLookup_eq_fast]
      kernel_rfl
    · first | exact .inl (by decide +kernel) | exact .inr (by decide +kernel)
  entry := PySem.F.store_object.entry
  kind := by decide +kernel
  split := by decide +kernel
  hasOwner := by decide +kernel
  args := fun a b c => by
    unfold argsOk
    kernel_rfl
  passes := fun self => by kernel_rfl
end FX

noncomputable section
namespace Law
open PySem PySem.Spec PyProof.Rows L2 FL

def FUEL : Nat := 100000
def topS (i : Nat) : Stmt := PySem.Challenge.pw_shelfroutes_k00_errors_and_their_classes.main.body.getD i (.Pass ⟨0, 0, 0, 0⟩)
abbrev s__law_dice : Stmt := topS 24
theorem sc__law_dice : FnScope ["script", "spot", "cell", "whole", "seed"] ["script", "spot"] (defScope s__law_dice) := ⟨rfl, rfl, rfl, by decide +kernel, rfl, by decide +kernel, by decide +kernel⟩
abbrev s__law_roll : Stmt := topS 25
theorem sc__law_roll : FnScope ["dice", "many", "digit", "one", "two"] ["dice", "many"] (defScope s__law_roll) := ⟨rfl, rfl, rfl, by decide +kernel, rfl, by decide +kernel, by decide +kernel⟩
abbrev s__law_pick : Stmt := topS 26
theorem sc__law_pick : FnScope ["dice", "items"] ["dice", "items"] (defScope s__law_pick) := ⟨rfl, rfl, rfl, by decide +kernel, rfl, by decide +kernel, by decide +kernel⟩
abbrev s__law_with_message : Stmt := topS 27
theorem sc__law_with_message : FnScope ["k", "text"] ["k", "text"] (defScope s__law_with_message) := ⟨rfl, rfl, rfl, by decide +kernel, rfl, by decide +kernel, by decide +kernel⟩
abbrev s__law_keeping : Stmt := topS 28
theorem sc__law_keeping : FnScope ["k", "kept"] ["k", "kept"] (defScope s__law_keeping) := ⟨rfl, rfl, rfl, by decide +kernel, rfl, by decide +kernel, by decide +kernel⟩
abbrev s__law_kept : Stmt := topS 29
theorem sc__law_kept : FnScope ["k", "found"] ["k", "found"] (defScope s__law_kept) := ⟨rfl, rfl, rfl, by decide +kernel, rfl, by decide +kernel, by decide +kernel⟩
abbrev s__law_kinds : Stmt := topS 30
theorem sc__law_kinds : FnScope ["found", "told"] ["found"] (defScope s__law_kinds) := ⟨rfl, rfl, rfl, by decide +kernel, rfl, by decide +kernel, by decide +kernel⟩
abbrev s__law_kinds_kept : Stmt := topS 31
theorem sc__law_kinds_kept : FnScope ["found", "told"] ["found"] (defScope s__law_kinds_kept) := ⟨rfl, rfl, rfl, by decide +kernel, rfl, by decide +kernel, by decide +kernel⟩
abbrev s__law_kinds_of_python : Stmt := topS 32
theorem sc__law_kinds_of_python : FnScope ["found", "told"] ["found"] (defScope s__law_kinds_of_python) := ⟨rfl, rfl, rfl, by decide +kernel, rfl, by decide +kernel, by decide +kernel⟩
abbrev s__law_only : Stmt := topS 33
theorem sc__law_only : FnScope ["some", "length", "at"] ["some", "length"] (defScope s__law_only) := ⟨rfl, rfl, rfl, by decide +kernel, rfl, by decide +kernel, by decide +kernel⟩
abbrev s__law_raised : Stmt := topS 34
theorem sc__law_raised : FnScope ["k", "kept"] ["k", "kept"] (defScope s__law_raised) := ⟨rfl, rfl, rfl, by decide +kernel, rfl, by decide +kernel, by decide +kernel⟩
abbrev s__law_caught : Stmt := topS 35
theorem sc__law_caught : FnScope ["k", "kept"] ["k", "kept"] (defScope s__law_caught) := ⟨rfl, rfl, rfl, by decide +kernel, rfl, by decide +kernel, by decide +kernel⟩
abbrev s__law_word : Stmt := topS 36
theorem sc__law_word : FnScope ["dice", "signs", "turn"] ["dice"] (defScope s__law_word) := ⟨rfl, rfl, rfl, by decide +kernel, rfl, by decide +kernel, by decide +kernel⟩
abbrev s__law_value : Stmt := topS 37
theorem sc__law_value : FnScope ["dice", "k", "number"] ["dice", "k"] (defScope s__law_value) := ⟨rfl, rfl, rfl, by decide +kernel, rfl, by decide +kernel, by decide +kernel⟩
abbrev s__law_right : Stmt := topS 38
theorem sc__law_right : FnScope ["dice", "k", "found", "python", "words", "kept"] ["dice"] (defScope s__law_right) := ⟨rfl, rfl, rfl, by decide +kernel, rfl, by decide +kernel, by decide +kernel⟩
abbrev s_law : Stmt := topS 39
theorem sc_law : FnScope ["script", "spot"] ["script"] (defScope s_law) := ⟨rfl, rfl, rfl, by decide +kernel, rfl, by decide +kernel, by decide +kernel⟩
def rows : FX.Rws := [("ShelfError", ["ShelfError", "ValueError", "Exception", "BaseException", "object"]),
  ("InvalidTable", ["InvalidTable", "ShelfError", "ValueError", "Exception", "BaseException", "object"]),
  ("InvalidRow", ["InvalidRow", "ShelfError", "ValueError", "Exception", "BaseException", "object"]),
  ("InvalidBag", ["InvalidBag", "ShelfError", "ValueError", "Exception", "BaseException", "object"]),
  ("InvalidQuery", ["InvalidQuery", "ShelfError", "ValueError", "Exception", "BaseException", "object"]),
  ("InvalidStore", ["InvalidStore", "ShelfError", "ValueError", "Exception", "BaseException", "object"]),
  ("InvalidStep", ["InvalidStep", "ShelfError", "ValueError", "Exception", "BaseException", "object"]),
  ("InvalidPlan", ["InvalidPlan", "ShelfError", "ValueError", "Exception", "BaseException", "object"]),
  ("InvalidTransition", ["InvalidTransition", "ShelfError", "ValueError", "Exception", "BaseException", "object"]),
  ("InvalidScheme", ["InvalidScheme", "ShelfError", "ValueError", "Exception", "BaseException", "object"]),
  ("InvalidEvent", ["InvalidEvent", "ShelfError", "ValueError", "Exception", "BaseException", "object"]),
  ("InvalidSnapshot", ["InvalidSnapshot", "ShelfError", "ValueError", "Exception", "BaseException", "object"]),
  ("InvalidTree", ["InvalidTree", "ShelfError", "ValueError", "Exception", "BaseException", "object"]),
  ("InvalidOperation", ["InvalidOperation", "ShelfError", "ValueError", "Exception", "BaseException", "object"]),
  ("ParseError", ["ParseError", "ShelfError", "ValueError", "Exception", "BaseException", "object"]),
  ("Stopped", ["Stopped", "ShelfError", "ValueError", "Exception", "BaseException", "object"]),
  ("Wrong", ["Wrong", "ShelfError", "ValueError", "Exception", "BaseException", "object"]),
  ("UnknownName", ["UnknownName", "KeyError", "LookupError", "Exception", "BaseException", "object"]),
  ("UnknownKey", ["UnknownKey", "IndexError", "LookupError", "Exception", "BaseException", "object"]),
  ("NothingToUndo", ["NothingToUndo", "LookupError", "Exception", "BaseException", "object"]),
  ("TooMany", ["TooMany", "OverflowError", "ArithmeticError", "Exception", "BaseException", "object"]),
  ("InvalidNumber", ["InvalidNumber", "RuntimeError", "Exception", "BaseException", "object"])]
abbrev s_ParseError_init : Stmt := inClass (topS 15) 0
theorem iy_ParseError : FX.InitY "line" s_ParseError_init where
  body := ⟨_, _, _, _, _, _, _, _, _, _, _, _, rfl, rfl⟩
  args := ⟨_, _, rfl⟩
  bind := fun _ _ _ _ _ _ _ _ _ _ _ => .of_eq rfl
  l0 := rfl
  l1 := rfl
  l2 := rfl
  l3 := rfl
  lc := by decide +kernel
  sc := rfl
  ne := by decide
  dbg := by decide
abbrev s_Stopped_init : Stmt := inClass (topS 16) 0
theorem iy_Stopped : FX.InitY "index" s_Stopped_init where
  body := ⟨_, _, _, _, _, _, _, _, _, _, _, _, rfl, rfl⟩
  args := ⟨_, _, rfl⟩
  bind := fun _ _ _ _ _ _ _ _ _ _ _ => .of_eq rfl
  l0 := rfl
  l1 := rfl
  l2 := rfl
  l3 := rfl
  lc := by decide +kernel
  sc := rfl
  ne := by decide
  dbg := by decide
abbrev s_Wrong_init : Stmt := inClass (topS 17) 0
theorem iy_Wrong : FX.InitY "certificate" s_Wrong_init where
  body := ⟨_, _, _, _, _, _, _, _, _, _, _, _, rfl, rfl⟩
  args := ⟨_, _, rfl⟩
  bind := fun _ _ _ _ _ _ _ _ _ _ _ => .of_eq rfl
  l0 := rfl
  l1 := rfl
  l2 := rfl
  l3 := rfl
  lc := by decide +kernel
  sc := rfl
  ne := by decide
  dbg := by decide
abbrev s_UnknownName_init : Stmt := inClass (topS 18) 0
theorem iy_UnknownName : FX.InitY "name" s_UnknownName_init where
  body := ⟨_, _, _, _, _, _, _, _, _, _, _, _, rfl, rfl⟩
  args := ⟨_, _, rfl⟩
  bind := fun _ _ _ _ _ _ _ _ _ _ _ => .of_eq rfl
  l0 := rfl
  l1 := rfl
  l2 := rfl
  l3 := rfl
  lc := by decide +kernel
  sc := rfl
  ne := by decide
  dbg := by decide
abbrev s_UnknownKey_init : Stmt := inClass (topS 19) 0
theorem iy_UnknownKey : FX.InitY "key" s_UnknownKey_init where
  body := ⟨_, _, _, _, _, _, _, _, _, _, _, _, rfl, rfl⟩
  args := ⟨_, _, rfl⟩
  bind := fun _ _ _ _ _ _ _ _ _ _ _ => .of_eq rfl
  l0 := rfl
  l1 := rfl
  l2 := rfl
  l3 := rfl
  lc := by decide +kernel
  sc := rfl
  ne := by decide
  dbg := by decide
abbrev s_NothingToUndo_init : Stmt := inClass (topS 20) 0
theorem iy_NothingToUndo : FX.InitY "many" s_NothingToUndo_init where
  body := ⟨_, _, _, _, _, _, _, _, _, _, _, _, rfl, rfl⟩
  args := ⟨_, _, rfl⟩
  bind := fun _ _ _ _ _ _ _ _ _ _ _ => .of_eq rfl
  l0 := rfl
  l1 := rfl
  l2 := rfl
  l3 := rfl
  lc := by decide +kernel
  sc := rfl
  ne := by decide
  dbg := by decide
abbrev s_TooMany_init : Stmt := inClass (topS 21) 0
theorem iy_TooMany : FX.InitY "limit" s_TooMany_init where
  body := ⟨_, _, _, _, _, _, _, _, _, _, _, _, rfl, rfl⟩
  args := ⟨_, _, rfl⟩
  bind := fun _ _ _ _ _ _ _ _ _ _ _ => .of_eq rfl
  l0 := rfl
  l1 := rfl
  l2 := rfl
  l3 := rfl
  lc := by decide +kernel
  sc := rfl
  ne := by decide
  dbg := by decide
abbrev s_InvalidNumber_init : Stmt := inClass (topS 22) 0
theorem iy_InvalidNumber : FX.InitY "value" s_InvalidNumber_init where
  body := ⟨_, _, _, _, _, _, _, _, _, _, _, _, rfl, rfl⟩
  args := ⟨_, _, rfl⟩
  bind := fun _ _ _ _ _ _ _ _ _ _ _ => .of_eq rfl
  l0 := rfl
  l1 := rfl
  l2 := rfl
  l3 := rfl
  lc := by decide +kernel
  sc := rfl
  ne := by decide
  dbg := by decide
def b__law_dice : Es :=
    (sSeq (sSet 2 (eIf (eB (e2 gLt (eVar 1) (eB1 gLen (eCons (eVar 0) eNil)))) (e2 gIx (eVar 0) (eVar 1)) (e2 gAdd (e2 gMul (eC (.int 29)) (eVar 1)) (eC (.int 7)))))
    (sSeq (sSet 3 (e2 gMod (eB1 gInt (eCons (eB1 gAbs (eCons (eVar 2) eNil)) eNil)) (e2 gPow (e2 gPow (eC (.int 10)) (eC (.int 60))) (eC (.int 10)))))
    (sSeq (sSet 4 (e2 gMul (e2 gMod (eB1 gInt (eCons (eVar 3) eNil)) (eC (.int 2305843009213693951))) (eC (.int 1442695040888963407))))
    (sSeq (sSet 4 (e2 gAdd (e2 gAdd (e2 gAdd (eVar 4) (e2 gMul (eC (.int 211)) (eVar 1))) (e2 gMul (eC (.int 17)) (eB1 gInt (eCons (e2 gLt (eVar 2) (eC (.int 0))) eNil)))) (eC (.int 3))))
    (sRet (eNewL (eCons (eB1 gMax2 (eCons (eC (.int 0)) (eCons (e2 gSub (eVar 3) (e2 gPow (eC (.int 10)) (eC (.int 18)))) eNil))) (eCons (e2 gMod (eB1 gInt (eCons (eVar 4) eNil)) (eC (.int 18014398509481951))) (eCons (eC (.int 0)) eNil)))))))))
def m__law_dice : List D → MH → Res D := (fnD 5 b__law_dice)
def b__law_roll : Es :=
    (sSeq (sIf (eB (e2 gGt (e2 gIx (eVar 0) (eC (.int 0))) (eC (.int 0)))) (sSeq (sSet 2 (e2 gMod (eB1 gInt (eCons (e2 gIx (eVar 0) (eC (.int 0))) eNil)) (eVar 1)))
    (sSeq (sSetIx (eVar 0) (eC (.int 0)) (e2 gFdiv (e2 gIx (eVar 0) (eC (.int 0))) (eVar 1)))
    (sRet (eVar 2)))) sNext)
    (sSeq (sSetIx (eVar 0) (eC (.int 2)) (e2 gAdd (e2 gIx (eVar 0) (eC (.int 2))) (eC (.int 1))))
    (sSeq (sSet 3 (e2 gMod (eB1 gInt (eCons (e2 gAdd (e2 gIx (eVar 0) (eC (.int 1))) (e2 gMul (eC (.int 982451653)) (e2 gIx (eVar 0) (eC (.int 2))))) eNil)) (eC (.int 9007199254740881))))
    (sSeq (sSet 4 (e2 gMod (eB1 gInt (eCons (e2 gAdd (e2 gMul (eVar 3) (eVar 3)) (e2 gMul (eC (.int 15485867)) (e2 gIx (eVar 0) (eC (.int 2))))) eNil)) (eC (.int 4611686018427387847))))
    (sRet (e2 gMod (eB1 gInt (eCons (e2 gFdiv (e2 gMod (eB1 gInt (eCons (e2 gMul (eVar 4) (eVar 3)) eNil)) (eC (.int 1125899906842597))) (eC (.int 4096))) eNil)) (eVar 1)))))))
def m__law_roll : List D → MH → Res D := gcD (fnD 5 b__law_roll)
def b__law_with_message : Es :=
    (sSeq (sIf (eB (e2 gEq (eVar 0) (eC (.int 0)))) (sRet (FX.eX1 "InvalidTable" (eVar 1))) sNext)
    (sSeq (sIf (eB (e2 gEq (eVar 0) (eC (.int 1)))) (sRet (FX.eX1 "InvalidRow" (eVar 1))) sNext)
    (sSeq (sIf (eB (e2 gEq (eVar 0) (eC (.int 2)))) (sRet (FX.eX1 "InvalidBag" (eVar 1))) sNext)
    (sSeq (sIf (eB (e2 gEq (eVar 0) (eC (.int 3)))) (sRet (FX.eX1 "InvalidQuery" (eVar 1))) sNext)
    (sSeq (sIf (eB (e2 gEq (eVar 0) (eC (.int 4)))) (sRet (FX.eX1 "InvalidStore" (eVar 1))) sNext)
    (sSeq (sIf (eB (e2 gEq (eVar 0) (eC (.int 5)))) (sRet (FX.eX1 "InvalidStep" (eVar 1))) sNext)
    (sSeq (sIf (eB (e2 gEq (eVar 0) (eC (.int 6)))) (sRet (FX.eX1 "InvalidPlan" (eVar 1))) sNext)
    (sSeq (sIf (eB (e2 gEq (eVar 0) (eC (.int 7)))) (sRet (FX.eX1 "InvalidTransition" (eVar 1))) sNext)
    (sSeq (sIf (eB (e2 gEq (eVar 0) (eC (.int 8)))) (sRet (FX.eX1 "InvalidScheme" (eVar 1))) sNext)
    (sSeq (sIf (eB (e2 gEq (eVar 0) (eC (.int 9)))) (sRet (FX.eX1 "InvalidEvent" (eVar 1))) sNext)
    (sSeq (sIf (eB (e2 gEq (eVar 0) (eC (.int 10)))) (sRet (FX.eX1 "InvalidSnapshot" (eVar 1))) sNext)
    (sSeq (sIf (eB (e2 gEq (eVar 0) (eC (.int 11)))) (sRet (FX.eX1 "InvalidTree" (eVar 1))) sNext)
    (sRet (eIf (eB (e2 gEq (eVar 0) (eC (.int 12)))) (FX.eX1 "InvalidOperation" (eVar 1)) (FX.eX1 "ShelfError" (eVar 1))))))))))))))))
def m__law_with_message : List D → MH → Res D := (fnD 2 b__law_with_message)
def b__law_keeping : Es :=
    (sSeq (sIf (eB (e2 gEq (eVar 0) (eC (.int 0)))) (sRet (FX.eXI "ParseError" "line" (eVar 1))) sNext)
    (sSeq (sIf (eB (e2 gEq (eVar 0) (eC (.int 1)))) (sRet (FX.eXI "Stopped" "index" (eVar 1))) sNext)
    (sSeq (sIf (eB (e2 gEq (eVar 0) (eC (.int 2)))) (sRet (FX.eXI "Wrong" "certificate" (eVar 1))) sNext)
    (sSeq (sIf (eB (e2 gEq (eVar 0) (eC (.int 3)))) (sRet (FX.eXI "UnknownName" "name" (eVar 1))) sNext)
    (sSeq (sIf (eB (e2 gEq (eVar 0) (eC (.int 4)))) (sRet (FX.eXI "UnknownKey" "key" (eVar 1))) sNext)
    (sSeq (sIf (eB (e2 gEq (eVar 0) (eC (.int 5)))) (sRet (FX.eXI "NothingToUndo" "many" (eVar 1))) sNext)
    (sRet (eIf (eB (e2 gEq (eVar 0) (eC (.int 6)))) (FX.eXI "TooMany" "limit" (eVar 1)) (FX.eXI "InvalidNumber" "value" (eVar 1))))))))))
def m__law_keeping : List D → MH → Res D := (fnD 2 b__law_keeping)
def b__law_kept : Es :=
    (sSeq (sIf (eB (e2 gEq (eVar 0) (eC (.int 0)))) (sRet (FX.eXf ["ParseError"] "line" (eVar 1))) sNext)
    (sSeq (sIf (eB (e2 gEq (eVar 0) (eC (.int 1)))) (sRet (FX.eXf ["Stopped"] "index" (eVar 1))) sNext)
    (sSeq (sIf (eB (e2 gEq (eVar 0) (eC (.int 2)))) (sRet (FX.eXf ["Wrong"] "certificate" (eVar 1))) sNext)
    (sSeq (sIf (eB (e2 gEq (eVar 0) (eC (.int 3)))) (sRet (FX.eXf ["UnknownName"] "name" (eVar 1))) sNext)
    (sSeq (sIf (eB (e2 gEq (eVar 0) (eC (.int 4)))) (sRet (FX.eXf ["UnknownKey"] "key" (eVar 1))) sNext)
    (sSeq (sIf (eB (e2 gEq (eVar 0) (eC (.int 5)))) (sRet (FX.eXf ["NothingToUndo"] "many" (eVar 1))) sNext)
    (sRet (eIf (eB (e2 gEq (eVar 0) (eC (.int 6)))) (FX.eXf ["TooMany"] "limit" (eVar 1)) (FX.eXf ["InvalidNumber"] "value" (eVar 1))))))))))
def m__law_kept : List D → MH → Res D := gcD (fnD 2 b__law_kept)
def b__law_kinds : Es :=
    (sSeq (sSet 1 (eLst (eCons (FX.eIsX (FX.tbN rows "InvalidTable") (eVar 0)) (eCons (FX.eIsX (FX.tbN rows "InvalidRow") (eVar 0)) (eCons (FX.eIsX (FX.tbN rows "InvalidBag") (eVar 0)) eNil)))))
    (sSeq (sSet 1 (e2 gAdd (eVar 1) (eLst (eCons (FX.eIsX (FX.tbN rows "InvalidQuery") (eVar 0)) (eCons (FX.eIsX (FX.tbN rows "InvalidStore") (eVar 0)) (eCons (FX.eIsX (FX.tbN rows "InvalidStep") (eVar 0)) eNil))))))
    (sSeq (sSet 1 (e2 gAdd (eVar 1) (eLst (eCons (FX.eIsX (FX.tbN rows "InvalidPlan") (eVar 0)) (eCons (FX.eIsX (FX.tbN rows "InvalidTransition") (eVar 0)) eNil)))))
    (sSeq (sSet 1 (e2 gAdd (eVar 1) (eLst (eCons (FX.eIsX (FX.tbN rows "InvalidScheme") (eVar 0)) (eCons (FX.eIsX (FX.tbN rows "InvalidEvent") (eVar 0)) eNil)))))
    (sSeq (sSet 1 (e2 gAdd (eVar 1) (eLst (eCons (FX.eIsX (FX.tbN rows "InvalidSnapshot") (eVar 0)) (eCons (FX.eIsX (FX.tbN rows "InvalidTree") (eVar 0)) eNil)))))
    (sRet (e2 gAdd (eVar 1) (eLst (eCons (FX.eIsX (FX.tbN rows "InvalidOperation") (eVar 0)) (eCons (FX.eIsX (FX.tbN rows "ShelfError") (eVar 0)) eNil))))))))))
def m__law_kinds : List D → MH → Res D := gcD (fnD 2 b__law_kinds)
def b__law_kinds_kept : Es :=
    (sSeq (sSet 1 (eLst (eCons (FX.eIsX (FX.tbN rows "ParseError") (eVar 0)) (eCons (FX.eIsX (FX.tbN rows "Stopped") (eVar 0)) (eCons (FX.eIsX (FX.tbN rows "Wrong") (eVar 0)) eNil)))))
    (sSeq (sSet 1 (e2 gAdd (eVar 1) (eLst (eCons (FX.eIsX (FX.tbN rows "UnknownName") (eVar 0)) (eCons (FX.eIsX (FX.tbN rows "UnknownKey") (eVar 0)) (eCons (FX.eIsX (FX.tbN rows "NothingToUndo") (eVar 0)) eNil))))))
    (sRet (e2 gAdd (eVar 1) (eLst (eCons (FX.eIsX (FX.tbN rows "TooMany") (eVar 0)) (eCons (FX.eIsX (FX.tbN rows "InvalidNumber") (eVar 0)) eNil)))))))
def m__law_kinds_kept : List D → MH → Res D := gcD (fnD 2 b__law_kinds_kept)
def b__law_kinds_of_python : Es :=
    (sSeq (sSet 1 (eLst (eCons (FX.eIsX (FX.tbN rows "ValueError") (eVar 0)) (eCons (FX.eIsX (FX.tbN rows "KeyError") (eVar 0)) (eCons (FX.eIsX (FX.tbN rows "IndexError") (eVar 0)) eNil)))))
    (sSeq (sSet 1 (e2 gAdd (eVar 1) (eLst (eCons (FX.eIsX (FX.tbN rows "LookupError") (eVar 0)) (eCons (FX.eIsX (FX.tbN rows "OverflowError") (eVar 0)) eNil)))))
    (sRet (e2 gAdd (eVar 1) (eLst (eCons (FX.eIsX (FX.tbN rows "ArithmeticError") (eVar 0)) (eCons (FX.eIsX (FX.tbN rows "RuntimeError") (eVar 0)) eNil)))))))
def m__law_kinds_of_python : List D → MH → Res D := gcD (fnD 2 b__law_kinds_of_python)
def b__law_only : Es :=
    (sRet (eLc (eRange1 (eCons (eVar 1) eNil)) (tgName 2) eYes (e2 (gIn false) (eVar 2) (eVar 0)) [2]))
def m__law_only : List D → MH → Res D := gcD (fnD 3 b__law_only)
def b__law_raised : Es :=
    (sSeq (sIf (eB (e2 gEq (eVar 0) (eC (.int 0)))) (FX.sRaiseI "ParseError" "line" (eVar 1)) sNext)
    (sSeq (sIf (eB (e2 gEq (eVar 0) (eC (.int 1)))) (FX.sRaiseI "Stopped" "index" (eVar 1)) sNext)
    (sSeq (sIf (eB (e2 gEq (eVar 0) (eC (.int 2)))) (FX.sRaiseI "Wrong" "certificate" (eVar 1)) sNext)
    (sSeq (sIf (eB (e2 gEq (eVar 0) (eC (.int 3)))) (FX.sRaiseI "UnknownName" "name" (eVar 1)) sNext)
    (sSeq (sIf (eB (e2 gEq (eVar 0) (eC (.int 4)))) (FX.sRaiseI "UnknownKey" "key" (eVar 1)) sNext)
    (sSeq (sIf (eB (e2 gEq (eVar 0) (eC (.int 5)))) (FX.sRaiseI "NothingToUndo" "many" (eVar 1)) sNext)
    (sSeq (sIf (eB (e2 gEq (eVar 0) (eC (.int 6)))) (FX.sRaiseI "TooMany" "limit" (eVar 1)) sNext)
    (FX.sRaiseI "InvalidNumber" "value" (eVar 1)))))))))
def m__law_raised : List D → MH → Res D := gcD (fnD 2 b__law_raised)
def b__law_pick : Es :=
    (sRet (e2 gIx (eVar 1) (eCall m__law_roll [] (eCons (eVar 0) (eCons (eB1 gLen (eCons (eVar 1) eNil)) eNil)))))
def m__law_pick : List D → MH → Res D := gcD (fnD 2 b__law_pick)
def b__law_caught : Es :=
    (sSeq (FX.sTry (sExpr (eCall m__law_raised [] (eCons (eVar 0) (eCons (eVar 1) eNil)))) [(FX.exN rows ["ShelfError"], (sRet (eC (.str "shelf")))), (FX.exN rows ["KeyError"], (sRet (eC (.str "key")))), (FX.exN rows ["UnknownKey", "NothingToUndo"], (sRet (eC (.str "lookup")))), (FX.exN rows ["TooMany", "InvalidNumber"], (sRet (eC (.str "number"))))])
    (sRet (eC (.str "none"))))
def m__law_caught : List D → MH → Res D := gcD (fnD 2 b__law_caught)
def b__law_word : Es :=
    (sSeq (sSet 1 (eC (.str "abcdefghijklmnopqrstuvwxyzABCXYZ 0123456789.,:;-_()")))
    (sRet (eM "str" gJoin (eC (.str "")) (eCons (eLc (eRange1 (eCons (eCall m__law_roll [] (eCons (eVar 0) (eCons (eC (.int 10)) eNil))) eNil)) (tgName 2) eYes (e2 gIx (eVar 1) (eCall m__law_roll [] (eCons (eVar 0) (eCons (eB1 gLen (eCons (eVar 1) eNil)) eNil)))) [2]) eNil))))
def m__law_word : List D → MH → Res D := gcD (fnD 3 b__law_word)
def b__law_value : Es :=
    (sSeq (sSet 2 (e2 gAdd (eCall m__law_pick [] (eCons (eVar 0) (eCons (eLst (eCons (eC (.int 0)) (eCons (eC (.int 1)) (eCons (eC (.int 7)) (eCons (eC (.int 100)) (eCons (eC (.int 2000)) (eCons (eC (.int 20000)) (eCons (e2 gPow (eC (.int 10)) (eC (.int 59))) eNil)))))))) eNil))) (eCall m__law_roll [] (eCons (eVar 0) (eCons (eC (.int 3)) eNil)))))
    (sSeq (sIf (eB (e2 gEq (eVar 1) (eC (.int 0)))) (sRet (eCall m__law_pick [] (eCons (eVar 0) (eCons (eLst (eCons (eC .non) (eCons (eVar 2) eNil))) eNil)))) sNext)
    (sSeq (sIf (eB (e2 gEq (eVar 1) (eC (.int 2)))) (sRet (eTup (eCons (eC (.str "counterexample")) (eCons (eTup (eCons (eTup (eCons (eC (.str "add")) (eCons (eC (.str "a")) (eCons (eTup (eCons (eVar 2) eNil)) eNil)))) (eCons (eTup (eCons (eC (.str "remove")) (eCons (eC (.int 1)) eNil))) eNil))) eNil)))) sNext)
    (sSeq (sIf (eB (e2 (gIn false) (eVar 1) (eTup (eCons (eC (.int 3)) (eCons (eC (.int 4)) (eCons (eC (.int 7)) eNil)))))) (sRet (eCall m__law_pick [] (eCons (eVar 0) (eCons (eLst (eCons (eC .non) (eCons (eVar 2) (eCons (e2 gSub (eC (.int 0)) (eVar 2)) (eCons (eCall m__law_word [] (eCons (eVar 0) eNil)) (eCons (eC (.bl true)) (eCons (eTup eNil) (eCons (eTup (eCons (eCall m__law_word [] (eCons (eVar 0) eNil)) (eCons (eVar 2) eNil))) eNil)))))))) eNil)))) sNext)
    (sRet (eVar 2))))))
def m__law_value : List D → MH → Res D := gcD (fnD 3 b__law_value)
def b__law_right : Es :=
    (sSeq (sFor (eRange1 (eCons (eC (.int 14)) eNil)) (tgName 1) (sSeq (sSet 2 (eCall m__law_with_message [] (eCons (eVar 1) (eCons (eCall m__law_word [] (eCons (eVar 0) eNil)) eNil))))
    (sSeq (sIf (eOr (eB (e2 gNe (eCall m__law_kinds [] (eCons (eVar 2) eNil)) (eCall m__law_only [] (eCons (eTup (eCons (eVar 1) (eCons (eC (.int 13)) eNil))) (eCons (eC (.int 14)) eNil))))) (eB (e2 gNe (eCall m__law_kinds_kept [] (eCons (eVar 2) eNil)) (e2 gMulL (eNewL (eCons (eC (.bl false)) eNil)) (eC (.int 8)))))) (sRet (eC (.bl false))) sNext)
    (sIf (eB (e2 gNe (eCall m__law_kinds_of_python [] (eCons (eVar 2) eNil)) (eCall m__law_only [] (eCons (eTup (eCons (eC (.int 0)) eNil)) (eCons (eC (.int 7)) eNil))))) (sRet (eC (.bl false))) sNext))))
    (sSeq (sSet 3 (eLst (eCons (eTup (eCons (eC (.int 0)) eNil)) (eCons (eTup (eCons (eC (.int 0)) eNil)) (eCons (eTup (eCons (eC (.int 0)) eNil)) (eCons (eTup (eCons (eC (.int 1)) (eCons (eC (.int 3)) eNil))) (eCons (eTup (eCons (eC (.int 2)) (eCons (eC (.int 3)) eNil))) (eCons (eTup (eCons (eC (.int 3)) eNil)) (eCons (eTup (eCons (eC (.int 4)) (eCons (eC (.int 5)) eNil))) (eCons (eTup (eCons (eC (.int 6)) eNil)) eNil))))))))))
    (sSeq (sSet 4 (eLst (eCons (eC (.str "shelf")) (eCons (eC (.str "shelf")) (eCons (eC (.str "shelf")) (eCons (eC (.str "key")) (eCons (eC (.str "lookup")) (eCons (eC (.str "lookup")) (eCons (eC (.str "number")) (eCons (eC (.str "number")) eNil))))))))))
    (sSeq (sFor (eRange1 (eCons (eC (.int 8)) eNil)) (tgName 1) (sSeq (sSet 5 (eCall m__law_value [] (eCons (eVar 0) (eCons (eVar 1) eNil))))
    (sSeq (sSet 2 (eCall m__law_keeping [] (eCons (eVar 1) (eCons (eVar 5) eNil))))
    (sSeq (sIf (eOr (eB (e2 gNe (eB1 gRepr (eCons (eCall m__law_kept [] (eCons (eVar 1) (eCons (eVar 2) eNil))) eNil)) (eB1 gRepr (eCons (eVar 5) eNil)))) (eB (e2 gNe (eCall m__law_caught [] (eCons (eVar 1) (eCons (eVar 5) eNil))) (e2 gIx (eVar 4) (eVar 1))))) (sRet (eC (.bl false))) sNext)
    (sSeq (sIf (eOr (eB (e2 gNe (eCall m__law_kinds_kept [] (eCons (eVar 2) eNil)) (eCall m__law_only [] (eCons (eTup (eCons (eVar 1) eNil)) (eCons (eC (.int 8)) eNil))))) (eB (e2 gNe (eCall m__law_kinds [] (eCons (eVar 2) eNil)) (e2 gAdd (e2 gMulL (eNewL (eCons (eC (.bl false)) eNil)) (eC (.int 13))) (eLst (eCons (e2 gLt (eVar 1) (eC (.int 3))) eNil)))))) (sRet (eC (.bl false))) sNext)
    (sIf (eB (e2 gNe (eCall m__law_kinds_of_python [] (eCons (eVar 2) eNil)) (eCall m__law_only [] (eCons (e2 gIx (eVar 3) (eVar 1)) (eCons (eC (.int 7)) eNil))))) (sRet (eC (.bl false))) sNext))))))
    (sRet (eC (.bl true)))))))
def m__law_right : List D → MH → Res D := gcD (fnD 6 b__law_right)
def b_law : Es :=
    (sSeq (sFor (eRange1 (eCons (eB1 gMax2 (eCons (eC (.int 1)) (eCons (eB1 gMin2 (eCons (eC (.int 8)) (eCons (eB1 gLen (eCons (eVar 0) eNil)) eNil))) eNil))) eNil)) (tgName 1) (sIf (eNot (eB (eCall m__law_right [] (eCons (eCall m__law_dice [] (eCons (eVar 0) (eCons (eVar 1) eNil))) eNil)))) (sRet (eC (.bl false))) sNext))
    (sRet (eC (.bl true))))
def m_law : List D → MH → Res D := gcD (fnD 2 b_law)
structure Txt (P : Program) (w : World) (K : Frg) (mg : Str → Option Value) (fa : Nat → Addr) (fd : Nat → FuncData) (ca : Nat → Addr) : Prop where
  F__law_dice : Fun K "_law_dice" "_law_dice" s__law_dice (fa 0) (fd 0)
  g__law_dice : mg "_law_dice" = some (.ref (fa 0))
  b__law_dice : Binds K (fd 0) ["script", "spot"] []
  F__law_roll : Fun K "_law_roll" "_law_roll" s__law_roll (fa 1) (fd 1)
  g__law_roll : mg "_law_roll" = some (.ref (fa 1))
  b__law_roll : Binds K (fd 1) ["dice", "many"] []
  F__law_pick : Fun K "_law_pick" "_law_pick" s__law_pick (fa 2) (fd 2)
  g__law_pick : mg "_law_pick" = some (.ref (fa 2))
  b__law_pick : Binds K (fd 2) ["dice", "items"] []
  F__law_with_message : Fun K "_law_with_message" "_law_with_message" s__law_with_message (fa 3) (fd 3)
  g__law_with_message : mg "_law_with_message" = some (.ref (fa 3))
  b__law_with_message : Binds K (fd 3) ["k", "text"] []
  F__law_keeping : Fun K "_law_keeping" "_law_keeping" s__law_keeping (fa 4) (fd 4)
  g__law_keeping : mg "_law_keeping" = some (.ref (fa 4))
  b__law_keeping : Binds K (fd 4) ["k", "kept"] []
  F__law_kept : Fun K "_law_kept" "_law_kept" s__law_kept (fa 5) (fd 5)
  g__law_kept : mg "_law_kept" = some (.ref (fa 5))
  b__law_kept : Binds K (fd 5) ["k", "found"] []
  F__law_kinds : Fun K "_law_kinds" "_law_kinds" s__law_kinds (fa 6) (fd 6)
  g__law_kinds : mg "_law_kinds" = some (.ref (fa 6))
  b__law_kinds : Binds K (fd 6) ["found"] []
  F__law_kinds_kept : Fun K "_law_kinds_kept" "_law_kinds_kept" s__law_kinds_kept (fa 7) (fd 7)
  g__law_kinds_kept : mg "_law_kinds_kept" = some (.ref (fa 7))
  b__law_kinds_kept : Binds K (fd 7) ["found"] []
  F__law_kinds_of_python : Fun K "_law_kinds_of_python" "_law_kinds_of_python" s__law_kinds_of_python (fa 8) (fd 8)
  g__law_kinds_of_python : mg "_law_kinds_of_python" = some (.ref (fa 8))
  b__law_kinds_of_python : Binds K (fd 8) ["found"] []
  F__law_only : Fun K "_law_only" "_law_only" s__law_only (fa 9) (fd 9)
  g__law_only : mg "_law_only" = some (.ref (fa 9))
  b__law_only : Binds K (fd 9) ["some", "length"] []
  F__law_raised : Fun K "_law_raised" "_law_raised" s__law_raised (fa 10) (fd 10)
  g__law_raised : mg "_law_raised" = some (.ref (fa 10))
  b__law_raised : Binds K (fd 10) ["k", "kept"] []
  F__law_caught : Fun K "_law_caught" "_law_caught" s__law_caught (fa 11) (fd 11)
  g__law_caught : mg "_law_caught" = some (.ref (fa 11))
  b__law_caught : Binds K (fd 11) ["k", "kept"] []
  F__law_word : Fun K "_law_word" "_law_word" s__law_word (fa 12) (fd 12)
  g__law_word : mg "_law_word" = some (.ref (fa 12))
  b__law_word : Binds K (fd 12) ["dice"] []
  F__law_value : Fun K "_law_value" "_law_value" s__law_value (fa 13) (fd 13)
  g__law_value : mg "_law_value" = some (.ref (fa 13))
  b__law_value : Binds K (fd 13) ["dice", "k"] []
  F__law_right : Fun K "_law_right" "_law_right" s__law_right (fa 14) (fd 14)
  g__law_right : mg "_law_right" = some (.ref (fa 14))
  b__law_right : Binds K (fd 14) ["dice"] []
  F_law : Fun K "law" "law" s_law (fa 15) (fd 15)
  g_law : mg "law" = some (.ref (fa 15))
  b_law : Binds K (fd 15) ["script"] []
  g_ShelfError : mg "ShelfError" = some (.ref (ca 0))
  n_ShelfError : ClsN K "ShelfError" (.ref (ca 0))
  k_ShelfError : PySem.W.keepIn K (.ref (ca 0)) = true
  x_ShelfError : PySem.W.excIn K (ca 0) [.type "ValueError", .type "Exception", .type "BaseException", .type "object"] "ValueError.__new__" = true
  g_InvalidTable : mg "InvalidTable" = some (.ref (ca 1))
  n_InvalidTable : ClsN K "InvalidTable" (.ref (ca 1))
  k_InvalidTable : PySem.W.keepIn K (.ref (ca 1)) = true
  x_InvalidTable : PySem.W.excIn K (ca 1) [.type "ValueError", .type "Exception", .type "BaseException", .type "object"] "ValueError.__new__" = true
  g_InvalidRow : mg "InvalidRow" = some (.ref (ca 2))
  n_InvalidRow : ClsN K "InvalidRow" (.ref (ca 2))
  k_InvalidRow : PySem.W.keepIn K (.ref (ca 2)) = true
  x_InvalidRow : PySem.W.excIn K (ca 2) [.type "ValueError", .type "Exception", .type "BaseException", .type "object"] "ValueError.__new__" = true
  g_InvalidBag : mg "InvalidBag" = some (.ref (ca 3))
  n_InvalidBag : ClsN K "InvalidBag" (.ref (ca 3))
  k_InvalidBag : PySem.W.keepIn K (.ref (ca 3)) = true
  x_InvalidBag : PySem.W.excIn K (ca 3) [.type "ValueError", .type "Exception", .type "BaseException", .type "object"] "ValueError.__new__" = true
  g_InvalidQuery : mg "InvalidQuery" = some (.ref (ca 4))
  n_InvalidQuery : ClsN K "InvalidQuery" (.ref (ca 4))
  k_InvalidQuery : PySem.W.keepIn K (.ref (ca 4)) = true
  x_InvalidQuery : PySem.W.excIn K (ca 4) [.type "ValueError", .type "Exception", .type "BaseException", .type "object"] "ValueError.__new__" = true
  g_InvalidStore : mg "InvalidStore" = some (.ref (ca 5))
  n_InvalidStore : ClsN K "InvalidStore" (.ref (ca 5))
  k_InvalidStore : PySem.W.keepIn K (.ref (ca 5)) = true
  x_InvalidStore : PySem.W.excIn K (ca 5) [.type "ValueError", .type "Exception", .type "BaseException", .type "object"] "ValueError.__new__" = true
  g_InvalidStep : mg "InvalidStep" = some (.ref (ca 6))
  n_InvalidStep : ClsN K "InvalidStep" (.ref (ca 6))
  k_InvalidStep : PySem.W.keepIn K (.ref (ca 6)) = true
  x_InvalidStep : PySem.W.excIn K (ca 6) [.type "ValueError", .type "Exception", .type "BaseException", .type "object"] "ValueError.__new__" = true
  g_InvalidPlan : mg "InvalidPlan" = some (.ref (ca 7))
  n_InvalidPlan : ClsN K "InvalidPlan" (.ref (ca 7))
  k_InvalidPlan : PySem.W.keepIn K (.ref (ca 7)) = true
  x_InvalidPlan : PySem.W.excIn K (ca 7) [.type "ValueError", .type "Exception", .type "BaseException", .type "object"] "ValueError.__new__" = true
  g_InvalidTransition : mg "InvalidTransition" = some (.ref (ca 8))
  n_InvalidTransition : ClsN K "InvalidTransition" (.ref (ca 8))
  k_InvalidTransition : PySem.W.keepIn K (.ref (ca 8)) = true
  x_InvalidTransition : PySem.W.excIn K (ca 8) [.type "ValueError", .type "Exception", .type "BaseException", .type "object"] "ValueError.__new__" = true
  g_InvalidScheme : mg "InvalidScheme" = some (.ref (ca 9))
  n_InvalidScheme : ClsN K "InvalidScheme" (.ref (ca 9))
  k_InvalidScheme : PySem.W.keepIn K (.ref (ca 9)) = true
  x_InvalidScheme : PySem.W.excIn K (ca 9) [.type "ValueError", .type "Exception", .type "BaseException", .type "object"] "ValueError.__new__" = true
  g_InvalidEvent : mg "InvalidEvent" = some (.ref (ca 10))
  n_InvalidEvent : ClsN K "InvalidEvent" (.ref (ca 10))
  k_InvalidEvent : PySem.W.keepIn K (.ref (ca 10)) = true
  x_InvalidEvent : PySem.W.excIn K (ca 10) [.type "ValueError", .type "Exception", .type "BaseException", .type "object"] "ValueError.__new__" = true
  g_InvalidSnapshot : mg "InvalidSnapshot" = some (.ref (ca 11))
  n_InvalidSnapshot : ClsN K "InvalidSnapshot" (.ref (ca 11))
  k_InvalidSnapshot : PySem.W.keepIn K (.ref (ca 11)) = true
  x_InvalidSnapshot : PySem.W.excIn K (ca 11) [.type "ValueError", .type "Exception", .type "BaseException", .type "object"] "ValueError.__new__" = true
  g_InvalidTree : mg "InvalidTree" = some (.ref (ca 12))
  n_InvalidTree : ClsN K "InvalidTree" (.ref (ca 12))
  k_InvalidTree : PySem.W.keepIn K (.ref (ca 12)) = true
  x_InvalidTree : PySem.W.excIn K (ca 12) [.type "ValueError", .type "Exception", .type "BaseException", .type "object"] "ValueError.__new__" = true
  g_InvalidOperation : mg "InvalidOperation" = some (.ref (ca 13))
  n_InvalidOperation : ClsN K "InvalidOperation" (.ref (ca 13))
  k_InvalidOperation : PySem.W.keepIn K (.ref (ca 13)) = true
  x_InvalidOperation : PySem.W.excIn K (ca 13) [.type "ValueError", .type "Exception", .type "BaseException", .type "object"] "ValueError.__new__" = true
  g_ParseError : mg "ParseError" = some (.ref (ca 14))
  n_ParseError : ClsN K "ParseError" (.ref (ca 14))
  s_ParseError : FX.Sup P K (ca 14) "line"
  g_Stopped : mg "Stopped" = some (.ref (ca 15))
  n_Stopped : ClsN K "Stopped" (.ref (ca 15))
  s_Stopped : FX.Sup P K (ca 15) "index"
  g_Wrong : mg "Wrong" = some (.ref (ca 16))
  n_Wrong : ClsN K "Wrong" (.ref (ca 16))
  s_Wrong : FX.Sup P K (ca 16) "certificate"
  g_UnknownName : mg "UnknownName" = some (.ref (ca 17))
  n_UnknownName : ClsN K "UnknownName" (.ref (ca 17))
  s_UnknownName : FX.Sup P K (ca 17) "name"
  g_UnknownKey : mg "UnknownKey" = some (.ref (ca 18))
  n_UnknownKey : ClsN K "UnknownKey" (.ref (ca 18))
  s_UnknownKey : FX.Sup P K (ca 18) "key"
  g_NothingToUndo : mg "NothingToUndo" = some (.ref (ca 19))
  n_NothingToUndo : ClsN K "NothingToUndo" (.ref (ca 19))
  s_NothingToUndo : FX.Sup P K (ca 19) "many"
  g_TooMany : mg "TooMany" = some (.ref (ca 20))
  n_TooMany : ClsN K "TooMany" (.ref (ca 20))
  s_TooMany : FX.Sup P K (ca 20) "limit"
  g_InvalidNumber : mg "InvalidNumber" = some (.ref (ca 21))
  n_InvalidNumber : ClsN K "InvalidNumber" (.ref (ca 21))
  s_InvalidNumber : FX.Sup P K (ca 21) "value"
  is_ArithmeticError : ∀ n b, FX.tbN rows "ArithmeticError" n = some b → ∃ D, ClsN K n (.ref D) ∧ FX.XK K D ∧ PySem.W.kitOne K (.ref D) (.type "ArithmeticError") = some b
  is_IndexError : ∀ n b, FX.tbN rows "IndexError" n = some b → ∃ D, ClsN K n (.ref D) ∧ FX.XK K D ∧ PySem.W.kitOne K (.ref D) (.type "IndexError") = some b
  is_InvalidBag : ∀ n b, FX.tbN rows "InvalidBag" n = some b → ∃ D, ClsN K n (.ref D) ∧ FX.XK K D ∧ PySem.W.kitOne K (.ref D) (.ref (ca 3)) = some b
  is_InvalidEvent : ∀ n b, FX.tbN rows "InvalidEvent" n = some b → ∃ D, ClsN K n (.ref D) ∧ FX.XK K D ∧ PySem.W.kitOne K (.ref D) (.ref (ca 10)) = some b
  is_InvalidNumber : ∀ n b, FX.tbN rows "InvalidNumber" n = some b → ∃ D, ClsN K n (.ref D) ∧ FX.XK K D ∧ PySem.W.kitOne K (.ref D) (.ref (ca 21)) = some b
  is_InvalidOperation : ∀ n b, FX.tbN rows "InvalidOperation" n = some b → ∃ D, ClsN K n (.ref D) ∧ FX.XK K D ∧ PySem.W.kitOne K (.ref D) (.ref (ca 13)) = some b
  is_InvalidPlan : ∀ n b, FX.tbN rows "InvalidPlan" n = some b → ∃ D, ClsN K n (.ref D) ∧ FX.XK K D ∧ PySem.W.kitOne K (.ref D) (.ref (ca 7)) = some b
  is_InvalidQuery : ∀ n b, FX.tbN rows "InvalidQuery" n = some b → ∃ D, ClsN K n (.ref D) ∧ FX.XK K D ∧ PySem.W.kitOne K (.ref D) (.ref (ca 4)) = some b
  is_InvalidRow : ∀ n b, FX.tbN rows "InvalidRow" n = some b → ∃ D, ClsN K n (.ref D) ∧ FX.XK K D ∧ PySem.W.kitOne K (.ref D) (.ref (ca 2)) = some b
  is_InvalidScheme : ∀ n b, FX.tbN rows "InvalidScheme" n = some b → ∃ D, ClsN K n (.ref D) ∧ FX.XK K D ∧ PySem.W.kitOne K (.ref D) (.ref (ca 9)) = some b
  is_InvalidSnapshot : ∀ n b, FX.tbN rows "InvalidSnapshot" n = some b → ∃ D, ClsN K n (.ref D) ∧ FX.XK K D ∧ PySem.W.kitOne K (.ref D) (.ref (ca 11)) = some b
  is_InvalidStep : ∀ n b, FX.tbN rows "InvalidStep" n = some b → ∃ D, ClsN K n (.ref D) ∧ FX.XK K D ∧ PySem.W.kitOne K (.ref D) (.ref (ca 6)) = some b
  is_InvalidStore : ∀ n b, FX.tbN rows "InvalidStore" n = some b → ∃ D, ClsN K n (.ref D) ∧ FX.XK K D ∧ PySem.W.kitOne K (.ref D) (.ref (ca 5)) = some b
  is_InvalidTable : ∀ n b, FX.tbN rows "InvalidTable" n = some b → ∃ D, ClsN K n (.ref D) ∧ FX.XK K D ∧ PySem.W.kitOne K (.ref D) (.ref (ca 1)) = some b
  is_InvalidTransition : ∀ n b, FX.tbN rows "InvalidTransition" n = some b → ∃ D, ClsN K n (.ref D) ∧ FX.XK K D ∧ PySem.W.kitOne K (.ref D) (.ref (ca 8)) = some b
  is_InvalidTree : ∀ n b, FX.tbN rows "InvalidTree" n = some b → ∃ D, ClsN K n (.ref D) ∧ FX.XK K D ∧ PySem.W.kitOne K (.ref D) (.ref (ca 12)) = some b
  is_KeyError : ∀ n b, FX.tbN rows "KeyError" n = some b → ∃ D, ClsN K n (.ref D) ∧ FX.XK K D ∧ PySem.W.kitOne K (.ref D) (.type "KeyError") = some b
  is_LookupError : ∀ n b, FX.tbN rows "LookupError" n = some b → ∃ D, ClsN K n (.ref D) ∧ FX.XK K D ∧ PySem.W.kitOne K (.ref D) (.type "LookupError") = some b
  is_NothingToUndo : ∀ n b, FX.tbN rows "NothingToUndo" n = some b → ∃ D, ClsN K n (.ref D) ∧ FX.XK K D ∧ PySem.W.kitOne K (.ref D) (.ref (ca 19)) = some b
  is_OverflowError : ∀ n b, FX.tbN rows "OverflowError" n = some b → ∃ D, ClsN K n (.ref D) ∧ FX.XK K D ∧ PySem.W.kitOne K (.ref D) (.type "OverflowError") = some b
  is_ParseError : ∀ n b, FX.tbN rows "ParseError" n = some b → ∃ D, ClsN K n (.ref D) ∧ FX.XK K D ∧ PySem.W.kitOne K (.ref D) (.ref (ca 14)) = some b
  is_RuntimeError : ∀ n b, FX.tbN rows "RuntimeError" n = some b → ∃ D, ClsN K n (.ref D) ∧ FX.XK K D ∧ PySem.W.kitOne K (.ref D) (.type "RuntimeError") = some b
  is_ShelfError : ∀ n b, FX.tbN rows "ShelfError" n = some b → ∃ D, ClsN K n (.ref D) ∧ FX.XK K D ∧ PySem.W.kitOne K (.ref D) (.ref (ca 0)) = some b
  is_Stopped : ∀ n b, FX.tbN rows "Stopped" n = some b → ∃ D, ClsN K n (.ref D) ∧ FX.XK K D ∧ PySem.W.kitOne K (.ref D) (.ref (ca 15)) = some b
  is_TooMany : ∀ n b, FX.tbN rows "TooMany" n = some b → ∃ D, ClsN K n (.ref D) ∧ FX.XK K D ∧ PySem.W.kitOne K (.ref D) (.ref (ca 20)) = some b
  is_UnknownKey : ∀ n b, FX.tbN rows "UnknownKey" n = some b → ∃ D, ClsN K n (.ref D) ∧ FX.XK K D ∧ PySem.W.kitOne K (.ref D) (.ref (ca 18)) = some b
  is_UnknownName : ∀ n b, FX.tbN rows "UnknownName" n = some b → ∃ D, ClsN K n (.ref D) ∧ FX.XK K D ∧ PySem.W.kitOne K (.ref D) (.ref (ca 17)) = some b
  is_ValueError : ∀ n b, FX.tbN rows "ValueError" n = some b → ∃ D, ClsN K n (.ref D) ∧ FX.XK K D ∧ PySem.W.kitOne K (.ref D) (.type "ValueError") = some b
  is_Wrong : ∀ n b, FX.tbN rows "Wrong" n = some b → ∃ D, ClsN K n (.ref D) ∧ FX.XK K D ∧ PySem.W.kitOne K (.ref D) (.ref (ca 16)) = some b
  e_0 : ∀ n b, FX.exN rows ["TooMany", "InvalidNumber"] n = some b → ∃ cv, ClsN K n cv ∧ PySem.W.exmAny K cv [(.ref (ca 20)), (.ref (ca 21))] = some b
  e_1 : ∀ n b, FX.exN rows ["UnknownKey", "NothingToUndo"] n = some b → ∃ cv, ClsN K n cv ∧ PySem.W.exmAny K cv [(.ref (ca 18)), (.ref (ca 19))] = some b
  e_2 : ∀ n b, FX.exN rows ["KeyError"] n = some b → ∃ cv, ClsN K n cv ∧ PySem.W.exmAny K cv [(.type "KeyError")] = some b
  e_3 : ∀ n b, FX.exN rows ["ShelfError"] n = some b → ∃ cv, ClsN K n cv ∧ PySem.W.exmAny K cv [(.ref (ca 0))] = some b
  f_certificate : ∀ c ∈ [("Wrong" : Str)], ∃ C, ClsN K c (.ref C) ∧ FX.XK K C ∧ PySem.W.findIn K (.ref C) "certificate" = some none
  f_index : ∀ c ∈ [("Stopped" : Str)], ∃ C, ClsN K c (.ref C) ∧ FX.XK K C ∧ PySem.W.findIn K (.ref C) "index" = some none
  f_key : ∀ c ∈ [("UnknownKey" : Str)], ∃ C, ClsN K c (.ref C) ∧ FX.XK K C ∧ PySem.W.findIn K (.ref C) "key" = some none
  f_limit : ∀ c ∈ [("TooMany" : Str)], ∃ C, ClsN K c (.ref C) ∧ FX.XK K C ∧ PySem.W.findIn K (.ref C) "limit" = some none
  f_line : ∀ c ∈ [("ParseError" : Str)], ∃ C, ClsN K c (.ref C) ∧ FX.XK K C ∧ PySem.W.findIn K (.ref C) "line" = some none
  f_many : ∀ c ∈ [("NothingToUndo" : Str)], ∃ C, ClsN K c (.ref C) ∧ FX.XK K C ∧ PySem.W.findIn K (.ref C) "many" = some none
  f_name : ∀ c ∈ [("UnknownName" : Str)], ∃ C, ClsN K c (.ref C) ∧ FX.XK K C ∧ PySem.W.findIn K (.ref C) "name" = some none
  f_value : ∀ c ∈ [("InvalidNumber" : Str)], ∃ C, ClsN K c (.ref C) ∧ FX.XK K C ∧ PySem.W.findIn K (.ref C) "value" = some none
  z_ArithmeticError : mg "ArithmeticError" = none
  z_IndexError : mg "IndexError" = none
  z_KeyError : mg "KeyError" = none
  z_LookupError : mg "LookupError" = none
  z_OverflowError : mg "OverflowError" = none
  z_RuntimeError : mg "RuntimeError" = none
  z_ValueError : mg "ValueError" = none
  z_abs : mg "abs" = none
  z_int : mg "int" = none
  z_isinstance : mg "isinstance" = none
  z_len : mg "len" = none
  z_max : mg "max" = none
  z_min : mg "min" = none
  z_range : mg "range" = none
  z_repr : mg "repr" = none
  z_super : mg "super" = none
section
variable {P : Program} {w : World} {K : Frg} {mg : Str → Option Value} {base : Heap} {fa : Nat → Addr} {fd : Nat → FuncData} {ca : Nat → Addr}
theorem ok__law_dice (T : Txt P w K mg fa fd ca) (hS : ∃ m, base.Ns sysModules m) : FnG P w K mg base 1 (fa 0) (fd 0) ["script", "spot"] m__law_dice := by
  refine Fun.okD T.F__law_dice sc__law_dice fun cdv A outer s H E hr hG => ?_
  exact (fss_cons (fs_set (i := 2) sc__law_dice.nd rfl (by first | exact .inl rfl | exact .inr rfl) (fe_if (ft_cmp op_Lt (fe_var (pv 1)) (fe_callB cd_len rfl T.z_len bt_len (fa_cons (fe_var (pv 0)) fa_nil)) (nomark _)) (fe_ix (fe_var (pv 0)) (fe_var (pv 1)) (fun _ _ => rfl)) (fe_bin op_Add (fe_bin op_Mul fe_int (fe_var (pv 1))) fe_int)))
    (fss_cons (fs_set (i := 3) sc__law_dice.nd rfl (by first | exact .inl rfl | exact .inr rfl) (fe_bin op_Mod (fe_callTy cd_int rfl T.z_int bt_int (fa_cons (fe_callB cd_abs rfl T.z_abs bt_abs (fa_cons (fe_var (pv 2)) fa_nil)) fa_nil)) (fe_bin op_Pow (fe_bin op_Pow fe_int fe_int) fe_int)))
    (fss_cons (fs_set (i := 4) sc__law_dice.nd rfl (by first | exact .inl rfl | exact .inr rfl) (fe_bin op_Mul (fe_bin op_Mod (fe_callTy cd_int rfl T.z_int bt_int (fa_cons (fe_var (pv 3)) fa_nil)) fe_int) fe_int))
    (fss_cons (fs_set (i := 4) sc__law_dice.nd rfl (by first | exact .inl rfl | exact .inr rfl) (fe_bin op_Add (fe_bin op_Add (fe_bin op_Add (fe_var (pv 4)) (fe_bin op_Mul fe_int (fe_var (pv 1)))) (fe_bin op_Mul fe_int (fe_callTy cd_int rfl T.z_int bt_int (fa_cons (fe_cmp op_Lt (fe_var (pv 2)) fe_int (nomark _)) fa_nil)))) fe_int))
    (fss_one (fs_ret (fe_newL (fa_cons (fe_callB (cd_max2 rfl) rfl T.z_max bt_max (fa_cons fe_int (fa_cons (fe_bin op_Sub (fe_var (pv 3)) (fe_bin op_Pow fe_int fe_int)) fa_nil))) (fa_cons (fe_bin op_Mod (fe_callTy cd_int rfl T.z_int bt_int (fa_cons (fe_var (pv 4)) fa_nil)) fe_int) (fa_cons fe_int fa_nil))))))))))
theorem ok__law_roll (T : Txt P w K mg fa fd ca) (hS : ∃ m, base.Ns sysModules m) : FnG P w K mg base 1 (fa 1) (fd 1) ["dice", "many"] m__law_roll := by
  refine FnG.gc (Fun.okD T.F__law_roll sc__law_roll fun cdv A outer s H E hr hG => ?_)
  exact (fss_cons (fs_if (ft_cmp op_Gt (fe_ix (fe_var (pv 0)) fe_int (fun _ _ => rfl)) fe_int (nomark _)) (fss_cons (fs_set (i := 2) sc__law_roll.nd rfl (by first | exact .inl rfl | exact .inr rfl) (fe_bin op_Mod (fe_callTy cd_int rfl T.z_int bt_int (fa_cons (fe_ix (fe_var (pv 0)) fe_int (fun _ _ => rfl)) fa_nil)) (fe_var (pv 1))))
    (fss_cons (fs_setix (fe_bin op_Fdiv (fe_ix (fe_var (pv 0)) fe_int (fun _ _ => rfl)) (fe_var (pv 1))) (fe_var (pv 0)) fe_int)
    (fss_one (fs_ret (fe_var (pv 2)))))) fss_nil)
    (fss_cons (fs_setix (fe_bin op_Add (fe_ix (fe_var (pv 0)) fe_int (fun _ _ => rfl)) fe_int) (fe_var (pv 0)) fe_int)
    (fss_cons (fs_set (i := 3) sc__law_roll.nd rfl (by first | exact .inl rfl | exact .inr rfl) (fe_bin op_Mod (fe_callTy cd_int rfl T.z_int bt_int (fa_cons (fe_bin op_Add (fe_ix (fe_var (pv 0)) fe_int (fun _ _ => rfl)) (fe_bin op_Mul fe_int (fe_ix (fe_var (pv 0)) fe_int (fun _ _ => rfl)))) fa_nil)) fe_int))
    (fss_cons (fs_set (i := 4) sc__law_roll.nd rfl (by first | exact .inl rfl | exact .inr rfl) (fe_bin op_Mod (fe_callTy cd_int rfl T.z_int bt_int (fa_cons (fe_bin op_Add (fe_bin op_Mul (fe_var (pv 3)) (fe_var (pv 3))) (fe_bin op_Mul fe_int (fe_ix (fe_var (pv 0)) fe_int (fun _ _ => rfl)))) fa_nil)) fe_int))
    (fss_one (fs_ret (fe_bin op_Mod (fe_callTy cd_int rfl T.z_int bt_int (fa_cons (fe_bin op_Fdiv (fe_bin op_Mod (fe_callTy cd_int rfl T.z_int bt_int (fa_cons (fe_bin op_Mul (fe_var (pv 4)) (fe_var (pv 3))) fa_nil)) fe_int) fe_int) fa_nil)) (fe_var (pv 1)))))))))
theorem ok__law_with_message (T : Txt P w K mg fa fd ca) (hS : ∃ m, base.Ns sysModules m) : FnG P w K mg base 1 (fa 3) (fd 3) ["k", "text"] m__law_with_message := by
  refine Fun.okD T.F__law_with_message sc__law_with_message fun cdv A outer s H E hr hG => ?_
  exact (fss_cons (fs_if (ft_cmp (op_Eq hS (r64 hr)) (fe_var (pv 0)) fe_int (nomark _)) (fss_one (fs_ret (FX.fe_x1 PySem.F.excBase_ValueError T.n_InvalidTable T.x_InvalidTable T.g_InvalidTable T.k_InvalidTable rfl (fe_var (pv 1))))) fss_nil)
    (fss_cons (fs_if (ft_cmp (op_Eq hS (r64 hr)) (fe_var (pv 0)) fe_int (nomark _)) (fss_one (fs_ret (FX.fe_x1 PySem.F.excBase_ValueError T.n_InvalidRow T.x_InvalidRow T.g_InvalidRow T.k_InvalidRow rfl (fe_var (pv 1))))) fss_nil)
    (fss_cons (fs_if (ft_cmp (op_Eq hS (r64 hr)) (fe_var (pv 0)) fe_int (nomark _)) (fss_one (fs_ret (FX.fe_x1 PySem.F.excBase_ValueError T.n_InvalidBag T.x_InvalidBag T.g_InvalidBag T.k_InvalidBag rfl (fe_var (pv 1))))) fss_nil)
    (fss_cons (fs_if (ft_cmp (op_Eq hS (r64 hr)) (fe_var (pv 0)) fe_int (nomark _)) (fss_one (fs_ret (FX.fe_x1 PySem.F.excBase_ValueError T.n_InvalidQuery T.x_InvalidQuery T.g_InvalidQuery T.k_InvalidQuery rfl (fe_var (pv 1))))) fss_nil)
    (fss_cons (fs_if (ft_cmp (op_Eq hS (r64 hr)) (fe_var (pv 0)) fe_int (nomark _)) (fss_one (fs_ret (FX.fe_x1 PySem.F.excBase_ValueError T.n_InvalidStore T.x_InvalidStore T.g_InvalidStore T.k_InvalidStore rfl (fe_var (pv 1))))) fss_nil)
    (fss_cons (fs_if (ft_cmp (op_Eq hS (r64 hr)) (fe_var (pv 0)) fe_int (nomark _)) (fss_one (fs_ret (FX.fe_x1 PySem.F.excBase_ValueError T.n_InvalidStep T.x_InvalidStep T.g_InvalidStep T.k_InvalidStep rfl (fe_var (pv 1))))) fss_nil)
    (fss_cons (fs_if (ft_cmp (op_Eq hS (r64 hr)) (fe_var (pv 0)) fe_int (nomark _)) (fss_one (fs_ret (FX.fe_x1 PySem.F.excBase_ValueError T.n_InvalidPlan T.x_InvalidPlan T.g_InvalidPlan T.k_InvalidPlan rfl (fe_var (pv 1))))) fss_nil)
    (fss_cons (fs_if (ft_cmp (op_Eq hS (r64 hr)) (fe_var (pv 0)) fe_int (nomark _)) (fss_one (fs_ret (FX.fe_x1 PySem.F.excBase_ValueError T.n_InvalidTransition T.x_InvalidTransition T.g_InvalidTransition T.k_InvalidTransition rfl (fe_var (pv 1))))) fss_nil)
    (fss_cons (fs_if (ft_cmp (op_Eq hS (r64 hr)) (fe_var (pv 0)) fe_int (nomark _)) (fss_one (fs_ret (FX.fe_x1 PySem.F.excBase_ValueError T.n_InvalidScheme T.x_InvalidScheme T.g_InvalidScheme T.k_InvalidScheme rfl (fe_var (pv 1))))) fss_nil)
    (fss_cons (fs_if (ft_cmp (op_Eq hS (r64 hr)) (fe_var (pv 0)) fe_int (nomark _)) (fss_one (fs_ret (FX.fe_x1 PySem.F.excBase_ValueError T.n_InvalidEvent T.x_InvalidEvent T.g_InvalidEvent T.k_InvalidEvent rfl (fe_var (pv 1))))) fss_nil)
    (fss_cons (fs_if (ft_cmp (op_Eq hS (r64 hr)) (fe_var (pv 0)) fe_int (nomark _)) (fss_one (fs_ret (FX.fe_x1 PySem.F.excBase_ValueError T.n_InvalidSnapshot T.x_InvalidSnapshot T.g_InvalidSnapshot T.k_InvalidSnapshot rfl (fe_var (pv 1))))) fss_nil)
    (fss_cons (fs_if (ft_cmp (op_Eq hS (r64 hr)) (fe_var (pv 0)) fe_int (nomark _)) (fss_one (fs_ret (FX.fe_x1 PySem.F.excBase_ValueError T.n_InvalidTree T.x_InvalidTree T.g_InvalidTree T.k_InvalidTree rfl (fe_var (pv 1))))) fss_nil)
    (fss_one (fs_ret (fe_if (ft_cmp (op_Eq hS (r64 hr)) (fe_var (pv 0)) fe_int (nomark _)) (FX.fe_x1 PySem.F.excBase_ValueError T.n_InvalidOperation T.x_InvalidOperation T.g_InvalidOperation T.k_InvalidOperation rfl (fe_var (pv 1))) (FX.fe_x1 PySem.F.excBase_ValueError T.n_ShelfError T.x_ShelfError T.g_ShelfError T.k_ShelfError rfl (fe_var (pv 1))))))))))))))))))
theorem ok__law_keeping (T : Txt P w K mg fa fd ca) (hS : ∃ m, base.Ns sysModules m) : FnG P w K mg base 1 (fa 4) (fd 4) ["k", "kept"] m__law_keeping := by
  refine Fun.okD T.F__law_keeping sc__law_keeping fun cdv A outer s H E hr hG => ?_
  exact (fss_cons (fs_if (ft_cmp (op_Eq hS (r64 hr)) (fe_var (pv 0)) fe_int (nomark _)) (fss_one (fs_ret (FX.fe_xI T.s_ParseError hr T.n_ParseError T.z_super T.g_ParseError rfl (fe_var (pv 1))))) fss_nil)
    (fss_cons (fs_if (ft_cmp (op_Eq hS (r64 hr)) (fe_var (pv 0)) fe_int (nomark _)) (fss_one (fs_ret (FX.fe_xI T.s_Stopped hr T.n_Stopped T.z_super T.g_Stopped rfl (fe_var (pv 1))))) fss_nil)
    (fss_cons (fs_if (ft_cmp (op_Eq hS (r64 hr)) (fe_var (pv 0)) fe_int (nomark _)) (fss_one (fs_ret (FX.fe_xI T.s_Wrong hr T.n_Wrong T.z_super T.g_Wrong rfl (fe_var (pv 1))))) fss_nil)
    (fss_cons (fs_if (ft_cmp (op_Eq hS (r64 hr)) (fe_var (pv 0)) fe_int (nomark _)) (fss_one (fs_ret (FX.fe_xI T.s_UnknownName hr T.n_UnknownName T.z_super T.g_UnknownName rfl (fe_var (pv 1))))) fss_nil)
    (fss_cons (fs_if (ft_cmp (op_Eq hS (r64 hr)) (fe_var (pv 0)) fe_int (nomark _)) (fss_one (fs_ret (FX.fe_xI T.s_UnknownKey hr T.n_UnknownKey T.z_super T.g_UnknownKey rfl (fe_var (pv 1))))) fss_nil)
    (fss_cons (fs_if (ft_cmp (op_Eq hS (r64 hr)) (fe_var (pv 0)) fe_int (nomark _)) (fss_one (fs_ret (FX.fe_xI T.s_NothingToUndo hr T.n_NothingToUndo T.z_super T.g_NothingToUndo rfl (fe_var (pv 1))))) fss_nil)
    (fss_one (fs_ret (fe_if (ft_cmp (op_Eq hS (r64 hr)) (fe_var (pv 0)) fe_int (nomark _)) (FX.fe_xI T.s_TooMany hr T.n_TooMany T.z_super T.g_TooMany rfl (fe_var (pv 1))) (FX.fe_xI T.s_InvalidNumber hr T.n_InvalidNumber T.z_super T.g_InvalidNumber rfl (fe_var (pv 1))))))))))))
theorem ok__law_kept (T : Txt P w K mg fa fd ca) (hS : ∃ m, base.Ns sysModules m) : FnG P w K mg base 1 (fa 5) (fd 5) ["k", "found"] m__law_kept := by
  refine FnG.gc (Fun.okD T.F__law_kept sc__law_kept fun cdv A outer s H E hr hG => ?_)
  exact (fss_cons (fs_if (ft_cmp (op_Eq hS (r64 hr)) (fe_var (pv 0)) fe_int (nomark _)) (fss_one (fs_ret (FX.fe_xf T.f_line (fe_var (pv 1))))) fss_nil)
    (fss_cons (fs_if (ft_cmp (op_Eq hS (r64 hr)) (fe_var (pv 0)) fe_int (nomark _)) (fss_one (fs_ret (FX.fe_xf T.f_index (fe_var (pv 1))))) fss_nil)
    (fss_cons (fs_if (ft_cmp (op_Eq hS (r64 hr)) (fe_var (pv 0)) fe_int (nomark _)) (fss_one (fs_ret (FX.fe_xf T.f_certificate (fe_var (pv 1))))) fss_nil)
    (fss_cons (fs_if (ft_cmp (op_Eq hS (r64 hr)) (fe_var (pv 0)) fe_int (nomark _)) (fss_one (fs_ret (FX.fe_xf T.f_name (fe_var (pv 1))))) fss_nil)
    (fss_cons (fs_if (ft_cmp (op_Eq hS (r64 hr)) (fe_var (pv 0)) fe_int (nomark _)) (fss_one (fs_ret (FX.fe_xf T.f_key (fe_var (pv 1))))) fss_nil)
    (fss_cons (fs_if (ft_cmp (op_Eq hS (r64 hr)) (fe_var (pv 0)) fe_int (nomark _)) (fss_one (fs_ret (FX.fe_xf T.f_many (fe_var (pv 1))))) fss_nil)
    (fss_one (fs_ret (fe_if (ft_cmp (op_Eq hS (r64 hr)) (fe_var (pv 0)) fe_int (nomark _)) (FX.fe_xf T.f_limit (fe_var (pv 1))) (FX.fe_xf T.f_value (fe_var (pv 1))))))))))))
theorem ok__law_kinds (T : Txt P w K mg fa fd ca) (hS : ∃ m, base.Ns sysModules m) : FnG P w K mg base 1 (fa 6) (fd 6) ["found"] m__law_kinds := by
  refine FnG.gc (Fun.okD T.F__law_kinds sc__law_kinds fun cdv A outer s H E hr hG => ?_)
  exact (fss_cons (fs_set (i := 1) sc__law_kinds.nd rfl (by first | exact .inl rfl | exact .inr rfl) (fe_lst (fa_cons (FX.fe_isXo rfl T.z_isinstance (fe_var (pv 0)) rfl T.g_InvalidTable T.is_InvalidTable) (fa_cons (FX.fe_isXo rfl T.z_isinstance (fe_var (pv 0)) rfl T.g_InvalidRow T.is_InvalidRow) (fa_cons (FX.fe_isXo rfl T.z_isinstance (fe_var (pv 0)) rfl T.g_InvalidBag T.is_InvalidBag) fa_nil)))))
    (fss_cons (fs_set (i := 1) sc__law_kinds.nd rfl (by first | exact .inl rfl | exact .inr rfl) (fe_bin op_Add (fe_var (pv 1)) (fe_lst (fa_cons (FX.fe_isXo rfl T.z_isinstance (fe_var (pv 0)) rfl T.g_InvalidQuery T.is_InvalidQuery) (fa_cons (FX.fe_isXo rfl T.z_isinstance (fe_var (pv 0)) rfl T.g_InvalidStore T.is_InvalidStore) (fa_cons (FX.fe_isXo rfl T.z_isinstance (fe_var (pv 0)) rfl T.g_InvalidStep T.is_InvalidStep) fa_nil))))))
    (fss_cons (fs_set (i := 1) sc__law_kinds.nd rfl (by first | exact .inl rfl | exact .inr rfl) (fe_bin op_Add (fe_var (pv 1)) (fe_lst (fa_cons (FX.fe_isXo rfl T.z_isinstance (fe_var (pv 0)) rfl T.g_InvalidPlan T.is_InvalidPlan) (fa_cons (FX.fe_isXo rfl T.z_isinstance (fe_var (pv 0)) rfl T.g_InvalidTransition T.is_InvalidTransition) fa_nil)))))
    (fss_cons (fs_set (i := 1) sc__law_kinds.nd rfl (by first | exact .inl rfl | exact .inr rfl) (fe_bin op_Add (fe_var (pv 1)) (fe_lst (fa_cons (FX.fe_isXo rfl T.z_isinstance (fe_var (pv 0)) rfl T.g_InvalidScheme T.is_InvalidScheme) (fa_cons (FX.fe_isXo rfl T.z_isinstance (fe_var (pv 0)) rfl T.g_InvalidEvent T.is_InvalidEvent) fa_nil)))))
    (fss_cons (fs_set (i := 1) sc__law_kinds.nd rfl (by first | exact .inl rfl | exact .inr rfl) (fe_bin op_Add (fe_var (pv 1)) (fe_lst (fa_cons (FX.fe_isXo rfl T.z_isinstance (fe_var (pv 0)) rfl T.g_InvalidSnapshot T.is_InvalidSnapshot) (fa_cons (FX.fe_isXo rfl T.z_isinstance (fe_var (pv 0)) rfl T.g_InvalidTree T.is_InvalidTree) fa_nil)))))
    (fss_one (fs_ret (fe_bin op_Add (fe_var (pv 1)) (fe_lst (fa_cons (FX.fe_isXo rfl T.z_isinstance (fe_var (pv 0)) rfl T.g_InvalidOperation T.is_InvalidOperation) (fa_cons (FX.fe_isXo rfl T.z_isinstance (fe_var (pv 0)) rfl T.g_ShelfError T.is_ShelfError) fa_nil)))))))))))
theorem ok__law_kinds_kept (T : Txt P w K mg fa fd ca) (hS : ∃ m, base.Ns sysModules m) : FnG P w K mg base 1 (fa 7) (fd 7) ["found"] m__law_kinds_kept := by
  refine FnG.gc (Fun.okD T.F__law_kinds_kept sc__law_kinds_kept fun cdv A outer s H E hr hG => ?_)
  exact (fss_cons (fs_set (i := 1) sc__law_kinds_kept.nd rfl (by first | exact .inl rfl | exact .inr rfl) (fe_lst (fa_cons (FX.fe_isXo rfl T.z_isinstance (fe_var (pv 0)) rfl T.g_ParseError T.is_ParseError) (fa_cons (FX.fe_isXo rfl T.z_isinstance (fe_var (pv 0)) rfl T.g_Stopped T.is_Stopped) (fa_cons (FX.fe_isXo rfl T.z_isinstance (fe_var (pv 0)) rfl T.g_Wrong T.is_Wrong) fa_nil)))))
    (fss_cons (fs_set (i := 1) sc__law_kinds_kept.nd rfl (by first | exact .inl rfl | exact .inr rfl) (fe_bin op_Add (fe_var (pv 1)) (fe_lst (fa_cons (FX.fe_isXo rfl T.z_isinstance (fe_var (pv 0)) rfl T.g_UnknownName T.is_UnknownName) (fa_cons (FX.fe_isXo rfl T.z_isinstance (fe_var (pv 0)) rfl T.g_UnknownKey T.is_UnknownKey) (fa_cons (FX.fe_isXo rfl T.z_isinstance (fe_var (pv 0)) rfl T.g_NothingToUndo T.is_NothingToUndo) fa_nil))))))
    (fss_one (fs_ret (fe_bin op_Add (fe_var (pv 1)) (fe_lst (fa_cons (FX.fe_isXo rfl T.z_isinstance (fe_var (pv 0)) rfl T.g_TooMany T.is_TooMany) (fa_cons (FX.fe_isXo rfl T.z_isinstance (fe_var (pv 0)) rfl T.g_InvalidNumber T.is_InvalidNumber) fa_nil))))))))
theorem ok__law_kinds_of_python (T : Txt P w K mg fa fd ca) (hS : ∃ m, base.Ns sysModules m) : FnG P w K mg base 1 (fa 8) (fd 8) ["found"] m__law_kinds_of_python := by
  refine FnG.gc (Fun.okD T.F__law_kinds_of_python sc__law_kinds_of_python fun cdv A outer s H E hr hG => ?_)
  exact (fss_cons (fs_set (i := 1) sc__law_kinds_of_python.nd rfl (by first | exact .inl rfl | exact .inr rfl) (fe_lst (fa_cons (FX.fe_isXb rfl T.z_isinstance (fe_var (pv 0)) rfl T.z_ValueError FX.bt_ValueError T.is_ValueError) (fa_cons (FX.fe_isXb rfl T.z_isinstance (fe_var (pv 0)) rfl T.z_KeyError FX.bt_KeyError T.is_KeyError) (fa_cons (FX.fe_isXb rfl T.z_isinstance (fe_var (pv 0)) rfl T.z_IndexError FX.bt_IndexError T.is_IndexError) fa_nil)))))
    (fss_cons (fs_set (i := 1) sc__law_kinds_of_python.nd rfl (by first | exact .inl rfl | exact .inr rfl) (fe_bin op_Add (fe_var (pv 1)) (fe_lst (fa_cons (FX.fe_isXb rfl T.z_isinstance (fe_var (pv 0)) rfl T.z_LookupError FX.bt_LookupError T.is_LookupError) (fa_cons (FX.fe_isXb rfl T.z_isinstance (fe_var (pv 0)) rfl T.z_OverflowError FX.bt_OverflowError T.is_OverflowError) fa_nil)))))
    (fss_one (fs_ret (fe_bin op_Add (fe_var (pv 1)) (fe_lst (fa_cons (FX.fe_isXb rfl T.z_isinstance (fe_var (pv 0)) rfl T.z_ArithmeticError FX.bt_ArithmeticError T.is_ArithmeticError) (fa_cons (FX.fe_isXb rfl T.z_isinstance (fe_var (pv 0)) rfl T.z_RuntimeError FX.bt_RuntimeError T.is_RuntimeError) fa_nil))))))))
theorem ok__law_only (T : Txt P w K mg fa fd ca) (hS : ∃ m, base.Ns sysModules m) : FnG P w K mg base 1 (fa 9) (fd 9) ["some", "length"] m__law_only := by
  refine FnG.gc (Fun.okD T.F__law_only sc__law_only fun cdv A outer s H E hr hG => ?_)
  exact (fss_one (fs_ret (fe_lc (own := [("at", 2)]) rfl sc__law_only.nd (fi_range1 rfl T.z_range (fa_cons (fe_var (pv 1)) fa_nil)) (blkOk_by (own := [("at", 2)]) (by exact rfl)) (by decide) (fun _ _ _ _ _ => (fg_name (i := 2) sc__law_only.nd rfl (by first | exact .inl rfl | exact .inr rfl))) (fun _ _ _ _ _ => fts_nil) (fun _ _ _ _ _ => (fe_cmp (op_In hS (r65 hr)) (fe_var (pv 2)) (fe_var (pv 0)) rfl)))))
theorem ok__law_raised (T : Txt P w K mg fa fd ca) (hS : ∃ m, base.Ns sysModules m) : FnG P w K mg base 1 (fa 10) (fd 10) ["k", "kept"] m__law_raised := by
  refine FnG.gc (Fun.okD T.F__law_raised sc__law_raised fun cdv A outer s H E hr hG => ?_)
  exact (fss_cons (fs_if (ft_cmp (op_Eq hS (r64 hr)) (fe_var (pv 0)) fe_int (nomark _)) (fss_one (FX.fs_raiseI rfl T.s_ParseError hr T.n_ParseError T.z_super T.g_ParseError rfl (fe_var (pv 1)))) fss_nil)
    (fss_cons (fs_if (ft_cmp (op_Eq hS (r64 hr)) (fe_var (pv 0)) fe_int (nomark _)) (fss_one (FX.fs_raiseI rfl T.s_Stopped hr T.n_Stopped T.z_super T.g_Stopped rfl (fe_var (pv 1)))) fss_nil)
    (fss_cons (fs_if (ft_cmp (op_Eq hS (r64 hr)) (fe_var (pv 0)) fe_int (nomark _)) (fss_one (FX.fs_raiseI rfl T.s_Wrong hr T.n_Wrong T.z_super T.g_Wrong rfl (fe_var (pv 1)))) fss_nil)
    (fss_cons (fs_if (ft_cmp (op_Eq hS (r64 hr)) (fe_var (pv 0)) fe_int (nomark _)) (fss_one (FX.fs_raiseI rfl T.s_UnknownName hr T.n_UnknownName T.z_super T.g_UnknownName rfl (fe_var (pv 1)))) fss_nil)
    (fss_cons (fs_if (ft_cmp (op_Eq hS (r64 hr)) (fe_var (pv 0)) fe_int (nomark _)) (fss_one (FX.fs_raiseI rfl T.s_UnknownKey hr T.n_UnknownKey T.z_super T.g_UnknownKey rfl (fe_var (pv 1)))) fss_nil)
    (fss_cons (fs_if (ft_cmp (op_Eq hS (r64 hr)) (fe_var (pv 0)) fe_int (nomark _)) (fss_one (FX.fs_raiseI rfl T.s_NothingToUndo hr T.n_NothingToUndo T.z_super T.g_NothingToUndo rfl (fe_var (pv 1)))) fss_nil)
    (fss_cons (fs_if (ft_cmp (op_Eq hS (r64 hr)) (fe_var (pv 0)) fe_int (nomark _)) (fss_one (FX.fs_raiseI rfl T.s_TooMany hr T.n_TooMany T.z_super T.g_TooMany rfl (fe_var (pv 1)))) fss_nil)
    (fss_one (FX.fs_raiseI rfl T.s_InvalidNumber hr T.n_InvalidNumber T.z_super T.g_InvalidNumber rfl (fe_var (pv 1)))))))))))
theorem ok__law_pick (T : Txt P w K mg fa fd ca) (hS : ∃ m, base.Ns sysModules m) : FnG P w K mg base 2 (fa 2) (fd 2) ["dice", "items"] m__law_pick := by
  have G__law_roll := ok__law_roll T hS
  refine FnG.gc (Fun.okD T.F__law_pick sc__law_pick fun cdv A outer s H E hr hG => ?_)
  exact (fss_one (fs_ret (fe_ix (fe_var (pv 1)) (fe_call G__law_roll (hr.mono (by decide)) hG rfl T.g__law_roll T.F__law_roll.kp T.b__law_roll .nil DsRel.nil (fa_cons (fe_var (pv 0)) (fa_cons (fe_callB cd_len rfl T.z_len bt_len (fa_cons (fe_var (pv 1)) fa_nil)) fa_nil)) (cnt_cons (cnt_cons cnt_nil)) rfl) (fun _ _ => rfl))))
theorem ok__law_caught (T : Txt P w K mg fa fd ca) (hS : ∃ m, base.Ns sysModules m) : FnG P w K mg base 2 (fa 11) (fd 11) ["k", "kept"] m__law_caught := by
  have G__law_raised := ok__law_raised T hS
  refine FnG.gc (Fun.okD T.F__law_caught sc__law_caught fun cdv A outer s H E hr hG => ?_)
  exact (fss_cons (FX.fs_try rfl rfl (fun _ _ => (fss_one (fs_expr (fe_call G__law_raised (hr.mono (by decide)) hG rfl T.g__law_raised T.F__law_raised.kp T.b__law_raised .nil DsRel.nil (fa_cons (fe_var (pv 0)) (fa_cons (fe_var (pv 1)) fa_nil)) (cnt_cons (cnt_cons cnt_nil)) rfl)))) (.cons (.one (FX.nm_own rfl T.g_ShelfError)) T.e_3 (fun _ _ => (fss_one (fs_ret fe_str))) (.cons (.one (FX.nm_blt rfl T.z_KeyError FX.bt_KeyError)) T.e_2 (fun _ _ => (fss_one (fs_ret fe_str))) (.cons (.two (FX.nm_own rfl T.g_UnknownKey) (FX.nm_own rfl T.g_NothingToUndo)) T.e_1 (fun _ _ => (fss_one (fs_ret fe_str))) (.cons (.two (FX.nm_own rfl T.g_TooMany) (FX.nm_own rfl T.g_InvalidNumber)) T.e_0 (fun _ _ => (fss_one (fs_ret fe_str))) .nil)))))
    (fss_one (fs_ret fe_str)))
theorem ok__law_word (T : Txt P w K mg fa fd ca) (hS : ∃ m, base.Ns sysModules m) : FnG P w K mg base 2 (fa 12) (fd 12) ["dice"] m__law_word := by
  have G__law_roll := ok__law_roll T hS
  refine FnG.gc (Fun.okD T.F__law_word sc__law_word fun cdv A outer s H E hr hG => ?_)
  exact (fss_cons (fs_set (i := 1) sc__law_word.nd rfl (by first | exact .inl rfl | exact .inr rfl) fe_str)
    (fss_one (fs_ret (fe_bm PySem.F.plainAttrs_str PySem.F.slot_str_join PySem.F.type_str_join md_join fe_str (fa_cons (fe_lc (own := [("turn", 2)]) rfl sc__law_word.nd (fi_range1 rfl T.z_range (fa_cons (fe_call G__law_roll (hr.mono (by decide)) hG rfl T.g__law_roll T.F__law_roll.kp T.b__law_roll .nil DsRel.nil (fa_cons (fe_var (pv 0)) (fa_cons fe_int fa_nil)) (cnt_cons (cnt_cons cnt_nil)) rfl) fa_nil)) (blkOk_by (own := [("turn", 2)]) (by exact rfl)) (by decide) (fun _ _ _ _ _ => (fg_name (i := 2) sc__law_word.nd rfl (by first | exact .inl rfl | exact .inr rfl))) (fun _ _ _ _ _ => fts_nil) (fun _ _ _ _ _ => (fe_ix (fe_var (pv 1)) (fe_call G__law_roll (hr.mono (by decide)) hG rfl T.g__law_roll T.F__law_roll.kp T.b__law_roll .nil DsRel.nil (fa_cons (fe_var (pv 0)) (fa_cons (fe_callB cd_len rfl T.z_len bt_len (fa_cons (fe_var (pv 1)) fa_nil)) fa_nil)) (cnt_cons (cnt_cons cnt_nil)) rfl) (fun _ _ => rfl)))) fa_nil)))))
theorem ok__law_value (T : Txt P w K mg fa fd ca) (hS : ∃ m, base.Ns sysModules m) : FnG P w K mg base 3 (fa 13) (fd 13) ["dice", "k"] m__law_value := by
  have G__law_pick := ok__law_pick T hS
  have G__law_roll := ok__law_roll T hS
  have G__law_word := ok__law_word T hS
  refine FnG.gc (Fun.okD T.F__law_value sc__law_value fun cdv A outer s H E hr hG => ?_)
  exact (fss_cons (fs_set (i := 2) sc__law_value.nd rfl (by first | exact .inl rfl | exact .inr rfl) (fe_bin op_Add (fe_call G__law_pick (hr.mono (by decide)) hG rfl T.g__law_pick T.F__law_pick.kp T.b__law_pick .nil DsRel.nil (fa_cons (fe_var (pv 0)) (fa_cons (fe_lst (fa_cons fe_int (fa_cons fe_int (fa_cons fe_int (fa_cons fe_int (fa_cons fe_int (fa_cons fe_int (fa_cons (fe_bin op_Pow fe_int fe_int) fa_nil)))))))) fa_nil)) (cnt_cons (cnt_cons cnt_nil)) rfl) (fe_call G__law_roll (hr.mono (by decide)) hG rfl T.g__law_roll T.F__law_roll.kp T.b__law_roll .nil DsRel.nil (fa_cons (fe_var (pv 0)) (fa_cons fe_int fa_nil)) (cnt_cons (cnt_cons cnt_nil)) rfl)))
    (fss_cons (fs_if (ft_cmp (op_Eq hS (r64 hr)) (fe_var (pv 1)) fe_int (nomark _)) (fss_one (fs_ret (fe_call G__law_pick (hr.mono (by decide)) hG rfl T.g__law_pick T.F__law_pick.kp T.b__law_pick .nil DsRel.nil (fa_cons (fe_var (pv 0)) (fa_cons (fe_lst (fa_cons fe_non (fa_cons (fe_var (pv 2)) fa_nil))) fa_nil)) (cnt_cons (cnt_cons cnt_nil)) rfl))) fss_nil)
    (fss_cons (fs_if (ft_cmp (op_Eq hS (r64 hr)) (fe_var (pv 1)) fe_int (nomark _)) (fss_one (fs_ret (fe_tup (fa_cons fe_str (fa_cons (fe_tup (fa_cons (fe_tup (fa_cons fe_str (fa_cons fe_str (fa_cons (fe_tup (fa_cons (fe_var (pv 2)) fa_nil)) fa_nil)))) (fa_cons (fe_tup (fa_cons fe_str (fa_cons fe_int fa_nil))) fa_nil))) fa_nil))))) fss_nil)
    (fss_cons (fs_if (ft_cmp (op_In hS (r65 hr)) (fe_var (pv 1)) (fe_tup (fa_cons fe_int (fa_cons fe_int (fa_cons fe_int fa_nil)))) rfl) (fss_one (fs_ret (fe_call G__law_pick (hr.mono (by decide)) hG rfl T.g__law_pick T.F__law_pick.kp T.b__law_pick .nil DsRel.nil (fa_cons (fe_var (pv 0)) (fa_cons (fe_lst (fa_cons fe_non (fa_cons (fe_var (pv 2)) (fa_cons (fe_bin op_Sub fe_int (fe_var (pv 2))) (fa_cons (fe_call G__law_word (hr.mono (by decide)) hG rfl T.g__law_word T.F__law_word.kp T.b__law_word .nil DsRel.nil (fa_cons (fe_var (pv 0)) fa_nil) (cnt_cons cnt_nil) rfl) (fa_cons fe_bl (fa_cons (fe_tup fa_nil) (fa_cons (fe_tup (fa_cons (fe_call G__law_word (hr.mono (by decide)) hG rfl T.g__law_word T.F__law_word.kp T.b__law_word .nil DsRel.nil (fa_cons (fe_var (pv 0)) fa_nil) (cnt_cons cnt_nil) rfl) (fa_cons (fe_var (pv 2)) fa_nil))) fa_nil)))))))) fa_nil)) (cnt_cons (cnt_cons cnt_nil)) rfl))) fss_nil)
    (fss_one (fs_ret (fe_var (pv 2))))))))
theorem ok__law_right (T : Txt P w K mg fa fd ca) (hS : ∃ m, base.Ns sysModules m) : FnG P w K mg base 4 (fa 14) (fd 14) ["dice"] m__law_right := by
  have G__law_caught := ok__law_caught T hS
  have G__law_keeping := ok__law_keeping T hS
  have G__law_kept := ok__law_kept T hS
  have G__law_kinds := ok__law_kinds T hS
  have G__law_kinds_kept := ok__law_kinds_kept T hS
  have G__law_kinds_of_python := ok__law_kinds_of_python T hS
  have G__law_only := ok__law_only T hS
  have G__law_value := ok__law_value T hS
  have G__law_with_message := ok__law_with_message T hS
  have G__law_word := ok__law_word T hS
  refine FnG.gc (Fun.okD T.F__law_right sc__law_right fun cdv A outer s H E hr hG => ?_)
  exact (fss_cons (fs_for (passes_of rfl) rfl (fi_range1 rfl T.z_range (fa_cons fe_int fa_nil)) (fg_name (i := 1) sc__law_right.nd rfl (by first | exact .inl rfl | exact .inr rfl)) (fss_cons (fs_set (i := 2) sc__law_right.nd rfl (by first | exact .inl rfl | exact .inr rfl) (fe_call G__law_with_message (hr.mono (by decide)) hG rfl T.g__law_with_message T.F__law_with_message.kp T.b__law_with_message .nil DsRel.nil (fa_cons (fe_var (pv 1)) (fa_cons (fe_call G__law_word (hr.mono (by decide)) hG rfl T.g__law_word T.F__law_word.kp T.b__law_word .nil DsRel.nil (fa_cons (fe_var (pv 0)) fa_nil) (cnt_cons cnt_nil) rfl) fa_nil)) (cnt_cons (cnt_cons cnt_nil)) rfl))
    (fss_cons (fs_if (FW.ft (fw_or (ft_cmp (op_Ne hS (r64 hr)) (fe_call G__law_kinds (hr.mono (by decide)) hG rfl T.g__law_kinds T.F__law_kinds.kp T.b__law_kinds .nil DsRel.nil (fa_cons (fe_var (pv 2)) fa_nil) (cnt_cons cnt_nil) rfl) (fe_call G__law_only (hr.mono (by decide)) hG rfl T.g__law_only T.F__law_only.kp T.b__law_only .nil DsRel.nil (fa_cons (fe_tup (fa_cons (fe_var (pv 1)) (fa_cons fe_int fa_nil))) (fa_cons fe_int fa_nil)) (cnt_cons (cnt_cons cnt_nil)) rfl) (nomark _)) (fw_or1 (ft_cmp (op_Ne hS (r64 hr)) (fe_call G__law_kinds_kept (hr.mono (by decide)) hG rfl T.g__law_kinds_kept T.F__law_kinds_kept.kp T.b__law_kinds_kept .nil DsRel.nil (fa_cons (fe_var (pv 2)) fa_nil) (cnt_cons cnt_nil) rfl) (fe_bin op_MulL (fe_newL (fa_cons fe_bl fa_nil)) fe_int) (nomark _))))) (fss_one (fs_ret fe_bl)) fss_nil)
    (fss_one (fs_if (ft_cmp (op_Ne hS (r64 hr)) (fe_call G__law_kinds_of_python (hr.mono (by decide)) hG rfl T.g__law_kinds_of_python T.F__law_kinds_of_python.kp T.b__law_kinds_of_python .nil DsRel.nil (fa_cons (fe_var (pv 2)) fa_nil) (cnt_cons cnt_nil) rfl) (fe_call G__law_only (hr.mono (by decide)) hG rfl T.g__law_only T.F__law_only.kp T.b__law_only .nil DsRel.nil (fa_cons (fe_tup (fa_cons fe_int fa_nil)) (fa_cons fe_int fa_nil)) (cnt_cons (cnt_cons cnt_nil)) rfl) (nomark _)) (fss_one (fs_ret fe_bl)) fss_nil)))))
    (fss_cons (fs_set (i := 3) sc__law_right.nd rfl (by first | exact .inl rfl | exact .inr rfl) (fe_lst (fa_cons (fe_tup (fa_cons fe_int fa_nil)) (fa_cons (fe_tup (fa_cons fe_int fa_nil)) (fa_cons (fe_tup (fa_cons fe_int fa_nil)) (fa_cons (fe_tup (fa_cons fe_int (fa_cons fe_int fa_nil))) (fa_cons (fe_tup (fa_cons fe_int (fa_cons fe_int fa_nil))) (fa_cons (fe_tup (fa_cons fe_int fa_nil)) (fa_cons (fe_tup (fa_cons fe_int (fa_cons fe_int fa_nil))) (fa_cons (fe_tup (fa_cons fe_int fa_nil)) fa_nil))))))))))
    (fss_cons (fs_set (i := 4) sc__law_right.nd rfl (by first | exact .inl rfl | exact .inr rfl) (fe_lst (fa_cons fe_str (fa_cons fe_str (fa_cons fe_str (fa_cons fe_str (fa_cons fe_str (fa_cons fe_str (fa_cons fe_str (fa_cons fe_str fa_nil))))))))))
    (fss_cons (fs_for (passes_of rfl) rfl (fi_range1 rfl T.z_range (fa_cons fe_int fa_nil)) (fg_name (i := 1) sc__law_right.nd rfl (by first | exact .inl rfl | exact .inr rfl)) (fss_cons (fs_set (i := 5) sc__law_right.nd rfl (by first | exact .inl rfl | exact .inr rfl) (fe_call G__law_value (hr.mono (by decide)) hG rfl T.g__law_value T.F__law_value.kp T.b__law_value .nil DsRel.nil (fa_cons (fe_var (pv 0)) (fa_cons (fe_var (pv 1)) fa_nil)) (cnt_cons (cnt_cons cnt_nil)) rfl))
    (fss_cons (fs_set (i := 2) sc__law_right.nd rfl (by first | exact .inl rfl | exact .inr rfl) (fe_call G__law_keeping (hr.mono (by decide)) hG rfl T.g__law_keeping T.F__law_keeping.kp T.b__law_keeping .nil DsRel.nil (fa_cons (fe_var (pv 1)) (fa_cons (fe_var (pv 5)) fa_nil)) (cnt_cons (cnt_cons cnt_nil)) rfl))
    (fss_cons (fs_if (FW.ft (fw_or (ft_cmp (op_Ne hS (r64 hr)) (fe_callB (cd_repr hr hG hS) rfl T.z_repr bt_repr (fa_cons (fe_call G__law_kept (hr.mono (by decide)) hG rfl T.g__law_kept T.F__law_kept.kp T.b__law_kept .nil DsRel.nil (fa_cons (fe_var (pv 1)) (fa_cons (fe_var (pv 2)) fa_nil)) (cnt_cons (cnt_cons cnt_nil)) rfl) fa_nil)) (fe_callB (cd_repr hr hG hS) rfl T.z_repr bt_repr (fa_cons (fe_var (pv 5)) fa_nil)) (nomark _)) (fw_or1 (ft_cmp (op_Ne hS (r64 hr)) (fe_call G__law_caught (hr.mono (by decide)) hG rfl T.g__law_caught T.F__law_caught.kp T.b__law_caught .nil DsRel.nil (fa_cons (fe_var (pv 1)) (fa_cons (fe_var (pv 5)) fa_nil)) (cnt_cons (cnt_cons cnt_nil)) rfl) (fe_ix (fe_var (pv 4)) (fe_var (pv 1)) (fun _ _ => rfl)) (nomark _))))) (fss_one (fs_ret fe_bl)) fss_nil)
    (fss_cons (fs_if (FW.ft (fw_or (ft_cmp (op_Ne hS (r64 hr)) (fe_call G__law_kinds_kept (hr.mono (by decide)) hG rfl T.g__law_kinds_kept T.F__law_kinds_kept.kp T.b__law_kinds_kept .nil DsRel.nil (fa_cons (fe_var (pv 2)) fa_nil) (cnt_cons cnt_nil) rfl) (fe_call G__law_only (hr.mono (by decide)) hG rfl T.g__law_only T.F__law_only.kp T.b__law_only .nil DsRel.nil (fa_cons (fe_tup (fa_cons (fe_var (pv 1)) fa_nil)) (fa_cons fe_int fa_nil)) (cnt_cons (cnt_cons cnt_nil)) rfl) (nomark _)) (fw_or1 (ft_cmp (op_Ne hS (r64 hr)) (fe_call G__law_kinds (hr.mono (by decide)) hG rfl T.g__law_kinds T.F__law_kinds.kp T.b__law_kinds .nil DsRel.nil (fa_cons (fe_var (pv 2)) fa_nil) (cnt_cons cnt_nil) rfl) (fe_bin op_Add (fe_bin op_MulL (fe_newL (fa_cons fe_bl fa_nil)) fe_int) (fe_lst (fa_cons (fe_cmp op_Lt (fe_var (pv 1)) fe_int (nomark _)) fa_nil))) (nomark _))))) (fss_one (fs_ret fe_bl)) fss_nil)
    (fss_one (fs_if (ft_cmp (op_Ne hS (r64 hr)) (fe_call G__law_kinds_of_python (hr.mono (by decide)) hG rfl T.g__law_kinds_of_python T.F__law_kinds_of_python.kp T.b__law_kinds_of_python .nil DsRel.nil (fa_cons (fe_var (pv 2)) fa_nil) (cnt_cons cnt_nil) rfl) (fe_call G__law_only (hr.mono (by decide)) hG rfl T.g__law_only T.F__law_only.kp T.b__law_only .nil DsRel.nil (fa_cons (fe_ix (fe_var (pv 3)) (fe_var (pv 1)) (fun _ _ => rfl)) (fa_cons fe_int fa_nil)) (cnt_cons (cnt_cons cnt_nil)) rfl) (nomark _)) (fss_one (fs_ret fe_bl)) fss_nil)))))))
    (fss_one (fs_ret fe_bl))))))
theorem ok_law (T : Txt P w K mg fa fd ca) (hS : ∃ m, base.Ns sysModules m) : FnG P w K mg base 5 (fa 15) (fd 15) ["script"] m_law := by
  have G__law_dice := ok__law_dice T hS
  have G__law_right := ok__law_right T hS
  refine FnG.gc (Fun.okD T.F_law sc_law fun cdv A outer s H E hr hG => ?_)
  exact (fss_cons (fs_for (passes_of rfl) rfl (fi_range1 rfl T.z_range (fa_cons (fe_callB (cd_max2 rfl) rfl T.z_max bt_max (fa_cons fe_int (fa_cons (fe_callB (cd_min2 rfl) rfl T.z_min bt_min (fa_cons fe_int (fa_cons (fe_callB cd_len rfl T.z_len bt_len (fa_cons (fe_var (pv 0)) fa_nil)) fa_nil))) fa_nil))) fa_nil)) (fg_name (i := 1) sc_law.nd rfl (by first | exact .inl rfl | exact .inr rfl)) (fss_one (fs_if (ft_not (ft_val (fe_call G__law_right (hr.mono (by decide)) hG rfl T.g__law_right T.F__law_right.kp T.b__law_right .nil DsRel.nil (fa_cons (fe_call G__law_dice (hr.mono (by decide)) hG rfl T.g__law_dice T.F__law_dice.kp T.b__law_dice .nil DsRel.nil (fa_cons (fe_var (pv 0)) (fa_cons (fe_var (pv 1)) fa_nil)) (cnt_cons (cnt_cons cnt_nil)) rfl) fa_nil) (cnt_cons cnt_nil) rfl))) (fss_one (fs_ret fe_bl)) fss_nil)))
    (fss_one (fs_ret fe_bl)))
end
end Law
end

namespace Law
open PySem L2 FL
theorem roll_run {n k : Nat} {M : MH} (s : St n k M) (hk : k < 2 ^ 40) {m : Int} (hm : 0 < m) (hm2 : m.natAbs.log2 < 9000) :
    ∃ r M', m__law_roll [.ob n, .int m] M = .ok (.int r) M' ∧ 0 ≤ r ∧ r < m ∧ St n (k + 1) M' ∧ Fr n M M' := by
  obtain ⟨h, a, b, c, hd, hb, hb2, hc, hc2⟩ := s
  have i0 : ∀ {a b c : D}, atI [a, b, c] 0 = some a := rfl
  have i1 : ∀ {a b c : D}, atI [a, b, c] 1 = some b := rfl
  have i2 : ∀ {a b c : D}, atI [a, b, c] 2 = some c := rfl
  have x0 : ∀ {a b c : D}, ixN [a, b, c].length 0 = some 0 := rfl
  have x2 : ∀ {a b c : D}, ixN [a, b, c].length 2 = some 2 := rfl
  by_cases ha : 0 < a
  · have st : St n (k + 1) (M.set n (.lst [.int (a / m), .int b, .int c])) := ⟨clean_set h rfl, a / m, b, c, get_set hd, hb, hb2, hc, by omega⟩
    refine ⟨a % m, _, gcD_ok ?_ (List.length_set ..) rfl st.clean, Int.emod_nonneg _ (by omega), Int.emod_lt_of_pos _ hm, st, fr_set⟩
    simp [fnD, b__law_roll, startD, gIx_ob hd i0, ha, gMod_int hm, gFdiv_int ⟨hm, hm2⟩, gSetL_ob hd x0]
  · have st1 : St n (k + 1) (M.set n (.lst [.int a, .int b, .int (c + 1)])) := ⟨clean_set h rfl, a, b, c + 1, get_set hd, hb, hb2, by omega, by omega⟩
    have hd1 := get_set (o := .lst [.int a, .int b, .int (c + 1)]) hd
    have c0 : 0 ≤ c + 1 := by omega
    have c1 : c + 1 < 2 ^ 41 := by omega
    have l1 := log2_le c0 c1
    have e1 : ∀ {M : MH}, gMul (.int 982451653) (.int (c + 1)) M = .ok (.int (982451653 * (c + 1))) M := gMul_int (by
      have : (982451653 : Int).natAbs.log2 = 29 := by decide +kernel
      omega)
    have p1 : (0 : Int) < 9007199254740881 := by decide
    have p2 : (0 : Int) < 4611686018427387847 := by decide
    have p3 : (0 : Int) < 1125899906842597 := by decide
    have p4 : (0 : Int) < 4096 ∧ (4096 : Int).natAbs.log2 < 9000 := by decide +kernel
    generalize hx : (b + 982451653 * (c + 1)) % 9007199254740881 = x
    have x0' : 0 ≤ x := by rw [← hx]; exact Int.emod_nonneg _ (by decide)
    have x1' : x < 2 ^ 70 := by
      have : x < 9007199254740881 := by rw [← hx]; exact Int.emod_lt_of_pos _ p1
      omega
    have l2 := log2_le x0' x1'
    have e2 : ∀ {M : MH}, gMul (.int x) (.int x) M = .ok (.int (x * x)) M := gMul_int (by omega)
    have e4 : ∀ {M : MH}, gMul (.int 15485867) (.int (c + 1)) M = .ok (.int (15485867 * (c + 1))) M := gMul_int (by
      have : (15485867 : Int).natAbs.log2 = 23 := by decide +kernel
      omega)
    generalize hy : (x * x + 15485867 * (c + 1)) % 4611686018427387847 = y
    have y0' : 0 ≤ y := by rw [← hy]; exact Int.emod_nonneg _ (by decide)
    have y1' : y < 2 ^ 70 := by
      have : y < 4611686018427387847 := by rw [← hy]; exact Int.emod_lt_of_pos _ p2
      omega
    have l3 := log2_le y0' y1'
    have e3 : ∀ {M : MH}, gMul (.int y) (.int x) M = .ok (.int (y * x)) M := gMul_int (by omega)
    refine ⟨(y * x) % 1125899906842597 / 4096 % m, _, gcD_ok ?_ (List.length_set ..) rfl st1.clean, Int.emod_nonneg _ (by omega), Int.emod_lt_of_pos _ hm, st1, fr_set⟩
    simp [fnD, b__law_roll, startD, gIx_ob hd i0, gIx_ob hd i2, ha, gSetL_ob hd x2, gIx_ob hd1 i1, gIx_ob hd1 i2, e1, gMod_int p1, hx, e2, gMod_int p2, hy, e3, e4, gMod_int p3, gFdiv_int p4, gMod_int hm]
theorem pick_run {n k : Nat} {M : MH} (s : St n k M) (hk : k < 2 ^ 40) {ws : List D} (hw : ws ≠ []) (hl : ws.length < 1000) (hp : ∀ w ∈ ws, plainD w = true) :
    ∃ w M', m__law_pick [.ob n, .lst ws] M = .ok w M' ∧ w ∈ ws ∧ St n (k + 1) M' ∧ Fr n M M' := by
  have hpos := len_pos_int hw
  obtain ⟨r, M', e1, r0, r1, s1, f1⟩ := roll_run s hk (m := ws.length) hpos (by
    rw [Int.natAbs_natCast]
    have := log2_le (a := (ws.length : Int)) (k := 10) (by omega) (by omega)
    rw [Int.natAbs_natCast] at this
    omega)
  obtain ⟨w, ha, hm⟩ := atI_some r0 r1
  refine ⟨w, M', gcD_ok ?_ f1.len (plain_below (hp w hm)) s1.clean, hm, s1, f1⟩
  simp [fnD, b__law_pick, startD, e1, gIx_lst ha]
/-- plain data within bounds -/
structure Pl (t d : Nat) (w : D) : Prop where
  p : plainD w = true
  t : txt w ≤ t
  d : dep w ≤ d
theorem Pl.le {t d t' d' : Nat} {w : D} (h : Pl t d w) (ht : t ≤ t') (hd : d ≤ d') : Pl t' d' w := ⟨h.p, Nat.le_trans h.t ht, Nat.le_trans h.d hd⟩
theorem Pl.tup {t d l t' d' : Nat} {ws : List D} (h : ∀ w ∈ ws, Pl t d w) (hl : ws.length ≤ l) (ht : l * (t + 2) + 3 ≤ t') (hd : d + 1 ≤ d') : Pl t' d' (.tup ws) := by
  have p : plains ws = true := plains_iff.mpr fun w hw => (h w hw).p
  have q := txts_le fun w hw => (h w hw).t
  have e := deps_le fun w hw => (h w hw).d
  have q2 : ws.length * (t + 2) ≤ l * (t + 2) := Nat.mul_le_mul hl (Nat.le_refl _)
  exact ⟨p, (by rw [txt]; omega), (by rw [dep]; omega)⟩
theorem Pl.one {t d : Nat} {w : D} (h : (plainD w && decide (txt w ≤ t) && decide (dep w ≤ d)) = true) : Pl t d w := by
  simp only [Bool.and_eq_true, decide_eq_true_eq] at h
  exact ⟨h.1.1, h.1.2, h.2⟩
theorem pl_int {i : Int} (h0 : -(10 ^ 100) < i) (h1 : i < 10 ^ 100) : Pl 5000 0 (.int i) := by
  refine ⟨?_, (by decide : 1921 ≤ 5000), (by decide : 0 ≤ 0)⟩
  refine decide_eq_true ?_
  have h2 : i.natAbs < 2 ^ 400 := by omega
  by_cases hz : i.natAbs = 0
  · rw [hz]; decide
  · exact Nat.lt_of_lt_of_le ((Nat.log2_lt hz).mpr h2) (by decide)
abbrev sgn : Str := "abcdefghijklmnopqrstuvwxyzABCXYZ 0123456789.,:;-_()"
theorem sgn_len : sgn.length = 51 := by decide +kernel
theorem sgn_ix {r : Int} (h0 : 0 ≤ r) (h1 : r < 51) : ∃ c, atI sgn.cps.toList r = some c ∧ c < 16 ^ 8 := by
  obtain ⟨c, e, hm⟩ := atI_some (ws := sgn.cps.toList) h0 (Int.lt_of_lt_of_le h1 (by decide +kernel))
  have h : (sgn.cps.toList.all fun c => decide (c < 16 ^ 8)) = true := by decide +kernel
  exact ⟨c, e, of_decide_eq_true (List.all_eq_true.mp h c hm)⟩
theorem word_run {n k : Nat} {M : MH} (s : St n k M) (hk : k + 30 < 2 ^ 40) : ∃ x M', m__law_word [.ob n] M = .ok (.str x) M' ∧ plainD (.str x) = true ∧ x.length ≤ 10 ∧ St n (k + 10) M' ∧ Fr n M M' := by
  have z : 16777216 ≤ sizeLine := by decide
  have gl : ∀ {M : MH}, gLen [.str sgn] M = .ok (.int 51) M := by
    intro M
    have e : ((sgn.length : Nat) : Int) = 51 := by rw [sgn_len]; rfl
    rw [gLen_str (by rw [sgn_len]; omega), e]
  obtain ⟨r, M1, e1, a1, b1, s1, f1⟩ := roll_run s (by omega) (m := 10) (by decide) (by decide +kernel)
  obtain ⟨ys, M2, e2, l2, r2, s2, f2⟩ := draws (c := 1) (lots := r.toNat) (i := 2) (ρ0 := [some (.ob n), some (.str sgn), none]) (R := fun y => ∃ x : Str, y = .str x ∧ plainD (.str x) = true ∧ x.length = 1)
    (f := FL.e2 gIx (eVar 1) (eCall m__law_roll [] (eCons (eVar 0) (eCons (eB1 gLen (eCons (eVar 1) eNil)) eNil)))) s1 (by
      intro j k' M' hk' s' f'
      obtain ⟨r', M'', e, r0, r1, s'', f''⟩ := roll_run s' (by omega) (m := 51) (by decide) (by decide +kernel)
      obtain ⟨c, hc, hc2⟩ := sgn_ix r0 r1
      refine ⟨.str ⟨#[c]⟩, M'', ?_, ⟨_, rfl, one_plain hc2, rfl⟩, s'', f''⟩
      simp only [List.set]
      simp [gl, e, gIx_str (by rw [sgn_len]; omega : sgn.length ≤ sizeLine) hc])
  obtain ⟨xs, rfl, hxs⟩ := strs_of r2
  rw [List.length_map] at l2
  have hw := sum_ones fun x hx => (hxs x hx).2
  have h0 : ("" : Str).length = 0 := rfl
  have ej : ∀ {M : MH}, gJoin (.str "") [.lst (xs.map D.str)] M = .ok (.str (Str.join "" xs)) M := gJoin_ok (strsOf_map xs) (by
    rw [hw, h0]
    omega)
  have pj : plainD (.str (Str.join "" xs)) = true := join_plain rfl fun x hx => (hxs x hx).1
  have lj : (Str.join "" xs).length ≤ 10 := by
    have := StrLaws.join_length_le "" xs
    rw [hw, h0] at this
    omega
  have fr := f1.trans f2
  refine ⟨Str.join "" xs, M2, gcD_ok ?_ fr.len rfl s2.clean, pj, lj, s2.le (by omega), fr⟩
  generalize Str.join "" xs = word at ej pj lj
  have ec : (eLc (eRange1 (eCons (eCall m__law_roll [] (eCons (eVar 0) (eCons (eC (.int 10)) eNil))) eNil)) (tgName 2) eYes (FL.e2 gIx (eVar 1) (eCall m__law_roll [] (eCons (eVar 0) (eCons (eB1 gLen (eCons (eVar 1) eNil)) eNil)))) [2])
      [some (.ob n), some (.str sgn), none] M = .ok (.lst (xs.map D.str)) M2 := by
    rw [lc_range (m := r) (M1 := M1) (by simp [e1]) (by omega) (by omega)]
    simp only [wipeD, List.set, e2, Res.bind_ok]
  simp only [fnD, b__law_word, startD]
  simp [ec, ej]
end Law

namespace Law
open PySem L2 FL
def numL : List D := [.int 0, .int 1, .int 7, .int 100, .int 2000, .int 20000, .int (10 ^ 59)]
theorem num_in {w : D} (h : w ∈ numL) : ∃ a : Int, w = .int a ∧ 0 ≤ a ∧ a ≤ 10 ^ 59 := by
  simp only [numL, List.mem_cons, List.not_mem_nil, or_false] at h
  rcases h with rfl | rfl | rfl | rfl | rfl | rfl | rfl <;> exact ⟨_, rfl, by decide, by decide⟩
theorem number_run {n k : Nat} {M : MH} {j : Int} (s : St n k M) (hk : k + 30 < 2 ^ 40) : ∃ (N : Int) (M' : MH), (sSet 2 (FL.e2 gAdd (eCall m__law_pick [] (eCons (eVar 0) (eCons (eLst (eCons (eC (.int 0)) (eCons (eC (.int 1)) (eCons (eC (.int 7)) (eCons (eC (.int 100)) (eCons (eC (.int 2000)) (eCons (eC (.int 20000)) (eCons (FL.e2 gPow (eC (.int 10)) (eC (.int 59))) eNil)))))))) eNil))) (eCall m__law_roll [] (eCons (eVar 0) (eCons (eC (.int 3)) eNil))))) [some (.ob n), some (.int j), none] M = .nx [some (.ob n), some (.int j), some (.int N)] M' ∧
    0 ≤ N ∧ N < 10 ^ 60 ∧ St n (k + 2) M' ∧ Fr n M M' := by
  obtain ⟨w, M1, e1, hm, s1, f1⟩ := pick_run s (by omega) (ws := numL) (by simp [numL]) (by decide) (by
    have h : numL.all (fun w => plainD w) = true := by decide +kernel
    exact fun w hw => List.all_eq_true.mp h w hw)
  obtain ⟨a, rfl, a0, a1⟩ := num_in hm
  obtain ⟨r, M2, e2, r0, r1, s2, f2⟩ := roll_run s1 (by omega) (m := 3) (by decide) (by decide +kernel)
  refine ⟨a + r, M2, ?_, by omega, by omega, s2, f1.trans f2⟩
  have p59 : ∀ {M : MH}, gPow (.int 10) (.int 59) M = .ok (.int (10 ^ 59)) M := gPow_int (by decide +kernel)
  unfold numL at e1
  simp only [Int.reducePow] at e1 p59
  simp [p59, e1, e2]
theorem value_run {n k : Nat} {M : MH} {j : Int} (s : St n k M) (hk : k + 100 < 2 ^ 40) (j0 : 0 ≤ j) (j1 : j < 8) : ∃ (w : D) (M' : MH), m__law_value [.ob n, .int j] M = .ok w M' ∧ Pl 100000 6 w ∧ St n (k + 30) M' ∧ Fr n M M' := by
  obtain ⟨N, M1, e0, n0, n1, s1, f1⟩ := number_run (j := j) s (by omega)
  have pN : Pl 5000 0 (.int N) := pl_int (by omega) (by omega)
  by_cases h0 : j = 0
  · subst h0
    obtain ⟨w, M2, e2, hm, s2, f2⟩ := pick_run s1 (by omega) (ws := [.non, .int N]) (by simp) (by simp) (by
      intro w hw
      simp at hw
      rcases hw with rfl | rfl
      · rfl
      · exact pN.p)
    have pw : Pl 100000 6 w := by
      simp at hm
      rcases hm with rfl | rfl
      · exact Pl.one (by decide +kernel)
      · exact pN.le (by decide) (by decide)
    refine ⟨w, M2, gcD_ok ?_ (f1.trans f2).len (plain_below pw.p) s2.clean, pw, s2.le (by omega), f1.trans f2⟩
    simp only [fnD, b__law_value, startD]
    refine fin_step _ _ e0 ?_
    simp [e2]
  by_cases h2 : j = 2
  · subst h2
    have pa : Pl 5000 0 (.str "add") := Pl.one (by decide +kernel)
    have pb : Pl 5000 0 (.str "a") := Pl.one (by decide +kernel)
    have p1 : Pl 5005 1 (.tup [.int N]) := Pl.tup (l := 1) (by simp; exact pN) (by simp) (by decide) (by decide)
    have p2 : Pl 16000 2 (.tup [.str "add", .str "a", .tup [.int N]]) := Pl.tup (t := 5005) (d := 1) (l := 3) (by
      intro w hw
      simp at hw
      rcases hw with rfl | rfl | rfl
      · exact pa.le (by decide) (by decide)
      · exact pb.le (by decide) (by decide)
      · exact p1) (by simp) (by decide) (by decide)
    have p3 : Pl 40000 3 (.tup [.tup [.str "add", .str "a", .tup [.int N]], .tup [.str "remove", .int 1]]) := Pl.tup (t := 16000) (d := 2) (l := 2) (by
      intro w hw
      simp at hw
      rcases hw with rfl | rfl
      · exact p2
      · exact Pl.one (by decide +kernel)) (by simp) (by decide) (by decide)
    have p4 : Pl 100000 6 (.tup [.str "counterexample", .tup [.tup [.str "add", .str "a", .tup [.int N]], .tup [.str "remove", .int 1]]]) := Pl.tup (t := 40000) (d := 3) (l := 2) (by
      intro w hw
      simp at hw
      rcases hw with rfl | rfl
      · exact Pl.one (by decide +kernel)
      · exact p3) (by simp) (by decide) (by decide)
    refine ⟨_, M1, gcD_ok ?_ f1.len (plain_below p4.p) s1.clean, p4, s1.le (by omega), f1⟩
    simp only [fnD, b__law_value, startD]
    refine fin_step _ _ e0 ?_
    simp
  by_cases h3 : j = 3 ∨ j = 4 ∨ j = 7
  · have hin : ∀ M : MH, gIn false (.int j) (.tup [.int 3, .int 4, .int 7]) M = .ok (.bl true) M := by
      intro M
      rcases h3 with rfl | rfl | rfl <;> rfl
    obtain ⟨x, M2, e2, hx, lx, s2, f2⟩ := word_run s1 (by omega)
    obtain ⟨y, M3, e3, hy, ly, s3, f3⟩ := word_run s2 (by omega)
    have px : Pl 5000 0 (.str x) := ⟨hx, (by show 10 * x.length + 2 ≤ 5000; omega), Nat.le_refl _⟩
    have py : Pl 5000 0 (.str y) := ⟨hy, (by show 10 * y.length + 2 ≤ 5000; omega), Nat.le_refl _⟩
    have pm : Pl 5000 0 (.int (0 - N)) := pl_int (by omega) (by omega)
    have pt : Pl 100000 6 (.tup [.str y, .int N]) := Pl.tup (t := 5000) (d := 0) (l := 2) (by
      intro w hw
      simp at hw
      rcases hw with rfl | rfl
      · exact py
      · exact pN) (by simp) (by decide) (by decide)
    have pA : ∀ w ∈ [D.non, .int N, .int (0 - N), .str x, .bl true, .tup [], .tup [.str y, .int N]], Pl 100000 6 w := by
      intro w hw
      simp only [List.mem_cons, List.not_mem_nil, or_false] at hw
      rcases hw with rfl | rfl | rfl | rfl | rfl | rfl | rfl
      · exact Pl.one (by decide +kernel)
      · exact pN.le (by decide) (by decide)
      · exact pm.le (by decide) (by decide)
      · exact px.le (by decide) (by decide)
      · exact Pl.one (by decide +kernel)
      · exact Pl.one (by decide +kernel)
      · exact pt
    obtain ⟨w, M4, e4, hm, s4, f4⟩ := pick_run s3 (by omega) (ws := [D.non, .int N, .int (0 - N), .str x, .bl true, .tup [], .tup [.str y, .int N]]) (by simp) (by simp) fun w hw => (pA w hw).p
    have fr := ((f1.trans f2).trans f3).trans f4
    refine ⟨w, M4, gcD_ok ?_ fr.len (plain_below (pA w hm).p) s4.clean, pA w hm, s4.le (by omega), fr⟩
    simp only [fnD, b__law_value, startD]
    refine fin_step _ _ e0 ?_
    simp only [Int.zero_sub] at e4
    simp [h0, h2, hin, e2, e3, e4]
  · have hin : ∀ M : MH, gIn false (.int j) (.tup [.int 3, .int 4, .int 7]) M = .ok (.bl false) M := by
      intro M
      have : j = 1 ∨ j = 5 ∨ j = 6 := by omega
      rcases this with rfl | rfl | rfl <;> rfl
    refine ⟨_, M1, gcD_ok ?_ f1.len (plain_below pN.p) s1.clean, pN.le (by decide) (by decide), s1.le (by omega), f1⟩
    simp only [fnD, b__law_value, startD]
    refine fin_step _ _ e0 ?_
    simp [h0, h2, hin]
end Law

namespace Law
open PySem L2 FL
def lk (nm : Str) : List Str := (rows.lookup nm).getD []
abbrev kindsA : List Str := ["InvalidTable", "InvalidRow", "InvalidBag", "InvalidQuery", "InvalidStore", "InvalidStep", "InvalidPlan", "InvalidTransition", "InvalidScheme", "InvalidEvent", "InvalidSnapshot", "InvalidTree", "InvalidOperation", "ShelfError"]
abbrev kindsB : List Str := ["ParseError", "Stopped", "Wrong", "UnknownName", "UnknownKey", "NothingToUndo", "TooMany", "InvalidNumber"]
abbrev kindsC : List Str := ["ValueError", "KeyError", "IndexError", "LookupError", "OverflowError", "ArithmeticError", "RuntimeError"]
def boolsD (bs : List Bool) : D := .lst (bs.map D.bl)
theorem bools_below {n : Nat} {bs : List Bool} : below n (boolsD bs) = true := plain_below (w := boolsD bs) (plains_iff.mpr fun w hw => by
  obtain ⟨b, _, rfl⟩ := List.mem_map.mp hw
  rfl)
@[simp] theorem run_eIsX {tb : Str → Option Bool} {f : Ev D} {ρ : DSt} {M : MH} : FX.eIsX tb f ρ M = (f ρ M).bind (FX.gIsX tb) := rfl
@[simp] theorem run_eXf {cs : List Str} {n : Str} {f : Ev D} {ρ : DSt} {M : MH} : FX.eXf cs n f ρ M = (f ρ M).bind (FX.gXf cs n) := rfl
@[simp] theorem run_eX1 {c : Str} {f : Ev D} {ρ : DSt} {M : MH} : FX.eX1 c f ρ M = (f ρ M).bind fun _ M1 => .ok (.ob M1.length) (M1 ++ [.exc c []]) := rfl
@[simp] theorem run_eXI {c n : Str} {f : Ev D} {ρ : DSt} {M : MH} : FX.eXI c n f ρ M = (f ρ M).bind fun w M1 => .ok (.ob M1.length) (M1 ++ [.exc c [(n, w)]]) := rfl
@[simp] theorem run_sRaiseI {c n : Str} {f : Ev D} {ρ : DSt} {M : MH} : FX.sRaiseI c n f ρ M = (f ρ M).sk ρ fun w M1 => .exc c [(n, w)] ρ M1 := rfl
@[simp] theorem fin_exc {c : Str} {fs : List (Str × D)} {ρ : DSt} {M : MH} : (SR.exc c fs ρ M).fin = .exc c fs M := rfl
@[simp] theorem seq_exc' {c : Str} {fs : List (Str × D)} {ρ : DSt} {M : MH} {g : Es} : (SR.exc c fs ρ M).seq g = .exc c fs ρ M := rfl
theorem isX_at {p : Nat} {M : MH} {nm c : Str} {fs : List (Str × D)} {l : List Str} (h : M[p]? = some (.exc nm fs)) (hl : rows.lookup nm = some l) : FX.gIsX (FX.tbN rows c) (.ob p) M = .ok (.bl (l.contains c)) M := by
  unfold FX.gIsX FX.tbN
  dsimp only
  rw [h]
  dsimp only
  rw [hl]
  rfl
theorem add_small {a b : List D} {M : MH} (h : a.length + b.length ≤ 100) : gAdd (.lst a) (.lst b) M = .ok (.lst (a ++ b)) M := gAdd_lst (Nat.le_trans h (by decide))
theorem lst_small {a : List D} {M : MH} (h : a.length ≤ 100) : gLst a M = .ok (.lst a) M := gLst_ok (Nat.le_trans h (by decide))
theorem kinds_run {p : Nat} {M : MH} {nm : Str} {fs : List (Str × D)} {l : List Str} (h : M[p]? = some (.exc nm fs)) (hl : rows.lookup nm = some l) (hc : Clean M) : m__law_kinds [.ob p] M = .ok (boolsD (kindsA.map l.contains)) M := by
  refine gcD_ok ?_ rfl bools_below hc
  simp [fnD, b__law_kinds, startD, isX_at h hl, add_small, lst_small, boolsD, kindsA]
theorem kindsB_run {p : Nat} {M : MH} {nm : Str} {fs : List (Str × D)} {l : List Str} (h : M[p]? = some (.exc nm fs)) (hl : rows.lookup nm = some l) (hc : Clean M) : m__law_kinds_kept [.ob p] M = .ok (boolsD (kindsB.map l.contains)) M := by
  refine gcD_ok ?_ rfl bools_below hc
  simp [fnD, b__law_kinds_kept, startD, isX_at h hl, add_small, lst_small, boolsD, kindsB]
theorem kindsC_run {p : Nat} {M : MH} {nm : Str} {fs : List (Str × D)} {l : List Str} (h : M[p]? = some (.exc nm fs)) (hl : rows.lookup nm = some l) (hc : Clean M) : m__law_kinds_of_python [.ob p] M = .ok (boolsD (kindsC.map l.contains)) M := by
  refine gcD_ok ?_ rfl bools_below hc
  simp [fnD, b__law_kinds_of_python, startD, isX_at h hl, add_small, lst_small, boolsD, kindsC]
theorem in_ints {i : Int} {ks : List Int} {M : MH} : gIn false (.int i) (.tup (ks.map D.int)) M = .ok (.bl (ks.contains i)) M := by
  have ep : ∀ ks : List Int, pyDs (ks.map D.int) = some (ks.map PyData.int) := by
    intro ks
    induction ks with
    | nil => rfl
    | cons y r ih => rw [List.map_cons, pyDs, ih]; rfl
  have el : ∀ ks : List Int, PyData.canLayAll0 (ks.map PyData.int) = true := by
    intro ks
    induction ks with
    | nil => rfl
    | cons y r ih => rw [List.map_cons, PyData.canLayAll0, ih]; rfl
  have ea : inAny (.int i) (ks.map PyData.int) = ks.contains i := by
    unfold inAny
    rw [List.any_map, Bool.eq_iff_iff, List.any_eq_true, List.contains_iff_mem]
    constructor
    · rintro ⟨y, hy, e⟩
      have e' : (y == i) = true := e
      rw [beq_iff_eq] at e'
      exact e' ▸ hy
    · intro h
      exact ⟨i, h, (beq_self_eq_true i : (i == i) = true)⟩
  have e1 : pyM M (.tup (ks.map D.int)) = some (.tuple (ks.map PyData.int)) := by
    show pyD (.tup (ks.map D.int)) = _
    rw [pyD, ep]
    rfl
  have e2 : pyM M (.int i) = some (.int i) := rfl
  unfold gIn
  dsimp only
  rw [e1, e2]
  show (if SeqAt.shaped (.int i) = true ∧ PyData.canLayAll0 (ks.map PyData.int) = true then Res.ok (D.bl (false ^^ inAny (.int i) (ks.map PyData.int))) M else .stuck) = _
  rw [if_pos ⟨rfl, el ks⟩, ea, Bool.false_xor]
theorem only_run {ks : List Int} {m : Int} {M : MH} (hc : Clean M) (h0 : 0 ≤ m) (h1 : m ≤ 100) : m__law_only [.tup (ks.map D.int), .int m] M = .ok (boolsD ((List.range m.toNat).map fun (i : Nat) => ks.contains (i : Int))) M := by
  refine gcD_ok ?_ rfl bools_below hc
  have e := lc_map (h := tgName 2) (f := FL.e2 (gIn false) (eVar 2) (eVar 0)) (ρ0 := [some (.tup (ks.map D.int)), some (.int m), none]) (M := M) (F := fun w => match w with | .int i => .bl (ks.contains i) | w => w) (items := rangeD 0 m.toNat) (by
    intro w hw
    obtain ⟨i, _, rfl⟩ := List.mem_map.mp hw
    refine ⟨_, rfl, ?_⟩
    simp [in_ints])
  simp only [fnD, b__law_only, startD]
  rw [run_sRet]
  simp only [List.cons_append, List.nil_append, List.map_cons, List.map_nil]
  have q : (eLc (eRange1 (eCons (eVar 1) eNil)) (tgName 2) eYes (FL.e2 (gIn false) (eVar 2) (eVar 0)) [2]) [some (.tup (ks.map D.int)), some (.int m), none] M = .ok (boolsD ((List.range m.toNat).map fun (i : Nat) => ks.contains (i : Int))) M := by
    rw [lc_range (m := m) (M1 := M) (by simp) h0 (by omega)]
    simp only [wipeD, List.set, e, Res.bind_ok]
    congr 1
    unfold boolsD rangeD
    rw [List.map_map, List.map_map]
    congr 1
    apply List.map_congr_left
    intro i _
    simp
  exact (congrArg (fun r => SR.fin (Res.sk r _ _)) q).trans rfl
theorem ne_bools {bs cs : List Bool} {M : MH} (h : bs = cs) (hl : bs.length ≤ 60) : gNe (boolsD bs) (boolsD cs) M = .ok (.bl false) M := by
  subst h
  have ep : ∀ bs : List Bool, pyDs (bs.map D.bl) = some (bs.map PyData.bool) := by
    intro bs
    induction bs with
    | nil => rfl
    | cons y r ih => rw [List.map_cons, pyDs, ih]; rfl
  have e1 : pyM M (boolsD bs) = some (.list (bs.map PyData.bool)) := by
    show pyD (.lst (bs.map D.bl)) = _
    rw [pyD, ep]
    rfl
  have e2 : ∀ bs : List Bool, PyData.eqvAll (bs.map PyData.bool) (bs.map PyData.bool) = true := by
    intro bs
    induction bs with
    | nil => rfl
    | cons y r ih =>
      rw [List.map_cons, PyData.eqvAll, ih, Bool.and_true]
      exact (beq_self_eq_true y : (y == y) = true)
  have e3 : SeqAt.shaped (.list (bs.map PyData.bool)) = true := by
    have c1 : ∀ bs : List Bool, PyData.canLayAll0 (bs.map PyData.bool) = true := by
      intro bs
      induction bs with
      | nil => rfl
      | cons y r ih => rw [List.map_cons, PyData.canLayAll0, ih]; rfl
    have c2 : ∀ bs : List Bool, PyData.depthAll (bs.map PyData.bool) ≤ 10 := by
      intro bs
      induction bs with
      | nil => decide
      | cons y r ih =>
        rw [List.map_cons, PyData.depthAll]
        have : PyData.depth (.bool y) ≤ 10 := by cases y <;> decide
        omega
    unfold SeqAt.shaped
    rw [Bool.and_eq_true]
    refine ⟨c1 bs, decide_eq_true ?_⟩
    rw [PyData.depth]
    have := c2 bs
    omega
  have h1 : lenNe (lstOf (boolsD bs) M) (lstOf (boolsD bs) M) = false := by
    show lenNe (some (bs.map D.bl)) (some (bs.map D.bl)) = false
    simp [lenNe]
  unfold gNe gEqv boolsD
  dsimp only
  unfold boolsD at h1 e1
  rw [h1, if_neg (by decide), e1]
  dsimp only
  rw [if_pos ⟨e3, e3⟩]
  show Res.ok (D.bl (!PyData.eqvAll (bs.map PyData.bool) (bs.map PyData.bool))) M = _
  rw [e2]
  rfl
end Law

namespace Law
open PySem L2 FL
theorem skip_if {j i : Int} {ρ : DSt} {M : MH} {g1 g2 : Es} (hv : ρ[0]? = some (some (.int j))) (h : (j == i) = false) : (sSeq (sIf (eB (FL.e2 gEq (eVar 0) (eC (.int i)))) g1 sNext) g2) ρ M = g2 ρ M := by
  simp [hv, h]
theorem take_if {j i : Int} {ρ : DSt} {M : MH} {f : Ev D} {g2 : Es} (hv : ρ[0]? = some (some (.int j))) (h : (j == i) = true) {w : D} {M1 : MH} (e : f ρ M = .ok w M1) : ((sSeq (sIf (eB (FL.e2 gEq (eVar 0) (eC (.int i)))) (sRet f) sNext) g2) ρ M).fin = .ok w M1 := by
  simp [hv, h, e]
theorem take_exc {j i : Int} {ρ : DSt} {M : MH} {g1 g2 : Es} {c : Str} {fs : List (Str × D)} (hv : ρ[0]? = some (some (.int j))) (h : (j == i) = true) (e : g1 ρ M = .exc c fs ρ M) : ((sSeq (sIf (eB (FL.e2 gEq (eVar 0) (eC (.int i)))) g1 sNext) g2) ρ M).fin = .exc c fs M := by
  simp [hv, h, e]
theorem last_yes {j i : Int} {ρ : DSt} {M : MH} {f1 f2 : Ev D} (hv : ρ[0]? = some (some (.int j))) (h : (j == i) = true) {w : D} {M1 : MH} (e : f1 ρ M = .ok w M1) : ((sRet (eIf (eB (FL.e2 gEq (eVar 0) (eC (.int i)))) f1 f2)) ρ M).fin = .ok w M1 := by
  simp [hv, h, e]
theorem last_no {j i : Int} {ρ : DSt} {M : MH} {f1 f2 : Ev D} (hv : ρ[0]? = some (some (.int j))) (h : (j == i) = false) {w : D} {M1 : MH} (e : f2 ρ M = .ok w M1) : ((sRet (eIf (eB (FL.e2 gEq (eVar 0) (eC (.int i)))) f1 f2)) ρ M).fin = .ok w M1 := by
  simp [hv, h, e]
theorem msg_0 {x : Str} {M : MH} : m__law_with_message [.int 0, .str x] M = .ok (.ob M.length) (M ++ [.exc "InvalidTable" []]) := by
  unfold m__law_with_message fnD b__law_with_message
  exact take_if (j := 0) rfl (by decide) rfl
theorem msg_1 {x : Str} {M : MH} : m__law_with_message [.int 1, .str x] M = .ok (.ob M.length) (M ++ [.exc "InvalidRow" []]) := by
  unfold m__law_with_message fnD b__law_with_message
  rw [skip_if (j := 1) rfl (by decide)]
  exact take_if (j := 1) rfl (by decide) rfl
theorem msg_2 {x : Str} {M : MH} : m__law_with_message [.int 2, .str x] M = .ok (.ob M.length) (M ++ [.exc "InvalidBag" []]) := by
  unfold m__law_with_message fnD b__law_with_message
  rw [skip_if (j := 2) rfl (by decide), skip_if (j := 2) rfl (by decide)]
  exact take_if (j := 2) rfl (by decide) rfl
theorem msg_3 {x : Str} {M : MH} : m__law_with_message [.int 3, .str x] M = .ok (.ob M.length) (M ++ [.exc "InvalidQuery" []]) := by
  unfold m__law_with_message fnD b__law_with_message
  rw [skip_if (j := 3) rfl (by decide), skip_if (j := 3) rfl (by decide), skip_if (j := 3) rfl (by decide)]
  exact take_if (j := 3) rfl (by decide) rfl
theorem msg_4 {x : Str} {M : MH} : m__law_with_message [.int 4, .str x] M = .ok (.ob M.length) (M ++ [.exc "InvalidStore" []]) := by
  unfold m__law_with_message fnD b__law_with_message
  rw [skip_if (j := 4) rfl (by decide), skip_if (j := 4) rfl (by decide), skip_if (j := 4) rfl (by decide), skip_if (j := 4) rfl (by decide)]
  exact take_if (j := 4) rfl (by decide) rfl
theorem msg_5 {x : Str} {M : MH} : m__law_with_message [.int 5, .str x] M = .ok (.ob M.length) (M ++ [.exc "InvalidStep" []]) := by
  unfold m__law_with_message fnD b__law_with_message
  rw [skip_if (j := 5) rfl (by decide), skip_if (j := 5) rfl (by decide), skip_if (j := 5) rfl (by decide), skip_if (j := 5) rfl (by decide), skip_if (j := 5) rfl (by decide)]
  exact take_if (j := 5) rfl (by decide) rfl
theorem msg_6 {x : Str} {M : MH} : m__law_with_message [.int 6, .str x] M = .ok (.ob M.length) (M ++ [.exc "InvalidPlan" []]) := by
  unfold m__law_with_message fnD b__law_with_message
  rw [skip_if (j := 6) rfl (by decide), skip_if (j := 6) rfl (by decide), skip_if (j := 6) rfl (by decide), skip_if (j := 6) rfl (by decide), skip_if (j := 6) rfl (by decide), skip_if (j := 6) rfl (by decide)]
  exact take_if (j := 6) rfl (by decide) rfl
theorem msg_7 {x : Str} {M : MH} : m__law_with_message [.int 7, .str x] M = .ok (.ob M.length) (M ++ [.exc "InvalidTransition" []]) := by
  unfold m__law_with_message fnD b__law_with_message
  rw [skip_if (j := 7) rfl (by decide), skip_if (j := 7) rfl (by decide), skip_if (j := 7) rfl (by decide), skip_if (j := 7) rfl (by decide), skip_if (j := 7) rfl (by decide), skip_if (j := 7) rfl (by decide), skip_if (j := 7) rfl (by decide)]
  exact take_if (j := 7) rfl (by decide) rfl
theorem msg_8 {x : Str} {M : MH} : m__law_with_message [.int 8, .str x] M = .ok (.ob M.length) (M ++ [.exc "InvalidScheme" []]) := by
  unfold m__law_with_message fnD b__law_with_message
  rw [skip_if (j := 8) rfl (by decide), skip_if (j := 8) rfl (by decide), skip_if (j := 8) rfl (by decide), skip_if (j := 8) rfl (by decide), skip_if (j := 8) rfl (by decide), skip_if (j := 8) rfl (by decide), skip_if (j := 8) rfl (by decide), skip_if (j := 8) rfl (by decide)]
  exact take_if (j := 8) rfl (by decide) rfl
theorem msg_9 {x : Str} {M : MH} : m__law_with_message [.int 9, .str x] M = .ok (.ob M.length) (M ++ [.exc "InvalidEvent" []]) := by
  unfold m__law_with_message fnD b__law_with_message
  rw [skip_if (j := 9) rfl (by decide), skip_if (j := 9) rfl (by decide), skip_if (j := 9) rfl (by decide), skip_if (j := 9) rfl (by decide), skip_if (j := 9) rfl (by decide), skip_if (j := 9) rfl (by decide), skip_if (j := 9) rfl (by decide), skip_if (j := 9) rfl (by decide), skip_if (j := 9) rfl (by decide)]
  exact take_if (j := 9) rfl (by decide) rfl
theorem msg_10 {x : Str} {M : MH} : m__law_with_message [.int 10, .str x] M = .ok (.ob M.length) (M ++ [.exc "InvalidSnapshot" []]) := by
  unfold m__law_with_message fnD b__law_with_message
  rw [skip_if (j := 10) rfl (by decide), skip_if (j := 10) rfl (by decide), skip_if (j := 10) rfl (by decide), skip_if (j := 10) rfl (by decide), skip_if (j := 10) rfl (by decide), skip_if (j := 10) rfl (by decide), skip_if (j := 10) rfl (by decide), skip_if (j := 10) rfl (by decide), skip_if (j := 10) rfl (by decide), skip_if (j := 10) rfl (by decide)]
  exact take_if (j := 10) rfl (by decide) rfl
theorem msg_11 {x : Str} {M : MH} : m__law_with_message [.int 11, .str x] M = .ok (.ob M.length) (M ++ [.exc "InvalidTree" []]) := by
  unfold m__law_with_message fnD b__law_with_message
  rw [skip_if (j := 11) rfl (by decide), skip_if (j := 11) rfl (by decide), skip_if (j := 11) rfl (by decide), skip_if (j := 11) rfl (by decide), skip_if (j := 11) rfl (by decide), skip_if (j := 11) rfl (by decide), skip_if (j := 11) rfl (by decide), skip_if (j := 11) rfl (by decide), skip_if (j := 11) rfl (by decide), skip_if (j := 11) rfl (by decide), skip_if (j := 11) rfl (by decide)]
  exact take_if (j := 11) rfl (by decide) rfl
theorem msg_12 {x : Str} {M : MH} : m__law_with_message [.int 12, .str x] M = .ok (.ob M.length) (M ++ [.exc "InvalidOperation" []]) := by
  unfold m__law_with_message fnD b__law_with_message
  rw [skip_if (j := 12) rfl (by decide), skip_if (j := 12) rfl (by decide), skip_if (j := 12) rfl (by decide), skip_if (j := 12) rfl (by decide), skip_if (j := 12) rfl (by decide), skip_if (j := 12) rfl (by decide), skip_if (j := 12) rfl (by decide), skip_if (j := 12) rfl (by decide), skip_if (j := 12) rfl (by decide), skip_if (j := 12) rfl (by decide), skip_if (j := 12) rfl (by decide), skip_if (j := 12) rfl (by decide)]
  exact last_yes (j := 12) rfl (by decide) rfl
theorem msg_13 {x : Str} {M : MH} : m__law_with_message [.int 13, .str x] M = .ok (.ob M.length) (M ++ [.exc "ShelfError" []]) := by
  unfold m__law_with_message fnD b__law_with_message
  rw [skip_if (j := 13) rfl (by decide), skip_if (j := 13) rfl (by decide), skip_if (j := 13) rfl (by decide), skip_if (j := 13) rfl (by decide), skip_if (j := 13) rfl (by decide), skip_if (j := 13) rfl (by decide), skip_if (j := 13) rfl (by decide), skip_if (j := 13) rfl (by decide), skip_if (j := 13) rfl (by decide), skip_if (j := 13) rfl (by decide), skip_if (j := 13) rfl (by decide), skip_if (j := 13) rfl (by decide)]
  exact last_no (j := 13) rfl (by decide) rfl
theorem msg_run {j : Int} {x : Str} {M : MH} (j0 : 0 ≤ j) (j1 : j < 14) : ∃ nm : Str, m__law_with_message [.int j, .str x] M = .ok (.ob M.length) (M ++ [.exc nm []]) ∧ rows.lookup nm = some (lk nm) ∧
    kindsA.map (lk nm).contains = ((List.range 14).map fun (i : Nat) => [j, 13].contains (i : Int)) ∧ kindsB.map (lk nm).contains = List.replicate 8 false ∧ kindsC.map (lk nm).contains = (List.range 7).map fun (i : Nat) => [(0 : Int)].contains (i : Int) := by
  have hj : j = 0 ∨ j = 1 ∨ j = 2 ∨ j = 3 ∨ j = 4 ∨ j = 5 ∨ j = 6 ∨ j = 7 ∨ j = 8 ∨ j = 9 ∨ j = 10 ∨ j = 11 ∨ j = 12 ∨ j = 13 := by omega
  rcases hj with rfl | rfl | rfl | rfl | rfl | rfl | rfl | rfl | rfl | rfl | rfl | rfl | rfl | rfl
  · exact ⟨"InvalidTable", msg_0, by decide +kernel, by decide +kernel, by decide +kernel, by decide +kernel⟩
  · exact ⟨"InvalidRow", msg_1, by decide +kernel, by decide +kernel, by decide +kernel, by decide +kernel⟩
  · exact ⟨"InvalidBag", msg_2, by decide +kernel, by decide +kernel, by decide +kernel, by decide +kernel⟩
  · exact ⟨"InvalidQuery", msg_3, by decide +kernel, by decide +kernel, by decide +kernel, by decide +kernel⟩
  · exact ⟨"InvalidStore", msg_4, by decide +kernel, by decide +kernel, by decide +kernel, by decide +kernel⟩
  · exact ⟨"InvalidStep", msg_5, by decide +kernel, by decide +kernel, by decide +kernel, by decide +kernel⟩
  · exact ⟨"InvalidPlan", msg_6, by decide +kernel, by decide +kernel, by decide +kernel, by decide +kernel⟩
  · exact ⟨"InvalidTransition", msg_7, by decide +kernel, by decide +kernel, by decide +kernel, by decide +kernel⟩
  · exact ⟨"InvalidScheme", msg_8, by decide +kernel, by decide +kernel, by decide +kernel, by decide +kernel⟩
  · exact ⟨"InvalidEvent", msg_9, by decide +kernel, by decide +kernel, by decide +kernel, by decide +kernel⟩
  · exact ⟨"InvalidSnapshot", msg_10, by decide +kernel, by decide +kernel, by decide +kernel, by decide +kernel⟩
  · exact ⟨"InvalidTree", msg_11, by decide +kernel, by decide +kernel, by decide +kernel, by decide +kernel⟩
  · exact ⟨"InvalidOperation", msg_12, by decide +kernel, by decide +kernel, by decide +kernel, by decide +kernel⟩
  · exact ⟨"ShelfError", msg_13, by decide +kernel, by decide +kernel, by decide +kernel, by decide +kernel⟩
abbrev wordsL : List D := [.str "shelf", .str "shelf", .str "shelf", .str "key", .str "lookup", .str "lookup", .str "number", .str "number"]
abbrev pysL : List D := [.tup [.int 0], .tup [.int 0], .tup [.int 0], .tup [.int 1, .int 3], .tup [.int 2, .int 3], .tup [.int 3], .tup [.int 4, .int 5], .tup [.int 6]]
theorem xf_at {p : Nat} {M : MH} {nm f : Str} {w : D} {cs : List Str} (h : M[p]? = some (.exc nm [(f, w)])) (hc : nm ∈ cs) : FX.gXf cs f (.ob p) M = .ok w M := by
  unfold FX.gXf
  dsimp only
  rw [h]
  dsimp only
  rw [if_pos hc]
  simp [List.lookup]
theorem gcD_exc {φ : List D → MH → Res D} {ws : List D} {M : MH} {c : Str} {fs : List (Str × D)} (h : φ ws M = .exc c fs M) (hw : belows M.length (fs.map (·.2)) = true) (hM : Clean M) : gcD φ ws M = .exc c fs M := by
  unfold gcD
  rw [h]
  show (if belows M.length (fs.map (·.2)) = true ∧ ((M.take M.length).all (belowO M.length)) = true then Res.exc c fs (M.take M.length) else .stuck) = _
  rw [List.take_length, if_pos ⟨hw, hM⟩]
/-- what stands of the j-th error that keeps something -/
structure Kept (j : Int) (nm f word : Str) (ks : List Int) : Prop where
  make : ∀ (w : D) (M : MH), m__law_keeping [.int j, w] M = .ok (.ob M.length) (M ++ [.exc nm [(f, w)]])
  kept : ∀ (w : D) (M : MH) (p : Nat), plainD w = true → Clean M → M[p]? = some (.exc nm [(f, w)]) → m__law_kept [.int j, .ob p] M = .ok w M
  raise : ∀ (w : D) (M : MH), plainD w = true → Clean M → m__law_raised [.int j, w] M = .exc nm [(f, w)] M
  caught : ∀ (w : D) (M : MH), plainD w = true → Clean M → m__law_raised [.int j, w] M = .exc nm [(f, w)] M → m__law_caught [.int j, w] M = .ok (.str word) M
  look : rows.lookup nm = some (lk nm)
  kB : kindsB.map (lk nm).contains = (List.range 8).map fun (i : Nat) => [j].contains (i : Int)
  kA : kindsA.map (lk nm).contains = List.replicate 13 false ++ [decide (j < 3)]
  kC : kindsC.map (lk nm).contains = (List.range 7).map fun (i : Nat) => ks.contains (i : Int)
  word : atI wordsL j = some (.str word)
  py : atI pysL j = some (.tup (ks.map D.int))
theorem below_one {n : Nat} {w : D} {f : Str} (h : plainD w = true) : belows n (([(f, w)] : List (Str × D)).map (·.2)) = true := by
  show (below n w && true) = true
  rw [plain_below h]
  rfl
abbrev clz : FX.ExT := [(FX.exN rows ["ShelfError"], (sRet (eC (.str "shelf")))), (FX.exN rows ["KeyError"], (sRet (eC (.str "key")))), (FX.exN rows ["UnknownKey", "NothingToUndo"], (sRet (eC (.str "lookup")))), (FX.exN rows ["TooMany", "InvalidNumber"], (sRet (eC (.str "number"))))]
theorem hand_yes {tb : Str → Option Bool} {c x : Str} {fs : List (Str × D)} {ρ : DSt} {M : MH} {r : FX.ExT} (h : tb c = some true) : FX.handD c fs ρ M ((tb, sRet (eC (.str x))) :: r) = .rt (.str x) M := by
  unfold FX.handD
  rw [h]
  rfl
theorem hand_no {tb : Str → Option Bool} {c : Str} {g : Es} {fs : List (Str × D)} {ρ : DSt} {M : MH} {r : FX.ExT} (h : tb c = some false) : FX.handD c fs ρ M ((tb, g) :: r) = FX.handD c fs ρ M r := by
  rw [FX.handD, h]
theorem caught_of {j : Int} {w : D} {M : MH} {nm f word : Str} (hc : Clean M) (h : m__law_raised [.int j, w] M = .exc nm [(f, w)] M) (hd : FX.handD nm [(f, w)] [some (.int j), some w] M clz = .rt (.str word) M) : m__law_caught [.int j, w] M = .ok (.str word) M := by
  refine gcD_ok ?_ rfl rfl hc
  have e : (sExpr (eCall m__law_raised [] (eCons (eVar 0) (eCons (eVar 1) eNil)))) [some (.int j), some w] M = .exc nm [(f, w)] [some (.int j), some w] M := by
    simp [h]
  unfold fnD b__law_caught
  rw [run_sSeq]
  show ((FX.sTry (sExpr (eCall m__law_raised [] (eCons (eVar 0) (eCons (eVar 1) eNil)))) clz [some (.int j), some w] M).seq _).fin = _
  unfold FX.sTry
  rw [e]
  dsimp only
  rw [hd]
  rfl
theorem k0 : Kept 0 "ParseError" "line" "shelf" [0] where
  make := fun w M => by
    unfold m__law_keeping fnD b__law_keeping
    exact take_if (j := 0) rfl (by decide) rfl
  kept := fun w M p hw hc h => gcD_ok (by
    unfold fnD b__law_kept
    exact take_if (j := 0) rfl (by decide) (xf_at h (by decide +kernel))) rfl (plain_below hw) hc
  raise := fun w M hw hc => gcD_exc (by
    unfold fnD b__law_raised
    exact take_exc (j := 0) rfl (by decide) rfl) (below_one hw) hc
  caught := fun w M hw hc h => caught_of hc h (hand_yes (by decide +kernel))
  look := by decide +kernel
  kB := by decide +kernel
  kA := by decide +kernel
  kC := by decide +kernel
  word := atI_nat (j := 0) rfl
  py := atI_nat (j := 0) rfl
theorem k1 : Kept 1 "Stopped" "index" "shelf" [0] where
  make := fun w M => by
    unfold m__law_keeping fnD b__law_keeping
    rw [skip_if (j := 1) rfl (by decide)]
    exact take_if (j := 1) rfl (by decide) rfl
  kept := fun w M p hw hc h => gcD_ok (by
    unfold fnD b__law_kept
    rw [skip_if (j := 1) rfl (by decide)]
    exact take_if (j := 1) rfl (by decide) (xf_at h (by decide +kernel))) rfl (plain_below hw) hc
  raise := fun w M hw hc => gcD_exc (by
    unfold fnD b__law_raised
    rw [skip_if (j := 1) rfl (by decide)]
    exact take_exc (j := 1) rfl (by decide) rfl) (below_one hw) hc
  caught := fun w M hw hc h => caught_of hc h (hand_yes (by decide +kernel))
  look := by decide +kernel
  kB := by decide +kernel
  kA := by decide +kernel
  kC := by decide +kernel
  word := atI_nat (j := 1) rfl
  py := atI_nat (j := 1) rfl
theorem k2 : Kept 2 "Wrong" "certificate" "shelf" [0] where
  make := fun w M => by
    unfold m__law_keeping fnD b__law_keeping
    rw [skip_if (j := 2) rfl (by decide), skip_if (j := 2) rfl (by decide)]
    exact take_if (j := 2) rfl (by decide) rfl
  kept := fun w M p hw hc h => gcD_ok (by
    unfold fnD b__law_kept
    rw [skip_if (j := 2) rfl (by decide), skip_if (j := 2) rfl (by decide)]
    exact take_if (j := 2) rfl (by decide) (xf_at h (by decide +kernel))) rfl (plain_below hw) hc
  raise := fun w M hw hc => gcD_exc (by
    unfold fnD b__law_raised
    rw [skip_if (j := 2) rfl (by decide), skip_if (j := 2) rfl (by decide)]
    exact take_exc (j := 2) rfl (by decide) rfl) (below_one hw) hc
  caught := fun w M hw hc h => caught_of hc h (hand_yes (by decide +kernel))
  look := by decide +kernel
  kB := by decide +kernel
  kA := by decide +kernel
  kC := by decide +kernel
  word := atI_nat (j := 2) rfl
  py := atI_nat (j := 2) rfl
theorem k3 : Kept 3 "UnknownName" "name" "key" [1, 3] where
  make := fun w M => by
    unfold m__law_keeping fnD b__law_keeping
    rw [skip_if (j := 3) rfl (by decide), skip_if (j := 3) rfl (by decide), skip_if (j := 3) rfl (by decide)]
    exact take_if (j := 3) rfl (by decide) rfl
  kept := fun w M p hw hc h => gcD_ok (by
    unfold fnD b__law_kept
    rw [skip_if (j := 3) rfl (by decide), skip_if (j := 3) rfl (by decide), skip_if (j := 3) rfl (by decide)]
    exact take_if (j := 3) rfl (by decide) (xf_at h (by decide +kernel))) rfl (plain_below hw) hc
  raise := fun w M hw hc => gcD_exc (by
    unfold fnD b__law_raised
    rw [skip_if (j := 3) rfl (by decide), skip_if (j := 3) rfl (by decide), skip_if (j := 3) rfl (by decide)]
    exact take_exc (j := 3) rfl (by decide) rfl) (below_one hw) hc
  caught := fun w M hw hc h => caught_of hc h ((hand_no (by decide +kernel)).trans (hand_yes (by decide +kernel)))
  look := by decide +kernel
  kB := by decide +kernel
  kA := by decide +kernel
  kC := by decide +kernel
  word := atI_nat (j := 3) rfl
  py := atI_nat (j := 3) rfl
theorem k4 : Kept 4 "UnknownKey" "key" "lookup" [2, 3] where
  make := fun w M => by
    unfold m__law_keeping fnD b__law_keeping
    rw [skip_if (j := 4) rfl (by decide), skip_if (j := 4) rfl (by decide), skip_if (j := 4) rfl (by decide), skip_if (j := 4) rfl (by decide)]
    exact take_if (j := 4) rfl (by decide) rfl
  kept := fun w M p hw hc h => gcD_ok (by
    unfold fnD b__law_kept
    rw [skip_if (j := 4) rfl (by decide), skip_if (j := 4) rfl (by decide), skip_if (j := 4) rfl (by decide), skip_if (j := 4) rfl (by decide)]
    exact take_if (j := 4) rfl (by decide) (xf_at h (by decide +kernel))) rfl (plain_below hw) hc
  raise := fun w M hw hc => gcD_exc (by
    unfold fnD b__law_raised
    rw [skip_if (j := 4) rfl (by decide), skip_if (j := 4) rfl (by decide), skip_if (j := 4) rfl (by decide), skip_if (j := 4) rfl (by decide)]
    exact take_exc (j := 4) rfl (by decide) rfl) (below_one hw) hc
  caught := fun w M hw hc h => caught_of hc h ((hand_no (by decide +kernel)).trans ((hand_no (by decide +kernel)).trans (hand_yes (by decide +kernel))))
  look := by decide +kernel
  kB := by decide +kernel
  kA := by decide +kernel
  kC := by decide +kernel
  word := atI_nat (j := 4) rfl
  py := atI_nat (j := 4) rfl
theorem k5 : Kept 5 "NothingToUndo" "many" "lookup" [3] where
  make := fun w M => by
    unfold m__law_keeping fnD b__law_keeping
    rw [skip_if (j := 5) rfl (by decide), skip_if (j := 5) rfl (by decide), skip_if (j := 5) rfl (by decide), skip_if (j := 5) rfl (by decide), skip_if (j := 5) rfl (by decide)]
    exact take_if (j := 5) rfl (by decide) rfl
  kept := fun w M p hw hc h => gcD_ok (by
    unfold fnD b__law_kept
    rw [skip_if (j := 5) rfl (by decide), skip_if (j := 5) rfl (by decide), skip_if (j := 5) rfl (by decide), skip_if (j := 5) rfl (by decide), skip_if (j := 5) rfl (by decide)]
    exact take_if (j := 5) rfl (by decide) (xf_at h (by decide +kernel))) rfl (plain_below hw) hc
  raise := fun w M hw hc => gcD_exc (by
    unfold fnD b__law_raised
    rw [skip_if (j := 5) rfl (by decide), skip_if (j := 5) rfl (by decide), skip_if (j := 5) rfl (by decide), skip_if (j := 5) rfl (by decide), skip_if (j := 5) rfl (by decide)]
    exact take_exc (j := 5) rfl (by decide) rfl) (below_one hw) hc
  caught := fun w M hw hc h => caught_of hc h ((hand_no (by decide +kernel)).trans ((hand_no (by decide +kernel)).trans (hand_yes (by decide +kernel))))
  look := by decide +kernel
  kB := by decide +kernel
  kA := by decide +kernel
  kC := by decide +kernel
  word := atI_nat (j := 5) rfl
  py := atI_nat (j := 5) rfl
theorem k6 : Kept 6 "TooMany" "limit" "number" [4, 5] where
  make := fun w M => by
    unfold m__law_keeping fnD b__law_keeping
    rw [skip_if (j := 6) rfl (by decide), skip_if (j := 6) rfl (by decide), skip_if (j := 6) rfl (by decide), skip_if (j := 6) rfl (by decide), skip_if (j := 6) rfl (by decide), skip_if (j := 6) rfl (by decide)]
    exact last_yes (j := 6) rfl (by decide) rfl
  kept := fun w M p hw hc h => gcD_ok (by
    unfold fnD b__law_kept
    rw [skip_if (j := 6) rfl (by decide), skip_if (j := 6) rfl (by decide), skip_if (j := 6) rfl (by decide), skip_if (j := 6) rfl (by decide), skip_if (j := 6) rfl (by decide), skip_if (j := 6) rfl (by decide)]
    exact last_yes (j := 6) rfl (by decide) (xf_at h (by decide +kernel))) rfl (plain_below hw) hc
  raise := fun w M hw hc => gcD_exc (by
    unfold fnD b__law_raised
    rw [skip_if (j := 6) rfl (by decide), skip_if (j := 6) rfl (by decide), skip_if (j := 6) rfl (by decide), skip_if (j := 6) rfl (by decide), skip_if (j := 6) rfl (by decide), skip_if (j := 6) rfl (by decide)]
    exact take_exc (j := 6) rfl (by decide) rfl) (below_one hw) hc
  caught := fun w M hw hc h => caught_of hc h ((hand_no (by decide +kernel)).trans ((hand_no (by decide +kernel)).trans ((hand_no (by decide +kernel)).trans (hand_yes (by decide +kernel)))))
  look := by decide +kernel
  kB := by decide +kernel
  kA := by decide +kernel
  kC := by decide +kernel
  word := atI_nat (j := 6) rfl
  py := atI_nat (j := 6) rfl
theorem k7 : Kept 7 "InvalidNumber" "value" "number" [6] where
  make := fun w M => by
    unfold m__law_keeping fnD b__law_keeping
    rw [skip_if (j := 7) rfl (by decide), skip_if (j := 7) rfl (by decide), skip_if (j := 7) rfl (by decide), skip_if (j := 7) rfl (by decide), skip_if (j := 7) rfl (by decide), skip_if (j := 7) rfl (by decide)]
    exact last_no (j := 7) rfl (by decide) rfl
  kept := fun w M p hw hc h => gcD_ok (by
    unfold fnD b__law_kept
    rw [skip_if (j := 7) rfl (by decide), skip_if (j := 7) rfl (by decide), skip_if (j := 7) rfl (by decide), skip_if (j := 7) rfl (by decide), skip_if (j := 7) rfl (by decide), skip_if (j := 7) rfl (by decide)]
    exact last_no (j := 7) rfl (by decide) (xf_at h (by decide +kernel))) rfl (plain_below hw) hc
  raise := fun w M hw hc => gcD_exc (by
    unfold fnD b__law_raised
    rw [skip_if (j := 7) rfl (by decide), skip_if (j := 7) rfl (by decide), skip_if (j := 7) rfl (by decide), skip_if (j := 7) rfl (by decide), skip_if (j := 7) rfl (by decide), skip_if (j := 7) rfl (by decide), skip_if (j := 7) rfl (by decide)]
    exact rfl) (below_one hw) hc
  caught := fun w M hw hc h => caught_of hc h ((hand_no (by decide +kernel)).trans ((hand_no (by decide +kernel)).trans ((hand_no (by decide +kernel)).trans (hand_yes (by decide +kernel)))))
  look := by decide +kernel
  kB := by decide +kernel
  kA := by decide +kernel
  kC := by decide +kernel
  word := atI_nat (j := 7) rfl
  py := atI_nat (j := 7) rfl
theorem kept_of {j : Int} (j0 : 0 ≤ j) (j1 : j < 8) : ∃ nm f word ks, Kept j nm f word ks := by
  have hj : j = 0 ∨ j = 1 ∨ j = 2 ∨ j = 3 ∨ j = 4 ∨ j = 5 ∨ j = 6 ∨ j = 7 := by omega
  rcases hj with rfl | rfl | rfl | rfl | rfl | rfl | rfl | rfl
  · exact ⟨_, _, _, _, k0⟩
  · exact ⟨_, _, _, _, k1⟩
  · exact ⟨_, _, _, _, k2⟩
  · exact ⟨_, _, _, _, k3⟩
  · exact ⟨_, _, _, _, k4⟩
  · exact ⟨_, _, _, _, k5⟩
  · exact ⟨_, _, _, _, k6⟩
  · exact ⟨_, _, _, _, k7⟩
end Law

namespace Law
open PySem L2 FL
theorem gMulL_one {M : MH} {n : Nat} {w : D} {k : Int} (h : M[n]? = some (.lst [w])) (h1 : -(2 ^ 62) ≤ k) (h0 : k < 16777216) : gMulL (.ob n) (.int k) M = .ok (.lst (List.replicate k.toNat w)) M := by
  have z : 16777216 ≤ sizeLine := by decide
  unfold gMulL
  dsimp only
  rw [h]
  dsimp only
  rw [if_pos ⟨h1, by omega, by simp; omega⟩]
  congr 2
  rw [List.flatten_replicate_singleton]
abbrev rgS (n : Nat) (d1 d2 d3 d4 d5 : Option D) : DSt := [some (.ob n), d1, d2, d3, d4, d5]
noncomputable abbrev body1 : Es := (sSeq (sSet 2 (eCall m__law_with_message [] (eCons (eVar 1) (eCons (eCall m__law_word [] (eCons (eVar 0) eNil)) eNil))))
    (sSeq (sIf (eOr (eB (FL.e2 gNe (eCall m__law_kinds [] (eCons (eVar 2) eNil)) (eCall m__law_only [] (eCons (eTup (eCons (eVar 1) (eCons (eC (.int 13)) eNil))) (eCons (eC (.int 14)) eNil))))) (eB (FL.e2 gNe (eCall m__law_kinds_kept [] (eCons (eVar 2) eNil)) (FL.e2 gMulL (eNewL (eCons (eC (.bl false)) eNil)) (eC (.int 8)))))) (sRet (eC (.bl false))) sNext)
    (sIf (eB (FL.e2 gNe (eCall m__law_kinds_of_python [] (eCons (eVar 2) eNil)) (eCall m__law_only [] (eCons (eTup (eCons (eC (.int 0)) eNil)) (eCons (eC (.int 7)) eNil))))) (sRet (eC (.bl false))) sNext)))
theorem turn1 {n k : Nat} {M0 M : MH} {j : Int} {d2 d3 d4 d5 : Option D} (s : St n k M) (g : Gr n M0 M) (hk : k + 100 < 2 ^ 40) (j0 : 0 ≤ j) (j1 : j < 14) :
    ∃ d2' M', body1 (rgS n (some (.int j)) d2 d3 d4 d5) M = .nx (rgS n (some (.int j)) d2' d3 d4 d5) M' ∧ St n (k + 10) M' ∧ Gr n M0 M' := by
  obtain ⟨x, M1, e1, hx, lx, s1, f1⟩ := word_run s (by omega)
  obtain ⟨nm, e2, hl, qA, qB, qC⟩ := msg_run (x := x) (M := M1) j0 j1
  have s2 : St n (k + 10) (M1 ++ [.exc nm []]) := s1.add rfl
  have g2 : Gr n M0 (M1 ++ [.exc nm []]) := (g.fr f1).add
  have hp : (M1 ++ [.exc nm []])[M1.length]? = some (MO.exc nm []) := List.getElem?_concat_length
  generalize M1 ++ [.exc nm []] = M2 at e2 s2 g2 hp
  have s3 : St n (k + 10) (M2 ++ [.lst [.bl false]]) := s2.add rfl
  have g3 : Gr n M0 (M2 ++ [.lst [.bl false]]) := g2.add
  have hp3 : (M2 ++ [.lst [.bl false]])[M1.length]? = some (MO.exc nm []) := by
    rw [List.getElem?_append_left (List.getElem?_eq_some_iff.mp hp).1, hp]
  have hq3 : (M2 ++ [.lst [.bl false]])[M2.length]? = some (MO.lst [.bl false]) := List.getElem?_concat_length
  have en : gNewL [.bl false] M2 = .ok (.ob M2.length) (M2 ++ [.lst [.bl false]]) := gNewL_ok (by decide)
  have em := gMulL_one (k := 8) hq3 (by decide) (by decide)
  generalize hM3 : M2 ++ [.lst [.bl false]] = M3 at s3 g3 hp3 hq3 en em
  have em' : gMulL (.ob M2.length) (.int 8) M3 = .ok (boolsD (List.replicate 8 false)) M3 := em
  have a1 := kinds_run hp hl s2.clean
  have a2 := only_run (ks := [j, 13]) (m := 14) s2.clean (by decide) (by decide)
  have a3 := kindsB_run hp hl s2.clean
  have a4 := kindsC_run hp3 hl s3.clean
  have a5 := only_run (ks := [0]) (m := 7) s3.clean (by decide) (by decide)
  have n1 := ne_bools (M := M2) qA (by simp)
  have n2 := ne_bools (M := M3) qB (by simp)
  have n3 := ne_bools (M := M3) qC (by simp)
  refine ⟨some (.ob M1.length), M3, ?_, s3, g3⟩
  generalize kindsA.map (lk nm).contains = A at a1 n1
  generalize kindsB.map (lk nm).contains = B at a3 n2
  generalize kindsC.map (lk nm).contains = C at a4 n3
  have a2' : m__law_only [.tup [.int j, .int 13], .int 14] M2 = .ok (boolsD ((List.range 14).map fun (i : Nat) => [j, 13].contains (i : Int))) M2 := a2
  have a5' : m__law_only [.tup [.int 0], .int 7] M3 = .ok (boolsD ((List.range 7).map fun (i : Nat) => [(0 : Int)].contains (i : Int))) M3 := a5
  generalize ((List.range 14).map fun (i : Nat) => [j, 13].contains (i : Int)) = A' at a2' n1
  generalize ((List.range 7).map fun (i : Nat) => [(0 : Int)].contains (i : Int)) = C' at a5' n3
  generalize List.replicate 8 false = B' at em' n2
  simp [hM3, e1, e2, a1, a2', n1, a3, en, em', n2, a4, a5', n3]
theorem loop1 {n : Nat} {M0 : MH} {d3 d4 d5 : Option D} : ∀ (its : List D) (k : Nat) (M : MH) (d1 d2 : Option D), St n k M → Gr n M0 M → k + 100 * its.length < 2 ^ 39 → (∀ w ∈ its, ∃ j : Int, w = .int j ∧ 0 ≤ j ∧ j < 14) →
    ∃ d1' d2' M', forD (tgName 1) body1 its (rgS n d1 d2 d3 d4 d5) M = .nx (rgS n d1' d2' d3 d4 d5) M' ∧ St n (k + 100 * its.length) M' ∧ Gr n M0 M'
  | [], k, M, d1, d2, s, g, _, _ => ⟨d1, d2, M, rfl, s, g⟩
  | w :: its, k, M, d1, d2, s, g, hk, hj => by
    rw [List.length_cons] at hk
    obtain ⟨j, rfl, j0, j1⟩ := hj w (by simp)
    obtain ⟨d2', M1, e1, s1, g1⟩ := turn1 (d2 := d2) (d3 := d3) (d4 := d4) (d5 := d5) s g (by omega) j0 j1
    obtain ⟨d1', d2'', M2, e2, s2, g2⟩ := loop1 (d3 := d3) (d4 := d4) (d5 := d5) its _ M1 (some (.int j)) d2' s1 g1 (by omega) (fun w hw => hj w (by simp [hw]))
    refine ⟨d1', d2'', M2, ?_, s2.le (by rw [List.length_cons]; omega), g2⟩
    rw [← e2]
    unfold forD
    have : tgName 1 (.int j) (rgS n d1 d2 d3 d4 d5) = some (rgS n (some (.int j)) d2 d3 d4 d5) := rfl
    rw [this]
    dsimp only
    rw [e1]
    cases its <;> rfl
noncomputable abbrev body2 : Es := (sSeq (sSet 5 (eCall m__law_value [] (eCons (eVar 0) (eCons (eVar 1) eNil))))
    (sSeq (sSet 2 (eCall m__law_keeping [] (eCons (eVar 1) (eCons (eVar 5) eNil))))
    (sSeq (sIf (eOr (eB (FL.e2 gNe (eB1 gRepr (eCons (eCall m__law_kept [] (eCons (eVar 1) (eCons (eVar 2) eNil))) eNil)) (eB1 gRepr (eCons (eVar 5) eNil)))) (eB (FL.e2 gNe (eCall m__law_caught [] (eCons (eVar 1) (eCons (eVar 5) eNil))) (FL.e2 gIx (eVar 4) (eVar 1))))) (sRet (eC (.bl false))) sNext)
    (sSeq (sIf (eOr (eB (FL.e2 gNe (eCall m__law_kinds_kept [] (eCons (eVar 2) eNil)) (eCall m__law_only [] (eCons (eTup (eCons (eVar 1) eNil)) (eCons (eC (.int 8)) eNil))))) (eB (FL.e2 gNe (eCall m__law_kinds [] (eCons (eVar 2) eNil)) (FL.e2 gAdd (FL.e2 gMulL (eNewL (eCons (eC (.bl false)) eNil)) (eC (.int 13))) (eLst (eCons (FL.e2 gLt (eVar 1) (eC (.int 3))) eNil)))))) (sRet (eC (.bl false))) sNext)
    (sIf (eB (FL.e2 gNe (eCall m__law_kinds_of_python [] (eCons (eVar 2) eNil)) (eCall m__law_only [] (eCons (FL.e2 gIx (eVar 3) (eVar 1)) (eCons (eC (.int 7)) eNil))))) (sRet (eC (.bl false))) sNext)))))
theorem turn2 {n k : Nat} {M0 M : MH} {j : Int} {d2 d5 : Option D} (s : St n k M) (g : Gr n M0 M) (hk : k + 200 < 2 ^ 40) (j0 : 0 ≤ j) (j1 : j < 8) :
    ∃ d2' d5' M', body2 (rgS n (some (.int j)) d2 (some (.lst pysL)) (some (.lst wordsL)) d5) M = .nx (rgS n (some (.int j)) d2' (some (.lst pysL)) (some (.lst wordsL)) d5') M' ∧ St n (k + 30) M' ∧ Gr n M0 M' := by
  obtain ⟨w, M1, e1, pw, s1, f1⟩ := value_run s (by omega) j0 j1
  obtain ⟨nm, f, word, ks, K⟩ := kept_of j0 j1
  have e2 := K.make w M1
  have s2 : St n (k + 30) (M1 ++ [.exc nm [(f, w)]]) := s1.add (below_one pw.p)
  have g2 : Gr n M0 (M1 ++ [.exc nm [(f, w)]]) := (g.fr f1).add
  have hp : (M1 ++ [.exc nm [(f, w)]])[M1.length]? = some (MO.exc nm [(f, w)]) := List.getElem?_concat_length
  generalize M1 ++ [.exc nm [(f, w)]] = M2 at e2 s2 g2 hp
  have s3 : St n (k + 30) (M2 ++ [.lst [.bl false]]) := s2.add rfl
  have g3 : Gr n M0 (M2 ++ [.lst [.bl false]]) := g2.add
  have hp3 : (M2 ++ [.lst [.bl false]])[M1.length]? = some (MO.exc nm [(f, w)]) := by
    rw [List.getElem?_append_left (List.getElem?_eq_some_iff.mp hp).1, hp]
  have hq3 : (M2 ++ [.lst [.bl false]])[M2.length]? = some (MO.lst [.bl false]) := List.getElem?_concat_length
  have en : gNewL [.bl false] M2 = .ok (.ob M2.length) (M2 ++ [.lst [.bl false]]) := gNewL_ok (by decide)
  have em := gMulL_one (k := 13) hq3 (by decide) (by decide)
  generalize hM3 : M2 ++ [.lst [.bl false]] = M3 at s3 g3 hp3 hq3 en em
  have em' : gMulL (.ob M2.length) (.int 13) M3 = .ok (.lst ((List.replicate 13 false).map D.bl)) M3 := em
  have ad : gAdd (.lst ((List.replicate 13 false).map D.bl)) (.lst [.bl (decide (j < 3))]) M3 = .ok (boolsD (List.replicate 13 false ++ [decide (j < 3)])) M3 := by
    rw [add_small (by simp)]
    unfold boolsD
    rw [List.map_append]
    rfl
  have b1 := K.kept w M2 M1.length pw.p s2.clean hp
  have b2 := K.caught w M2 pw.p s2.clean (K.raise w M2 pw.p s2.clean)
  have b3 : gRepr [w] M2 = .ok (.str (shownD w)) M2 := repr_plain pw.p (Nat.le_trans pw.t (by decide)) (Nat.le_trans pw.d (by decide))
  have b4 : gIx (.lst wordsL) (.int j) M2 = .ok (.str word) M2 := gIx_lst K.word
  have b5 : gIx (.lst pysL) (.int j) M3 = .ok (.tup (ks.map D.int)) M3 := gIx_lst K.py
  have a1 := kindsB_run hp K.look s2.clean
  have a2 : m__law_only [.tup [.int j], .int 8] M2 = .ok (boolsD ((List.range 8).map fun (i : Nat) => [j].contains (i : Int))) M2 := only_run (ks := [j]) (m := 8) s2.clean (by decide) (by decide)
  have a3 := kinds_run hp K.look s2.clean
  have a4 := kindsC_run hp3 K.look s3.clean
  have a5 : m__law_only [.tup (ks.map D.int), .int 7] M3 = .ok (boolsD ((List.range 7).map fun (i : Nat) => ks.contains (i : Int))) M3 := only_run (ks := ks) (m := 7) s3.clean (by decide) (by decide)
  have n1 := ne_bools (M := M2) K.kB (by simp)
  have n2 := ne_bools (M := M3) K.kA (by simp)
  have n3 := ne_bools (M := M3) K.kC (by simp)
  refine ⟨some (.ob M1.length), some w, M3, ?_, s3, g3⟩
  generalize kindsA.map (lk nm).contains = A at a3 n2
  generalize kindsB.map (lk nm).contains = B at a1 n1
  generalize kindsC.map (lk nm).contains = C at a4 n3
  generalize ((List.range 8).map fun (i : Nat) => [j].contains (i : Int)) = B' at a2 n1
  generalize ((List.range 7).map fun (i : Nat) => ks.contains (i : Int)) = C' at a5 n3
  generalize (List.replicate 13 false ++ [decide (j < 3)]) = A' at ad n2
  generalize (List.replicate 13 false).map D.bl = R at em' ad
  generalize wordsL = W at b4 ⊢
  generalize pysL = Y at b5 ⊢
  generalize ks.map D.int = T at b5 a5
  simp [hM3, e1, e2, b1, b2, b3, b4, b5, a1, a2, n1, a3, en, em', ad, n2, a4, a5, n3, lst_small]
end Law

namespace Law
open PySem L2 FL
theorem loop2 {n : Nat} {M0 : MH} : ∀ (its : List D) (k : Nat) (M : MH) (d1 d2 d5 : Option D), St n k M → Gr n M0 M → k + 100 * its.length < 2 ^ 39 → (∀ w ∈ its, ∃ j : Int, w = .int j ∧ 0 ≤ j ∧ j < 8) →
    ∃ d1' d2' d5' M', forD (tgName 1) body2 its (rgS n d1 d2 (some (.lst pysL)) (some (.lst wordsL)) d5) M = .nx (rgS n d1' d2' (some (.lst pysL)) (some (.lst wordsL)) d5') M' ∧ St n (k + 100 * its.length) M' ∧ Gr n M0 M'
  | [], k, M, d1, d2, d5, s, g, _, _ => ⟨d1, d2, d5, M, rfl, s, g⟩
  | w :: its, k, M, d1, d2, d5, s, g, hk, hj => by
    rw [List.length_cons] at hk
    obtain ⟨j, rfl, j0, j1⟩ := hj w (by simp)
    obtain ⟨d2', d5', M1, e1, s1, g1⟩ := turn2 (d2 := d2) (d5 := d5) s g (by omega) j0 j1
    obtain ⟨d1', d2'', d5'', M2, e2, s2, g2⟩ := loop2 its _ M1 (some (.int j)) d2' d5' s1 g1 (by omega) (fun w hw => hj w (by simp [hw]))
    refine ⟨d1', d2'', d5'', M2, ?_, s2.le (by rw [List.length_cons]; omega), g2⟩
    rw [← e2]
    unfold forD
    have : tgName 1 (.int j) (rgS n d1 d2 (some (.lst pysL)) (some (.lst wordsL)) d5) = some (rgS n (some (.int j)) d2 (some (.lst pysL)) (some (.lst wordsL)) d5) := rfl
    rw [this]
    dsimp only
    rw [e1]
    cases its <;> rfl
theorem rg_in {m : Nat} : ∀ w ∈ rangeD 0 m, ∃ j : Int, w = .int j ∧ 0 ≤ j ∧ j < (m : Int) := by
  intro w hw
  obtain ⟨i, hi, rfl⟩ := List.mem_map.mp hw
  rw [List.mem_range] at hi
  exact ⟨_, rfl, by omega, by omega⟩
theorem right_run {n k : Nat} {M : MH} (s : St n k M) (hk : k < 2 ^ 38) : ∃ M', m__law_right [.ob n] M = .ok (.bl true) M' ∧ Clean M' := by
  obtain ⟨x1, x2, M1, e1, s1, g1⟩ := loop1 (M0 := M) (d3 := none) (d4 := none) (d5 := none) (rangeD 0 14) k M none none s Gr.refl (by
    have : (rangeD 0 14).length = 14 := rfl
    omega) (rg_in (m := 14))
  have l14 : (rangeD 0 14).length = 14 := rfl
  have l8 : (rangeD 0 8).length = 8 := rfl
  obtain ⟨y1, y2, y5, M2, e2, s2, g2⟩ := loop2 (M0 := M) (rangeD 0 8) _ M1 x1 x2 none s1 g1 (by omega) (rg_in (m := 8))
  obtain ⟨hall, s3⟩ := cut_clean s.clean s2 g2 s.lt
  refine ⟨_, gcD_cut ?_ rfl hall, s3.clean⟩
  have rm : ∀ (m : Int) (M : MH), 0 ≤ m → m ≤ 1000 → gRange1 [.int m] M = .ok (rangeD 0 m.toNat) M := fun m M h0 h1 => if_pos (by omega)
  have r14 : gRange1 [.int 14] M = .ok (rangeD 0 14) M := rm 14 M (by decide) (by decide)
  have r8 : gRange1 [.int 8] M1 = .ok (rangeD 0 8) M1 := rm 8 M1 (by decide) (by decide)
  unfold fnD b__law_right
  refine fin_step (rgS n x1 x2 none none none) M1 ?_ ?_
  · rw [← e1]
    unfold sFor eRange1
    simp [r14, startD]
  refine fin_step (rgS n x1 x2 (some (.lst pysL)) none none) M1 ?_ ?_
  · simp [lst_small]
  refine fin_step (rgS n x1 x2 (some (.lst pysL)) (some (.lst wordsL)) none) M1 ?_ ?_
  · simp [lst_small]
  refine fin_step (rgS n y1 y2 (some (.lst pysL)) (some (.lst wordsL)) y5) M2 ?_ ?_
  · rw [← e2]
    unfold sFor eRange1
    simp [r8]
  · simp
theorem gAbs_int {a : Int} {M : MH} : gAbs [.int a] M = .ok (.int (if a < 0 then -a else a)) M := rfl
theorem pow600 : ∃ B : Int, 0 < B ∧ ∀ M : MH, gPow (.int 1000000000000000000000000000000000000000000000000000000000000) (.int 10) M = .ok (.int B) M :=
  ⟨1000000000000000000000000000000000000000000000000000000000000 ^ (10 : Int).toNat, Int.pow_pos (by decide), fun M => gPow_int (by decide +kernel)⟩
theorem dice_run {ns : List Int} {j : Int} {M : MH} (h0 : 0 ≤ j) (h1 : j < 8) : ∃ a b : Int, 0 ≤ b ∧ b < 2 ^ 60 ∧ m__law_dice [.lst (ns.map D.int), .int j] M = .ok (.ob M.length) (M ++ [.lst [.int a, .int b, .int 0]]) := by
  have p60 : ∀ {M : MH}, gPow (.int 10) (.int 60) M = .ok (.int (10 ^ 60)) M := gPow_int (by decide +kernel)
  obtain ⟨B, hB, p600⟩ := pow600
  have p18 : ∀ {M : MH}, gPow (.int 10) (.int 18) M = .ok (.int (10 ^ 18)) M := gPow_int (by decide +kernel)
  have lj := log2_le h0 (k := 3) (by omega)
  have m1 : ∀ {M : MH}, gMul (.int 29) (.int j) M = .ok (.int (29 * j)) M := gMul_int (by
    have : (29 : Int).natAbs.log2 = 4 := by decide +kernel
    omega)
  have m2 : ∀ {M : MH}, gMul (.int 211) (.int j) M = .ok (.int (211 * j)) M := gMul_int (by
    have : (211 : Int).natAbs.log2 = 7 := by decide +kernel
    omega)
  obtain ⟨cell, ec⟩ : ∃ cell : Int, ∀ M : MH, (if j < (ns.length : Int) then (gIx (.lst (ns.map D.int)) (.int j) M) else .ok (.int (29 * j + 7)) M) = Res.ok (.int cell) M := by
    by_cases hj : j < (ns.length : Int)
    · obtain ⟨w, hw, hm⟩ := atI_some (ws := ns.map D.int) h0 (by rw [List.length_map]; exact hj)
      obtain ⟨i, _, rfl⟩ := List.mem_map.mp hm
      exact ⟨i, fun M => by rw [if_pos hj, gIx_lst hw]⟩
    · exact ⟨29 * j + 7, fun M => by rw [if_neg hj]⟩
  generalize hw : (if cell < 0 then -cell else cell) % B = whole
  have q1 : (0 : Int) < 2305843009213693951 := by decide
  have q2 : (0 : Int) < 18014398509481951 := by decide
  generalize hx : whole % 2305843009213693951 = x
  have x0 : 0 ≤ x := by rw [← hx]; exact Int.emod_nonneg _ (by decide)
  have x1 : x < 2 ^ 70 := by
    have : x < 2305843009213693951 := by rw [← hx]; exact Int.emod_lt_of_pos _ q1
    omega
  have lx := log2_le x0 x1
  have m3 : ∀ {M : MH}, gMul (.int x) (.int 1442695040888963407) M = .ok (.int (x * 1442695040888963407)) M := gMul_int (by
    have : (1442695040888963407 : Int).natAbs.log2 = 60 := by decide +kernel
    omega)
  have m4 : ∀ {M : MH}, gMul (.int 17) (.int (if cell < 0 then 1 else 0)) M = .ok (.int (17 * (if cell < 0 then 1 else 0))) M := gMul_int (by
    split <;> decide +kernel)
  have hmod : ∀ {M : MH}, gMod (.int (if cell < 0 then -cell else cell)) (.int B) M = .ok (.int whole) M := by
    intro M
    rw [gMod_int hB, hw]
  generalize hs : x * 1442695040888963407 + 211 * j + 17 * (if cell < 0 then 1 else 0) + 3 = seed
  have hb : seed % 18014398509481951 < 18014398509481951 := Int.emod_lt_of_pos _ q2
  refine ⟨if whole - 1000000000000000000 > 0 then whole - 1000000000000000000 else 0, seed % 18014398509481951, Int.emod_nonneg _ (by decide), by omega, ?_⟩
  have hc : ∀ M : MH, (eIf (eB (e2 gLt (eVar 1) (eB1 gLen (eCons (eVar 0) eNil)))) (e2 gIx (eVar 0) (eVar 1)) (e2 gAdd (e2 gMul (eC (.int 29)) (eVar 1)) (eC (.int 7)))) [some (.lst (ns.map D.int)), some (.int j), none, none, none] M = .ok (.int cell) M := by
    intro M
    have e := ec M
    simp [m1]
    by_cases hj : j < (ns.length : Int)
    · rw [if_pos hj] at e ⊢
      rw [e]
      rfl
    · rw [if_neg hj] at e ⊢
      exact e
  simp [m__law_dice, fnD, b__law_dice, startD, -run_eIf, hc, gAbs_int, p60, p600, hmod, gMod_int q1, hx, m3, m2, m4, hs, p18, gMod_int q2]
noncomputable abbrev lBody : Es := sIf (eNot (eB (eCall m__law_right [] (eCons (eCall m__law_dice [] (eCons (eVar 0) (eCons (eVar 1) eNil))) eNil)))) (sRet (eC (.bl false))) sNext
theorem spots_run {ns : List Int} : ∀ (its : List D) (M : MH) (d1 : Option D), Clean M → (∀ w ∈ its, ∃ j : Int, w = .int j ∧ 0 ≤ j ∧ j < 8) →
    ∃ d1' M', forD (tgName 1) lBody its [some (.lst (ns.map D.int)), d1] M = .nx [some (.lst (ns.map D.int)), d1'] M' ∧ Clean M'
  | [], M, d1, hc, _ => ⟨d1, M, rfl, hc⟩
  | w :: its, M, d1, hc, hj => by
    obtain ⟨j, rfl, j0, j1⟩ := hj w (by simp)
    obtain ⟨a, b, b0, b1, ed⟩ := dice_run (ns := ns) (M := M) j0 j1
    have s : St M.length 0 (M ++ [.lst [.int a, .int b, .int 0]]) := ⟨clean_add hc rfl, a, b, 0, List.getElem?_concat_length, b0, by omega, by omega, by omega⟩
    obtain ⟨M2, e2, h2⟩ := right_run s (by omega)
    obtain ⟨d1', M3, e3, h3⟩ := spots_run (ns := ns) its M2 (some (.int j)) h2 (fun w hw => hj w (by simp [hw]))
    refine ⟨d1', M3, ?_, h3⟩
    have eb : lBody [some (.lst (ns.map D.int)), some (.int j)] M = .nx [some (.lst (ns.map D.int)), some (.int j)] M2 := by
      simp [ed, e2]
    rw [← e3]
    unfold forD
    have : tgName 1 (.int j) [some (.lst (ns.map D.int)), d1] = some [some (.lst (ns.map D.int)), some (.int j)] := rfl
    rw [this]
    dsimp only
    rw [eb]
    cases its <;> rfl
theorem law_true : LawTrue m_law 63 := by
  intro ns hns
  obtain ⟨m, hm0, hm1, em⟩ : ∃ m : Int, 0 ≤ m ∧ m ≤ 8 ∧ (if (if (ns.length : Int) < 8 then (ns.length : Int) else 8) > 1 then (if (ns.length : Int) < 8 then (ns.length : Int) else 8) else 1) = m := ⟨_, by split <;> (try split) <;> omega, by split <;> (try split) <;> omega, rfl⟩
  obtain ⟨d1, M, eL, hc⟩ := spots_run (ns := ns) (rangeD 0 m.toNat) [] none rfl (by
    intro w hw
    obtain ⟨j, rfl, h0, h1⟩ := rg_in w hw
    exact ⟨j, rfl, h0, by omega⟩)
  have hr : ∀ M : MH, gRange1 [.int m] M = .ok (rangeD 0 m.toNat) M := fun M => if_pos (by omega)
  refine ⟨M.take 0, gcD_cut ?_ rfl rfl⟩
  unfold fnD b_law
  refine fin_step [some (.lst (ns.map D.int)), d1] M ?_ ?_
  · simp [sFor, startD, eRange1, em, hr, eL]
  · simp
end Law

namespace Law
open PySem PySem.Spec PyProof.Rows L2 FL
theorem all_mk {P : Program} {w : World} {K : Frg} {h : Heap} {mg : Str → Option Value} {fa f0 f1 f2 f3 f4 f5 f6 f7 f8 f9 f10 f11 f12 f13 f14 f15 : Addr} (X : K.In h) (G : h.Ns mainGlobals mg) (hfa : mg "law" = some (.ref fa))
    {od0 an0 od1 an1 od2 an2 od3 an3 od4 an4 od5 an5 od6 an6 od7 an7 od8 an8 od9 an9 od10 an10 od11 an11 od12 an12 od13 an13 od14 an14 od15 an15 : Option Addr} {sl0 sl1 sl2 sl3 sl4 sl5 sl6 sl7 sl8 sl9 sl10 sl11 sl12 sl13 sl14 sl15 : Array (Option Value)} {oc0 kV0 dc0 pm0 cd0 ct0 oc1 kV1 dc1 pm1 cd1 ct1 oc2 kV2 dc2 pm2 cd2 ct2 oc3 kV3 dc3 pm3 cd3 ct3 oc4 kV4 dc4 pm4 cd4 ct4 oc5 kV5 dc5 pm5 cd5 ct5 oc6 kV6 dc6 pm6 cd6 ct6 oc7 kV7 dc7 pm7 cd7 ct7 oc8 kV8 dc8 pm8 cd8 ct8 oc9 kV9 dc9 pm9 cd9 ct9 oc10 kV10 dc10 pm10 cd10 ct10 oc11 kV11 dc11 pm11 cd11 ct11 oc12 kV12 dc12 pm12 cd12 ct12 oc13 kV13 dc13 pm13 cd13 ct13 oc14 kV14 dc14 pm14 cd14 ct14 oc15 kV15 dc15 pm15 cd15 ct15 : Value}
    (a0 : PySem.W.nsIn K mainGlobals "_law_dice" = some (some (.ref f0))) (l0 : K.lookup f0 = some ⟨oc0, od0, .func (PySem.W.fnOf "_law_dice" "_law_dice" (defArgs s__law_dice) (defBody s__law_dice) (defScope s__law_dice) .none kV0 dc0 pm0 an0 cd0 ct0), sl0⟩) (c0 : PySem.W.codeIn K cd0 "_law_dice" = true) (k0 : PySem.W.keepIn K (.ref f0) = true)
    (a1 : PySem.W.nsIn K mainGlobals "_law_roll" = some (some (.ref f1))) (l1 : K.lookup f1 = some ⟨oc1, od1, .func (PySem.W.fnOf "_law_roll" "_law_roll" (defArgs s__law_roll) (defBody s__law_roll) (defScope s__law_roll) .none kV1 dc1 pm1 an1 cd1 ct1), sl1⟩) (c1 : PySem.W.codeIn K cd1 "_law_roll" = true) (k1 : PySem.W.keepIn K (.ref f1) = true)
    (a2 : PySem.W.nsIn K mainGlobals "_law_pick" = some (some (.ref f2))) (l2 : K.lookup f2 = some ⟨oc2, od2, .func (PySem.W.fnOf "_law_pick" "_law_pick" (defArgs s__law_pick) (defBody s__law_pick) (defScope s__law_pick) .none kV2 dc2 pm2 an2 cd2 ct2), sl2⟩) (c2 : PySem.W.codeIn K cd2 "_law_pick" = true) (k2 : PySem.W.keepIn K (.ref f2) = true)
    (a3 : PySem.W.nsIn K mainGlobals "_law_with_message" = some (some (.ref f3))) (l3 : K.lookup f3 = some ⟨oc3, od3, .func (PySem.W.fnOf "_law_with_message" "_law_with_message" (defArgs s__law_with_message) (defBody s__law_with_message) (defScope s__law_with_message) .none kV3 dc3 pm3 an3 cd3 ct3), sl3⟩) (c3 : PySem.W.codeIn K cd3 "_law_with_message" = true) (k3 : PySem.W.keepIn K (.ref f3) = true)
    (a4 : PySem.W.nsIn K mainGlobals "_law_keeping" = some (some (.ref f4))) (l4 : K.lookup f4 = some ⟨oc4, od4, .func (PySem.W.fnOf "_law_keeping" "_law_keeping" (defArgs s__law_keeping) (defBody s__law_keeping) (defScope s__law_keeping) .none kV4 dc4 pm4 an4 cd4 ct4), sl4⟩) (c4 : PySem.W.codeIn K cd4 "_law_keeping" = true) (k4 : PySem.W.keepIn K (.ref f4) = true)
    (a5 : PySem.W.nsIn K mainGlobals "_law_kept" = some (some (.ref f5))) (l5 : K.lookup f5 = some ⟨oc5, od5, .func (PySem.W.fnOf "_law_kept" "_law_kept" (defArgs s__law_kept) (defBody s__law_kept) (defScope s__law_kept) .none kV5 dc5 pm5 an5 cd5 ct5), sl5⟩) (c5 : PySem.W.codeIn K cd5 "_law_kept" = true) (k5 : PySem.W.keepIn K (.ref f5) = true)
    (a6 : PySem.W.nsIn K mainGlobals "_law_kinds" = some (some (.ref f6))) (l6 : K.lookup f6 = some ⟨oc6, od6, .func (PySem.W.fnOf "_law_kinds" "_law_kinds" (defArgs s__law_kinds) (defBody s__law_kinds) (defScope s__law_kinds) .none kV6 dc6 pm6 an6 cd6 ct6), sl6⟩) (c6 : PySem.W.codeIn K cd6 "_law_kinds" = true) (k6 : PySem.W.keepIn K (.ref f6) = true)
    (a7 : PySem.W.nsIn K mainGlobals "_law_kinds_kept" = some (some (.ref f7))) (l7 : K.lookup f7 = some ⟨oc7, od7, .func (PySem.W.fnOf "_law_kinds_kept" "_law_kinds_kept" (defArgs s__law_kinds_kept) (defBody s__law_kinds_kept) (defScope s__law_kinds_kept) .none kV7 dc7 pm7 an7 cd7 ct7), sl7⟩) (c7 : PySem.W.codeIn K cd7 "_law_kinds_kept" = true) (k7 : PySem.W.keepIn K (.ref f7) = true)
    (a8 : PySem.W.nsIn K mainGlobals "_law_kinds_of_python" = some (some (.ref f8))) (l8 : K.lookup f8 = some ⟨oc8, od8, .func (PySem.W.fnOf "_law_kinds_of_python" "_law_kinds_of_python" (defArgs s__law_kinds_of_python) (defBody s__law_kinds_of_python) (defScope s__law_kinds_of_python) .none kV8 dc8 pm8 an8 cd8 ct8), sl8⟩) (c8 : PySem.W.codeIn K cd8 "_law_kinds_of_python" = true) (k8 : PySem.W.keepIn K (.ref f8) = true)
    (a9 : PySem.W.nsIn K mainGlobals "_law_only" = some (some (.ref f9))) (l9 : K.lookup f9 = some ⟨oc9, od9, .func (PySem.W.fnOf "_law_only" "_law_only" (defArgs s__law_only) (defBody s__law_only) (defScope s__law_only) .none kV9 dc9 pm9 an9 cd9 ct9), sl9⟩) (c9 : PySem.W.codeIn K cd9 "_law_only" = true) (k9 : PySem.W.keepIn K (.ref f9) = true)
    (a10 : PySem.W.nsIn K mainGlobals "_law_raised" = some (some (.ref f10))) (l10 : K.lookup f10 = some ⟨oc10, od10, .func (PySem.W.fnOf "_law_raised" "_law_raised" (defArgs s__law_raised) (defBody s__law_raised) (defScope s__law_raised) .none kV10 dc10 pm10 an10 cd10 ct10), sl10⟩) (c10 : PySem.W.codeIn K cd10 "_law_raised" = true) (k10 : PySem.W.keepIn K (.ref f10) = true)
    (a11 : PySem.W.nsIn K mainGlobals "_law_caught" = some (some (.ref f11))) (l11 : K.lookup f11 = some ⟨oc11, od11, .func (PySem.W.fnOf "_law_caught" "_law_caught" (defArgs s__law_caught) (defBody s__law_caught) (defScope s__law_caught) .none kV11 dc11 pm11 an11 cd11 ct11), sl11⟩) (c11 : PySem.W.codeIn K cd11 "_law_caught" = true) (k11 : PySem.W.keepIn K (.ref f11) = true)
    (a12 : PySem.W.nsIn K mainGlobals "_law_word" = some (some (.ref f12))) (l12 : K.lookup f12 = some ⟨oc12, od12, .func (PySem.W.fnOf "_law_word" "_law_word" (defArgs s__law_word) (defBody s__law_word) (defScope s__law_word) .none kV12 dc12 pm12 an12 cd12 ct12), sl12⟩) (c12 : PySem.W.codeIn K cd12 "_law_word" = true) (k12 : PySem.W.keepIn K (.ref f12) = true)
    (a13 : PySem.W.nsIn K mainGlobals "_law_value" = some (some (.ref f13))) (l13 : K.lookup f13 = some ⟨oc13, od13, .func (PySem.W.fnOf "_law_value" "_law_value" (defArgs s__law_value) (defBody s__law_value) (defScope s__law_value) .none kV13 dc13 pm13 an13 cd13 ct13), sl13⟩) (c13 : PySem.W.codeIn K cd13 "_law_value" = true) (k13 : PySem.W.keepIn K (.ref f13) = true)
    (a14 : PySem.W.nsIn K mainGlobals "_law_right" = some (some (.ref f14))) (l14 : K.lookup f14 = some ⟨oc14, od14, .func (PySem.W.fnOf "_law_right" "_law_right" (defArgs s__law_right) (defBody s__law_right) (defScope s__law_right) .none kV14 dc14 pm14 an14 cd14 ct14), sl14⟩) (c14 : PySem.W.codeIn K cd14 "_law_right" = true) (k14 : PySem.W.keepIn K (.ref f14) = true)
    (a15 : PySem.W.nsIn K mainGlobals "law" = some (some (.ref f15))) (l15 : K.lookup f15 = some ⟨oc15, od15, .func (PySem.W.fnOf "law" "law" (defArgs s_law) (defBody s_law) (defScope s_law) .none kV15 dc15 pm15 an15 cd15 ct15), sl15⟩) (c15 : PySem.W.codeIn K cd15 "law" = true) (k15 : PySem.W.keepIn K (.ref f15) = true)
    (z0 : PySem.W.nsIn K mainGlobals "ArithmeticError" = some none)
    (z1 : PySem.W.nsIn K mainGlobals "IndexError" = some none)
    (z2 : PySem.W.nsIn K mainGlobals "KeyError" = some none)
    (z3 : PySem.W.nsIn K mainGlobals "LookupError" = some none)
    (z4 : PySem.W.nsIn K mainGlobals "OverflowError" = some none)
    (z5 : PySem.W.nsIn K mainGlobals "RuntimeError" = some none)
    (z6 : PySem.W.nsIn K mainGlobals "ValueError" = some none)
    (z7 : PySem.W.nsIn K mainGlobals "abs" = some none)
    (z8 : PySem.W.nsIn K mainGlobals "int" = some none)
    (z9 : PySem.W.nsIn K mainGlobals "isinstance" = some none)
    (z10 : PySem.W.nsIn K mainGlobals "len" = some none)
    (z11 : PySem.W.nsIn K mainGlobals "max" = some none)
    (z12 : PySem.W.nsIn K mainGlobals "min" = some none)
    (z13 : PySem.W.nsIn K mainGlobals "range" = some none)
    (z14 : PySem.W.nsIn K mainGlobals "repr" = some none)
    (z15 : PySem.W.nsIn K mainGlobals "super" = some none)
    {q0 q1 q2 q3 q4 q5 q6 q7 q8 q9 q10 q11 q12 q13 q14 q15 q16 q17 q18 q19 q20 q21 : Addr}
    (xcn : PySem.W.specialIn K (.builtin "object.__class__") "__get__" = some (some (.builtin "getset_descriptor.__get__"))) (xct : PySem.W.takesIn K (.builtin "object.__class__") = some true)
    (xn0 : PySem.W.nsIn K mainGlobals "ShelfError" = some (some (.ref q0))) (xa0 : PySem.W.findIn K (.ref q0) "__getattribute__" = some (some (.builtin "BaseException.__getattribute__"))) (xb0 : PySem.W.findIn K (.ref q0) "__getattr__" = some none)
    (xc0 : PySem.W.subIn K (.ref q0) (.type "BaseException") = some true) (xd0 : PySem.W.hasDictIn K q0 = true) (xe0 : PySem.W.findIn K (.ref q0) "__class__" = some (some (.builtin "object.__class__"))) (xf0 : PySem.W.mroIn K q0 (.type "object") = some true)
    (xk0 : PySem.W.keepIn K (.ref q0) = true) (xx0 : PySem.W.excIn K q0 [.type "ValueError", .type "Exception", .type "BaseException", .type "object"] "ValueError.__new__" = true)
    (xn1 : PySem.W.nsIn K mainGlobals "InvalidTable" = some (some (.ref q1))) (xa1 : PySem.W.findIn K (.ref q1) "__getattribute__" = some (some (.builtin "BaseException.__getattribute__"))) (xb1 : PySem.W.findIn K (.ref q1) "__getattr__" = some none)
    (xc1 : PySem.W.subIn K (.ref q1) (.type "BaseException") = some true) (xd1 : PySem.W.hasDictIn K q1 = true) (xe1 : PySem.W.findIn K (.ref q1) "__class__" = some (some (.builtin "object.__class__"))) (xf1 : PySem.W.mroIn K q1 (.type "object") = some true)
    (xk1 : PySem.W.keepIn K (.ref q1) = true) (xx1 : PySem.W.excIn K q1 [.type "ValueError", .type "Exception", .type "BaseException", .type "object"] "ValueError.__new__" = true)
    (xn2 : PySem.W.nsIn K mainGlobals "InvalidRow" = some (some (.ref q2))) (xa2 : PySem.W.findIn K (.ref q2) "__getattribute__" = some (some (.builtin "BaseException.__getattribute__"))) (xb2 : PySem.W.findIn K (.ref q2) "__getattr__" = some none)
    (xc2 : PySem.W.subIn K (.ref q2) (.type "BaseException") = some true) (xd2 : PySem.W.hasDictIn K q2 = true) (xe2 : PySem.W.findIn K (.ref q2) "__class__" = some (some (.builtin "object.__class__"))) (xf2 : PySem.W.mroIn K q2 (.type "object") = some true)
    (xk2 : PySem.W.keepIn K (.ref q2) = true) (xx2 : PySem.W.excIn K q2 [.type "ValueError", .type "Exception", .type "BaseException", .type "object"] "ValueError.__new__" = true)
    (xn3 : PySem.W.nsIn K mainGlobals "InvalidBag" = some (some (.ref q3))) (xa3 : PySem.W.findIn K (.ref q3) "__getattribute__" = some (some (.builtin "BaseException.__getattribute__"))) (xb3 : PySem.W.findIn K (.ref q3) "__getattr__" = some none)
    (xc3 : PySem.W.subIn K (.ref q3) (.type "BaseException") = some true) (xd3 : PySem.W.hasDictIn K q3 = true) (xe3 : PySem.W.findIn K (.ref q3) "__class__" = some (some (.builtin "object.__class__"))) (xf3 : PySem.W.mroIn K q3 (.type "object") = some true)
    (xk3 : PySem.W.keepIn K (.ref q3) = true) (xx3 : PySem.W.excIn K q3 [.type "ValueError", .type "Exception", .type "BaseException", .type "object"] "ValueError.__new__" = true)
    (xn4 : PySem.W.nsIn K mainGlobals "InvalidQuery" = some (some (.ref q4))) (xa4 : PySem.W.findIn K (.ref q4) "__getattribute__" = some (some (.builtin "BaseException.__getattribute__"))) (xb4 : PySem.W.findIn K (.ref q4) "__getattr__" = some none)
    (xc4 : PySem.W.subIn K (.ref q4) (.type "BaseException") = some true) (xd4 : PySem.W.hasDictIn K q4 = true) (xe4 : PySem.W.findIn K (.ref q4) "__class__" = some (some (.builtin "object.__class__"))) (xf4 : PySem.W.mroIn K q4 (.type "object") = some true)
    (xk4 : PySem.W.keepIn K (.ref q4) = true) (xx4 : PySem.W.excIn K q4 [.type "ValueError", .type "Exception", .type "BaseException", .type "object"] "ValueError.__new__" = true)
    (xn5 : PySem.W.nsIn K mainGlobals "InvalidStore" = some (some (.ref q5))) (xa5 : PySem.W.findIn K (.ref q5) "__getattribute__" = some (some (.builtin "BaseException.__getattribute__"))) (xb5 : PySem.W.findIn K (.ref q5) "__getattr__" = some none)
    (xc5 : PySem.W.subIn K (.ref q5) (.type "BaseException") = some true) (xd5 : PySem.W.hasDictIn K q5 = true) (xe5 : PySem.W.findIn K (.ref q5) "__class__" = some (some (.builtin "object.__class__"))) (xf5 : PySem.W.mroIn K q5 (.type "object") = some true)
    (xk5 : PySem.W.keepIn K (.ref q5) = true) (xx5 : PySem.W.excIn K q5 [.type "ValueError", .type "Exception", .type "BaseException", .type "object"] "ValueError.__new__" = true)
    (xn6 : PySem.W.nsIn K mainGlobals "InvalidStep" = some (some (.ref q6))) (xa6 : PySem.W.findIn K (.ref q6) "__getattribute__" = some (some (.builtin "BaseException.__getattribute__"))) (xb6 : PySem.W.findIn K (.ref q6) "__getattr__" = some none)
    (xc6 : PySem.W.subIn K (.ref q6) (.type "BaseException") = some true) (xd6 : PySem.W.hasDictIn K q6 = true) (xe6 : PySem.W.findIn K (.ref q6) "__class__" = some (some (.builtin "object.__class__"))) (xf6 : PySem.W.mroIn K q6 (.type "object") = some true)
    (xk6 : PySem.W.keepIn K (.ref q6) = true) (xx6 : PySem.W.excIn K q6 [.type "ValueError", .type "Exception", .type "BaseException", .type "object"] "ValueError.__new__" = true)
    (xn7 : PySem.W.nsIn K mainGlobals "InvalidPlan" = some (some (.ref q7))) (xa7 : PySem.W.findIn K (.ref q7) "__getattribute__" = some (some (.builtin "BaseException.__getattribute__"))) (xb7 : PySem.W.findIn K (.ref q7) "__getattr__" = some none)
    (xc7 : PySem.W.subIn K (.ref q7) (.type "BaseException") = some true) (xd7 : PySem.W.hasDictIn K q7 = true) (xe7 : PySem.W.findIn K (.ref q7) "__class__" = some (some (.builtin "object.__class__"))) (xf7 : PySem.W.mroIn K q7 (.type "object") = some true)
    (xk7 : PySem.W.keepIn K (.ref q7) = true) (xx7 : PySem.W.excIn K q7 [.type "ValueError", .type "Exception", .type "BaseException", .type "object"] "ValueError.__new__" = true)
    (xn8 : PySem.W.nsIn K mainGlobals "InvalidTransition" = some (some (.ref q8))) (xa8 : PySem.W.findIn K (.ref q8) "__getattribute__" = some (some (.builtin "BaseException.__getattribute__"))) (xb8 : PySem.W.findIn K (.ref q8) "__getattr__" = some none)
    (xc8 : PySem.W.subIn K (.ref q8) (.type "BaseException") = some true) (xd8 : PySem.W.hasDictIn K q8 = true) (xe8 : PySem.W.findIn K (.ref q8) "__class__" = some (some (.builtin "object.__class__"))) (xf8 : PySem.W.mroIn K q8 (.type "object") = some true)
    (xk8 : PySem.W.keepIn K (.ref q8) = true) (xx8 : PySem.W.excIn K q8 [.type "ValueError", .type "Exception", .type "BaseException", .type "object"] "ValueError.__new__" = true)
    (xn9 : PySem.W.nsIn K mainGlobals "InvalidScheme" = some (some (.ref q9))) (xa9 : PySem.W.findIn K (.ref q9) "__getattribute__" = some (some (.builtin "BaseException.__getattribute__"))) (xb9 : PySem.W.findIn K (.ref q9) "__getattr__" = some none)
    (xc9 : PySem.W.subIn K (.ref q9) (.type "BaseException") = some true) (xd9 : PySem.W.hasDictIn K q9 = true) (xe9 : PySem.W.findIn K (.ref q9) "__class__" = some (some (.builtin "object.__class__"))) (xf9 : PySem.W.mroIn K q9 (.type "object") = some true)
    (xk9 : PySem.W.keepIn K (.ref q9) = true) (xx9 : PySem.W.excIn K q9 [.type "ValueError", .type "Exception", .type "BaseException", .type "object"] "ValueError.__new__" = true)
    (xn10 : PySem.W.nsIn K mainGlobals "InvalidEvent" = some (some (.ref q10))) (xa10 : PySem.W.findIn K (.ref q10) "__getattribute__" = some (some (.builtin "BaseException.__getattribute__"))) (xb10 : PySem.W.findIn K (.ref q10) "__getattr__" = some none)
    (xc10 : PySem.W.subIn K (.ref q10) (.type "BaseException") = some true) (xd10 : PySem.W.hasDictIn K q10 = true) (xe10 : PySem.W.findIn K (.ref q10) "__class__" = some (some (.builtin "object.__class__"))) (xf10 : PySem.W.mroIn K q10 (.type "object") = some true)
    (xk10 : PySem.W.keepIn K (.ref q10) = true) (xx10 : PySem.W.excIn K q10 [.type "ValueError", .type "Exception", .type "BaseException", .type "object"] "ValueError.__new__" = true)
    (xn11 : PySem.W.nsIn K mainGlobals "InvalidSnapshot" = some (some (.ref q11))) (xa11 : PySem.W.findIn K (.ref q11) "__getattribute__" = some (some (.builtin "BaseException.__getattribute__"))) (xb11 : PySem.W.findIn K (.ref q11) "__getattr__" = some none)
    (xc11 : PySem.W.subIn K (.ref q11) (.type "BaseException") = some true) (xd11 : PySem.W.hasDictIn K q11 = true) (xe11 : PySem.W.findIn K (.ref q11) "__class__" = some (some (.builtin "object.__class__"))) (xf11 : PySem.W.mroIn K q11 (.type "object") = some true)
    (xk11 : PySem.W.keepIn K (.ref q11) = true) (xx11 : PySem.W.excIn K q11 [.type "ValueError", .type "Exception", .type "BaseException", .type "object"] "ValueError.__new__" = true)
    (xn12 : PySem.W.nsIn K mainGlobals "InvalidTree" = some (some (.ref q12))) (xa12 : PySem.W.findIn K (.ref q12) "__getattribute__" = some (some (.builtin "BaseException.__getattribute__"))) (xb12 : PySem.W.findIn K (.ref q12) "__getattr__" = some none)
    (xc12 : PySem.W.subIn K (.ref q12) (.type "BaseException") = some true) (xd12 : PySem.W.hasDictIn K q12 = true) (xe12 : PySem.W.findIn K (.ref q12) "__class__" = some (some (.builtin "object.__class__"))) (xf12 : PySem.W.mroIn K q12 (.type "object") = some true)
    (xk12 : PySem.W.keepIn K (.ref q12) = true) (xx12 : PySem.W.excIn K q12 [.type "ValueError", .type "Exception", .type "BaseException", .type "object"] "ValueError.__new__" = true)
    (xn13 : PySem.W.nsIn K mainGlobals "InvalidOperation" = some (some (.ref q13))) (xa13 : PySem.W.findIn K (.ref q13) "__getattribute__" = some (some (.builtin "BaseException.__getattribute__"))) (xb13 : PySem.W.findIn K (.ref q13) "__getattr__" = some none)
    (xc13 : PySem.W.subIn K (.ref q13) (.type "BaseException") = some true) (xd13 : PySem.W.hasDictIn K q13 = true) (xe13 : PySem.W.findIn K (.ref q13) "__class__" = some (some (.builtin "object.__class__"))) (xf13 : PySem.W.mroIn K q13 (.type "object") = some true)
    (xk13 : PySem.W.keepIn K (.ref q13) = true) (xx13 : PySem.W.excIn K q13 [.type "ValueError", .type "Exception", .type "BaseException", .type "object"] "ValueError.__new__" = true)
    (xn14 : PySem.W.nsIn K mainGlobals "ParseError" = some (some (.ref q14))) (xa14 : PySem.W.findIn K (.ref q14) "__getattribute__" = some (some (.builtin "BaseException.__getattribute__"))) (xb14 : PySem.W.findIn K (.ref q14) "__getattr__" = some none)
    (xc14 : PySem.W.subIn K (.ref q14) (.type "BaseException") = some true) (xd14 : PySem.W.hasDictIn K q14 = true) (xe14 : PySem.W.findIn K (.ref q14) "__class__" = some (some (.builtin "object.__class__"))) (xf14 : PySem.W.mroIn K q14 (.type "object") = some true)
    (xs14 : FX.Sup P K q14 "line")
    (xo14 : PySem.W.findIn K (.ref q14) "line" = some none)
    (xn15 : PySem.W.nsIn K mainGlobals "Stopped" = some (some (.ref q15))) (xa15 : PySem.W.findIn K (.ref q15) "__getattribute__" = some (some (.builtin "BaseException.__getattribute__"))) (xb15 : PySem.W.findIn K (.ref q15) "__getattr__" = some none)
    (xc15 : PySem.W.subIn K (.ref q15) (.type "BaseException") = some true) (xd15 : PySem.W.hasDictIn K q15 = true) (xe15 : PySem.W.findIn K (.ref q15) "__class__" = some (some (.builtin "object.__class__"))) (xf15 : PySem.W.mroIn K q15 (.type "object") = some true)
    (xs15 : FX.Sup P K q15 "index")
    (xo15 : PySem.W.findIn K (.ref q15) "index" = some none)
    (xn16 : PySem.W.nsIn K mainGlobals "Wrong" = some (some (.ref q16))) (xa16 : PySem.W.findIn K (.ref q16) "__getattribute__" = some (some (.builtin "BaseException.__getattribute__"))) (xb16 : PySem.W.findIn K (.ref q16) "__getattr__" = some none)
    (xc16 : PySem.W.subIn K (.ref q16) (.type "BaseException") = some true) (xd16 : PySem.W.hasDictIn K q16 = true) (xe16 : PySem.W.findIn K (.ref q16) "__class__" = some (some (.builtin "object.__class__"))) (xf16 : PySem.W.mroIn K q16 (.type "object") = some true)
    (xs16 : FX.Sup P K q16 "certificate")
    (xo16 : PySem.W.findIn K (.ref q16) "certificate" = some none)
    (xn17 : PySem.W.nsIn K mainGlobals "UnknownName" = some (some (.ref q17))) (xa17 : PySem.W.findIn K (.ref q17) "__getattribute__" = some (some (.builtin "BaseException.__getattribute__"))) (xb17 : PySem.W.findIn K (.ref q17) "__getattr__" = some none)
    (xc17 : PySem.W.subIn K (.ref q17) (.type "BaseException") = some true) (xd17 : PySem.W.hasDictIn K q17 = true) (xe17 : PySem.W.findIn K (.ref q17) "__class__" = some (some (.builtin "object.__class__"))) (xf17 : PySem.W.mroIn K q17 (.type "object") = some true)
    (xs17 : FX.Sup P K q17 "name")
    (xo17 : PySem.W.findIn K (.ref q17) "name" = some none)
    (xn18 : PySem.W.nsIn K mainGlobals "UnknownKey" = some (some (.ref q18))) (xa18 : PySem.W.findIn K (.ref q18) "__getattribute__" = some (some (.builtin "BaseException.__getattribute__"))) (xb18 : PySem.W.findIn K (.ref q18) "__getattr__" = some none)
    (xc18 : PySem.W.subIn K (.ref q18) (.type "BaseException") = some true) (xd18 : PySem.W.hasDictIn K q18 = true) (xe18 : PySem.W.findIn K (.ref q18) "__class__" = some (some (.builtin "object.__class__"))) (xf18 : PySem.W.mroIn K q18 (.type "object") = some true)
    (xs18 : FX.Sup P K q18 "key")
    (xo18 : PySem.W.findIn K (.ref q18) "key" = some none)
    (xn19 : PySem.W.nsIn K mainGlobals "NothingToUndo" = some (some (.ref q19))) (xa19 : PySem.W.findIn K (.ref q19) "__getattribute__" = some (some (.builtin "BaseException.__getattribute__"))) (xb19 : PySem.W.findIn K (.ref q19) "__getattr__" = some none)
    (xc19 : PySem.W.subIn K (.ref q19) (.type "BaseException") = some true) (xd19 : PySem.W.hasDictIn K q19 = true) (xe19 : PySem.W.findIn K (.ref q19) "__class__" = some (some (.builtin "object.__class__"))) (xf19 : PySem.W.mroIn K q19 (.type "object") = some true)
    (xs19 : FX.Sup P K q19 "many")
    (xo19 : PySem.W.findIn K (.ref q19) "many" = some none)
    (xn20 : PySem.W.nsIn K mainGlobals "TooMany" = some (some (.ref q20))) (xa20 : PySem.W.findIn K (.ref q20) "__getattribute__" = some (some (.builtin "BaseException.__getattribute__"))) (xb20 : PySem.W.findIn K (.ref q20) "__getattr__" = some none)
    (xc20 : PySem.W.subIn K (.ref q20) (.type "BaseException") = some true) (xd20 : PySem.W.hasDictIn K q20 = true) (xe20 : PySem.W.findIn K (.ref q20) "__class__" = some (some (.builtin "object.__class__"))) (xf20 : PySem.W.mroIn K q20 (.type "object") = some true)
    (xs20 : FX.Sup P K q20 "limit")
    (xo20 : PySem.W.findIn K (.ref q20) "limit" = some none)
    (xn21 : PySem.W.nsIn K mainGlobals "InvalidNumber" = some (some (.ref q21))) (xa21 : PySem.W.findIn K (.ref q21) "__getattribute__" = some (some (.builtin "BaseException.__getattribute__"))) (xb21 : PySem.W.findIn K (.ref q21) "__getattr__" = some none)
    (xc21 : PySem.W.subIn K (.ref q21) (.type "BaseException") = some true) (xd21 : PySem.W.hasDictIn K q21 = true) (xe21 : PySem.W.findIn K (.ref q21) "__class__" = some (some (.builtin "object.__class__"))) (xf21 : PySem.W.mroIn K q21 (.type "object") = some true)
    (xs21 : FX.Sup P K q21 "value")
    (xo21 : PySem.W.findIn K (.ref q21) "value" = some none)
    (xi_ArithmeticError : ((rows.zip [q0, q1, q2, q3, q4, q5, q6, q7, q8, q9, q10, q11, q12, q13, q14, q15, q16, q17, q18, q19, q20, q21]).all fun p => decide (PySem.W.kitOne K (.ref p.2) (.type "ArithmeticError") = some (p.1.2.contains "ArithmeticError"))) = true)
    (xi_IndexError : ((rows.zip [q0, q1, q2, q3, q4, q5, q6, q7, q8, q9, q10, q11, q12, q13, q14, q15, q16, q17, q18, q19, q20, q21]).all fun p => decide (PySem.W.kitOne K (.ref p.2) (.type "IndexError") = some (p.1.2.contains "IndexError"))) = true)
    (xi_InvalidBag : ((rows.zip [q0, q1, q2, q3, q4, q5, q6, q7, q8, q9, q10, q11, q12, q13, q14, q15, q16, q17, q18, q19, q20, q21]).all fun p => decide (PySem.W.kitOne K (.ref p.2) (.ref q3) = some (p.1.2.contains "InvalidBag"))) = true)
    (xi_InvalidEvent : ((rows.zip [q0, q1, q2, q3, q4, q5, q6, q7, q8, q9, q10, q11, q12, q13, q14, q15, q16, q17, q18, q19, q20, q21]).all fun p => decide (PySem.W.kitOne K (.ref p.2) (.ref q10) = some (p.1.2.contains "InvalidEvent"))) = true)
    (xi_InvalidNumber : ((rows.zip [q0, q1, q2, q3, q4, q5, q6, q7, q8, q9, q10, q11, q12, q13, q14, q15, q16, q17, q18, q19, q20, q21]).all fun p => decide (PySem.W.kitOne K (.ref p.2) (.ref q21) = some (p.1.2.contains "InvalidNumber"))) = true)
    (xi_InvalidOperation : ((rows.zip [q0, q1, q2, q3, q4, q5, q6, q7, q8, q9, q10, q11, q12, q13, q14, q15, q16, q17, q18, q19, q20, q21]).all fun p => decide (PySem.W.kitOne K (.ref p.2) (.ref q13) = some (p.1.2.contains "InvalidOperation"))) = true)
    (xi_InvalidPlan : ((rows.zip [q0, q1, q2, q3, q4, q5, q6, q7, q8, q9, q10, q11, q12, q13, q14, q15, q16, q17, q18, q19, q20, q21]).all fun p => decide (PySem.W.kitOne K (.ref p.2) (.ref q7) = some (p.1.2.contains "InvalidPlan"))) = true)
    (xi_InvalidQuery : ((rows.zip [q0, q1, q2, q3, q4, q5, q6, q7, q8, q9, q10, q11, q12, q13, q14, q15, q16, q17, q18, q19, q20, q21]).all fun p => decide (PySem.W.kitOne K (.ref p.2) (.ref q4) = some (p.1.2.contains "InvalidQuery"))) = true)
    (xi_InvalidRow : ((rows.zip [q0, q1, q2, q3, q4, q5, q6, q7, q8, q9, q10, q11, q12, q13, q14, q15, q16, q17, q18, q19, q20, q21]).all fun p => decide (PySem.W.kitOne K (.ref p.2) (.ref q2) = some (p.1.2.contains "InvalidRow"))) = true)
    (xi_InvalidScheme : ((rows.zip [q0, q1, q2, q3, q4, q5, q6, q7, q8, q9, q10, q11, q12, q13, q14, q15, q16, q17, q18, q19, q20, q21]).all fun p => decide (PySem.W.kitOne K (.ref p.2) (.ref q9) = some (p.1.2.contains "InvalidScheme"))) = true)
    (xi_InvalidSnapshot : ((rows.zip [q0, q1, q2, q3, q4, q5, q6, q7, q8, q9, q10, q11, q12, q13, q14, q15, q16, q17, q18, q19, q20, q21]).all fun p => decide (PySem.W.kitOne K (.ref p.2) (.ref q11) = some (p.1.2.contains "InvalidSnapshot"))) = true)
    (xi_InvalidStep : ((rows.zip [q0, q1, q2, q3, q4, q5, q6, q7, q8, q9, q10, q11, q12, q13, q14, q15, q16, q17, q18, q19, q20, q21]).all fun p => decide (PySem.W.kitOne K (.ref p.2) (.ref q6) = some (p.1.2.contains "InvalidStep"))) = true)
    (xi_InvalidStore : ((rows.zip [q0, q1, q2, q3, q4, q5, q6, q7, q8, q9, q10, q11, q12, q13, q14, q15, q16, q17, q18, q19, q20, q21]).all fun p => decide (PySem.W.kitOne K (.ref p.2) (.ref q5) = some (p.1.2.contains "InvalidStore"))) = true)
    (xi_InvalidTable : ((rows.zip [q0, q1, q2, q3, q4, q5, q6, q7, q8, q9, q10, q11, q12, q13, q14, q15, q16, q17, q18, q19, q20, q21]).all fun p => decide (PySem.W.kitOne K (.ref p.2) (.ref q1) = some (p.1.2.contains "InvalidTable"))) = true)
    (xi_InvalidTransition : ((rows.zip [q0, q1, q2, q3, q4, q5, q6, q7, q8, q9, q10, q11, q12, q13, q14, q15, q16, q17, q18, q19, q20, q21]).all fun p => decide (PySem.W.kitOne K (.ref p.2) (.ref q8) = some (p.1.2.contains "InvalidTransition"))) = true)
    (xi_InvalidTree : ((rows.zip [q0, q1, q2, q3, q4, q5, q6, q7, q8, q9, q10, q11, q12, q13, q14, q15, q16, q17, q18, q19, q20, q21]).all fun p => decide (PySem.W.kitOne K (.ref p.2) (.ref q12) = some (p.1.2.contains "InvalidTree"))) = true)
    (xi_KeyError : ((rows.zip [q0, q1, q2, q3, q4, q5, q6, q7, q8, q9, q10, q11, q12, q13, q14, q15, q16, q17, q18, q19, q20, q21]).all fun p => decide (PySem.W.kitOne K (.ref p.2) (.type "KeyError") = some (p.1.2.contains "KeyError"))) = true)
    (xi_LookupError : ((rows.zip [q0, q1, q2, q3, q4, q5, q6, q7, q8, q9, q10, q11, q12, q13, q14, q15, q16, q17, q18, q19, q20, q21]).all fun p => decide (PySem.W.kitOne K (.ref p.2) (.type "LookupError") = some (p.1.2.contains "LookupError"))) = true)
    (xi_NothingToUndo : ((rows.zip [q0, q1, q2, q3, q4, q5, q6, q7, q8, q9, q10, q11, q12, q13, q14, q15, q16, q17, q18, q19, q20, q21]).all fun p => decide (PySem.W.kitOne K (.ref p.2) (.ref q19) = some (p.1.2.contains "NothingToUndo"))) = true)
    (xi_OverflowError : ((rows.zip [q0, q1, q2, q3, q4, q5, q6, q7, q8, q9, q10, q11, q12, q13, q14, q15, q16, q17, q18, q19, q20, q21]).all fun p => decide (PySem.W.kitOne K (.ref p.2) (.type "OverflowError") = some (p.1.2.contains "OverflowError"))) = true)
    (xi_ParseError : ((rows.zip [q0, q1, q2, q3, q4, q5, q6, q7, q8, q9, q10, q11, q12, q13, q14, q15, q16, q17, q18, q19, q20, q21]).all fun p => decide (PySem.W.kitOne K (.ref p.2) (.ref q14) = some (p.1.2.contains "ParseError"))) = true)
    (xi_RuntimeError : ((rows.zip [q0, q1, q2, q3, q4, q5, q6, q7, q8, q9, q10, q11, q12, q13, q14, q15, q16, q17, q18, q19, q20, q21]).all fun p => decide (PySem.W.kitOne K (.ref p.2) (.type "RuntimeError") = some (p.1.2.contains "RuntimeError"))) = true)
    (xi_ShelfError : ((rows.zip [q0, q1, q2, q3, q4, q5, q6, q7, q8, q9, q10, q11, q12, q13, q14, q15, q16, q17, q18, q19, q20, q21]).all fun p => decide (PySem.W.kitOne K (.ref p.2) (.ref q0) = some (p.1.2.contains "ShelfError"))) = true)
    (xi_Stopped : ((rows.zip [q0, q1, q2, q3, q4, q5, q6, q7, q8, q9, q10, q11, q12, q13, q14, q15, q16, q17, q18, q19, q20, q21]).all fun p => decide (PySem.W.kitOne K (.ref p.2) (.ref q15) = some (p.1.2.contains "Stopped"))) = true)
    (xi_TooMany : ((rows.zip [q0, q1, q2, q3, q4, q5, q6, q7, q8, q9, q10, q11, q12, q13, q14, q15, q16, q17, q18, q19, q20, q21]).all fun p => decide (PySem.W.kitOne K (.ref p.2) (.ref q20) = some (p.1.2.contains "TooMany"))) = true)
    (xi_UnknownKey : ((rows.zip [q0, q1, q2, q3, q4, q5, q6, q7, q8, q9, q10, q11, q12, q13, q14, q15, q16, q17, q18, q19, q20, q21]).all fun p => decide (PySem.W.kitOne K (.ref p.2) (.ref q18) = some (p.1.2.contains "UnknownKey"))) = true)
    (xi_UnknownName : ((rows.zip [q0, q1, q2, q3, q4, q5, q6, q7, q8, q9, q10, q11, q12, q13, q14, q15, q16, q17, q18, q19, q20, q21]).all fun p => decide (PySem.W.kitOne K (.ref p.2) (.ref q17) = some (p.1.2.contains "UnknownName"))) = true)
    (xi_ValueError : ((rows.zip [q0, q1, q2, q3, q4, q5, q6, q7, q8, q9, q10, q11, q12, q13, q14, q15, q16, q17, q18, q19, q20, q21]).all fun p => decide (PySem.W.kitOne K (.ref p.2) (.type "ValueError") = some (p.1.2.contains "ValueError"))) = true)
    (xi_Wrong : ((rows.zip [q0, q1, q2, q3, q4, q5, q6, q7, q8, q9, q10, q11, q12, q13, q14, q15, q16, q17, q18, q19, q20, q21]).all fun p => decide (PySem.W.kitOne K (.ref p.2) (.ref q16) = some (p.1.2.contains "Wrong"))) = true)
    (xj0 : ((rows.zip [q0, q1, q2, q3, q4, q5, q6, q7, q8, q9, q10, q11, q12, q13, q14, q15, q16, q17, q18, q19, q20, q21]).all fun p => decide (PySem.W.exmAny K (.ref p.2) [(.ref q20), (.ref q21)] = some ([("TooMany" : Str), ("InvalidNumber" : Str)].any fun c => p.1.2.contains c))) = true)
    (xj1 : ((rows.zip [q0, q1, q2, q3, q4, q5, q6, q7, q8, q9, q10, q11, q12, q13, q14, q15, q16, q17, q18, q19, q20, q21]).all fun p => decide (PySem.W.exmAny K (.ref p.2) [(.ref q18), (.ref q19)] = some ([("UnknownKey" : Str), ("NothingToUndo" : Str)].any fun c => p.1.2.contains c))) = true)
    (xj2 : ((rows.zip [q0, q1, q2, q3, q4, q5, q6, q7, q8, q9, q10, q11, q12, q13, q14, q15, q16, q17, q18, q19, q20, q21]).all fun p => decide (PySem.W.exmAny K (.ref p.2) [(.type "KeyError")] = some ([("KeyError" : Str)].any fun c => p.1.2.contains c))) = true)
    (xj3 : ((rows.zip [q0, q1, q2, q3, q4, q5, q6, q7, q8, q9, q10, q11, q12, q13, q14, q15, q16, q17, q18, q19, q20, q21]).all fun p => decide (PySem.W.exmAny K (.ref p.2) [(.ref q0)] = some ([("ShelfError" : Str)].any fun c => p.1.2.contains c))) = true)
    : ∃ fd : FuncData, (∀ (s : Shared) (u : Value), BindsTo s fd ⟨[u], []⟩ [("script", u)]) ∧ ∃ φ : List D → MH → Res D, LawTrue φ 63 ∧ ∀ base : Heap, K.In base → base.Ns mainGlobals mg → (∃ mm, base.Ns sysModules mm) → FnG P w K mg base 5 fa fd ["script"] φ := by
  have e := hfa.symm.trans (PySem.W.mg_of X G a15)
  cases e
  have F0 := fun_mk (st := s__law_dice) l0 c0 k0
  have b0 := F0.binds (ps := ["script", "spot"]) fun _ _ _ _ _ _ us hl => match us, hl with | [_, _], _ => rfl
  have F1 := fun_mk (st := s__law_roll) l1 c1 k1
  have b1 := F1.binds (ps := ["dice", "many"]) fun _ _ _ _ _ _ us hl => match us, hl with | [_, _], _ => rfl
  have F2 := fun_mk (st := s__law_pick) l2 c2 k2
  have b2 := F2.binds (ps := ["dice", "items"]) fun _ _ _ _ _ _ us hl => match us, hl with | [_, _], _ => rfl
  have F3 := fun_mk (st := s__law_with_message) l3 c3 k3
  have b3 := F3.binds (ps := ["k", "text"]) fun _ _ _ _ _ _ us hl => match us, hl with | [_, _], _ => rfl
  have F4 := fun_mk (st := s__law_keeping) l4 c4 k4
  have b4 := F4.binds (ps := ["k", "kept"]) fun _ _ _ _ _ _ us hl => match us, hl with | [_, _], _ => rfl
  have F5 := fun_mk (st := s__law_kept) l5 c5 k5
  have b5 := F5.binds (ps := ["k", "found"]) fun _ _ _ _ _ _ us hl => match us, hl with | [_, _], _ => rfl
  have F6 := fun_mk (st := s__law_kinds) l6 c6 k6
  have b6 := F6.binds (ps := ["found"]) fun _ _ _ _ _ _ us hl => match us, hl with | [_], _ => rfl
  have F7 := fun_mk (st := s__law_kinds_kept) l7 c7 k7
  have b7 := F7.binds (ps := ["found"]) fun _ _ _ _ _ _ us hl => match us, hl with | [_], _ => rfl
  have F8 := fun_mk (st := s__law_kinds_of_python) l8 c8 k8
  have b8 := F8.binds (ps := ["found"]) fun _ _ _ _ _ _ us hl => match us, hl with | [_], _ => rfl
  have F9 := fun_mk (st := s__law_only) l9 c9 k9
  have b9 := F9.binds (ps := ["some", "length"]) fun _ _ _ _ _ _ us hl => match us, hl with | [_, _], _ => rfl
  have F10 := fun_mk (st := s__law_raised) l10 c10 k10
  have b10 := F10.binds (ps := ["k", "kept"]) fun _ _ _ _ _ _ us hl => match us, hl with | [_, _], _ => rfl
  have F11 := fun_mk (st := s__law_caught) l11 c11 k11
  have b11 := F11.binds (ps := ["k", "kept"]) fun _ _ _ _ _ _ us hl => match us, hl with | [_, _], _ => rfl
  have F12 := fun_mk (st := s__law_word) l12 c12 k12
  have b12 := F12.binds (ps := ["dice"]) fun _ _ _ _ _ _ us hl => match us, hl with | [_], _ => rfl
  have F13 := fun_mk (st := s__law_value) l13 c13 k13
  have b13 := F13.binds (ps := ["dice", "k"]) fun _ _ _ _ _ _ us hl => match us, hl with | [_, _], _ => rfl
  have F14 := fun_mk (st := s__law_right) l14 c14 k14
  have b14 := F14.binds (ps := ["dice"]) fun _ _ _ _ _ _ us hl => match us, hl with | [_], _ => rfl
  have F15 := fun_mk (st := s_law) l15 c15 k15
  have b15 := F15.binds (ps := ["script"]) fun _ _ _ _ _ _ us hl => match us, hl with | [_], _ => rfl
  have X0 : FX.XN K "ShelfError" q0 := ⟨.inl xn0, ⟨xa0, xb0, xc0, xd0, xe0, xcn, xct, xf0⟩⟩
  have X1 : FX.XN K "InvalidTable" q1 := ⟨.inl xn1, ⟨xa1, xb1, xc1, xd1, xe1, xcn, xct, xf1⟩⟩
  have X2 : FX.XN K "InvalidRow" q2 := ⟨.inl xn2, ⟨xa2, xb2, xc2, xd2, xe2, xcn, xct, xf2⟩⟩
  have X3 : FX.XN K "InvalidBag" q3 := ⟨.inl xn3, ⟨xa3, xb3, xc3, xd3, xe3, xcn, xct, xf3⟩⟩
  have X4 : FX.XN K "InvalidQuery" q4 := ⟨.inl xn4, ⟨xa4, xb4, xc4, xd4, xe4, xcn, xct, xf4⟩⟩
  have X5 : FX.XN K "InvalidStore" q5 := ⟨.inl xn5, ⟨xa5, xb5, xc5, xd5, xe5, xcn, xct, xf5⟩⟩
  have X6 : FX.XN K "InvalidStep" q6 := ⟨.inl xn6, ⟨xa6, xb6, xc6, xd6, xe6, xcn, xct, xf6⟩⟩
  have X7 : FX.XN K "InvalidPlan" q7 := ⟨.inl xn7, ⟨xa7, xb7, xc7, xd7, xe7, xcn, xct, xf7⟩⟩
  have X8 : FX.XN K "InvalidTransition" q8 := ⟨.inl xn8, ⟨xa8, xb8, xc8, xd8, xe8, xcn, xct, xf8⟩⟩
  have X9 : FX.XN K "InvalidScheme" q9 := ⟨.inl xn9, ⟨xa9, xb9, xc9, xd9, xe9, xcn, xct, xf9⟩⟩
  have X10 : FX.XN K "InvalidEvent" q10 := ⟨.inl xn10, ⟨xa10, xb10, xc10, xd10, xe10, xcn, xct, xf10⟩⟩
  have X11 : FX.XN K "InvalidSnapshot" q11 := ⟨.inl xn11, ⟨xa11, xb11, xc11, xd11, xe11, xcn, xct, xf11⟩⟩
  have X12 : FX.XN K "InvalidTree" q12 := ⟨.inl xn12, ⟨xa12, xb12, xc12, xd12, xe12, xcn, xct, xf12⟩⟩
  have X13 : FX.XN K "InvalidOperation" q13 := ⟨.inl xn13, ⟨xa13, xb13, xc13, xd13, xe13, xcn, xct, xf13⟩⟩
  have X14 : FX.XN K "ParseError" q14 := ⟨.inl xn14, ⟨xa14, xb14, xc14, xd14, xe14, xcn, xct, xf14⟩⟩
  have X15 : FX.XN K "Stopped" q15 := ⟨.inl xn15, ⟨xa15, xb15, xc15, xd15, xe15, xcn, xct, xf15⟩⟩
  have X16 : FX.XN K "Wrong" q16 := ⟨.inl xn16, ⟨xa16, xb16, xc16, xd16, xe16, xcn, xct, xf16⟩⟩
  have X17 : FX.XN K "UnknownName" q17 := ⟨.inl xn17, ⟨xa17, xb17, xc17, xd17, xe17, xcn, xct, xf17⟩⟩
  have X18 : FX.XN K "UnknownKey" q18 := ⟨.inl xn18, ⟨xa18, xb18, xc18, xd18, xe18, xcn, xct, xf18⟩⟩
  have X19 : FX.XN K "NothingToUndo" q19 := ⟨.inl xn19, ⟨xa19, xb19, xc19, xd19, xe19, xcn, xct, xf19⟩⟩
  have X20 : FX.XN K "TooMany" q20 := ⟨.inl xn20, ⟨xa20, xb20, xc20, xd20, xe20, xcn, xct, xf20⟩⟩
  have X21 : FX.XN K "InvalidNumber" q21 := ⟨.inl xn21, ⟨xa21, xb21, xc21, xd21, xe21, xcn, xct, xf21⟩⟩
  have XR : Paired (fun p C => FX.XN K p.1 C) rows [q0, q1, q2, q3, q4, q5, q6, q7, q8, q9, q10, q11, q12, q13, q14, q15, q16, q17, q18, q19, q20, q21] := (.cons X0 (.cons X1 (.cons X2 (.cons X3 (.cons X4 (.cons X5 (.cons X6 (.cons X7 (.cons X8 (.cons X9 (.cons X10 (.cons X11 (.cons X12 (.cons X13 (.cons X14 (.cons X15 (.cons X16 (.cons X17 (.cons X18 (.cons X19 (.cons X20 (.cons X21 .nil))))))))))))))))))))))
  have T : Txt P w K mg (fun i => [f0, f1, f2, f3, f4, f5, f6, f7, f8, f9, f10, f11, f12, f13, f14, fa].getD i f0) (fun i => [(PySem.W.fnOf "_law_dice" "_law_dice" (defArgs s__law_dice) (defBody s__law_dice) (defScope s__law_dice) .none kV0 dc0 pm0 an0 cd0 ct0), (PySem.W.fnOf "_law_roll" "_law_roll" (defArgs s__law_roll) (defBody s__law_roll) (defScope s__law_roll) .none kV1 dc1 pm1 an1 cd1 ct1), (PySem.W.fnOf "_law_pick" "_law_pick" (defArgs s__law_pick) (defBody s__law_pick) (defScope s__law_pick) .none kV2 dc2 pm2 an2 cd2 ct2), (PySem.W.fnOf "_law_with_message" "_law_with_message" (defArgs s__law_with_message) (defBody s__law_with_message) (defScope s__law_with_message) .none kV3 dc3 pm3 an3 cd3 ct3), (PySem.W.fnOf "_law_keeping" "_law_keeping" (defArgs s__law_keeping) (defBody s__law_keeping) (defScope s__law_keeping) .none kV4 dc4 pm4 an4 cd4 ct4), (PySem.W.fnOf "_law_kept" "_law_kept" (defArgs s__law_kept) (defBody s__law_kept) (defScope s__law_kept) .none kV5 dc5 pm5 an5 cd5 ct5), (PySem.W.fnOf "_law_kinds" "_law_kinds" (defArgs s__law_kinds) (defBody s__law_kinds) (defScope s__law_kinds) .none kV6 dc6 pm6 an6 cd6 ct6), (PySem.W.fnOf "_law_kinds_kept" "_law_kinds_kept" (defArgs s__law_kinds_kept) (defBody s__law_kinds_kept) (defScope s__law_kinds_kept) .none kV7 dc7 pm7 an7 cd7 ct7), (PySem.W.fnOf "_law_kinds_of_python" "_law_kinds_of_python" (defArgs s__law_kinds_of_python) (defBody s__law_kinds_of_python) (defScope s__law_kinds_of_python) .none kV8 dc8 pm8 an8 cd8 ct8), (PySem.W.fnOf "_law_only" "_law_only" (defArgs s__law_only) (defBody s__law_only) (defScope s__law_only) .none kV9 dc9 pm9 an9 cd9 ct9), (PySem.W.fnOf "_law_raised" "_law_raised" (defArgs s__law_raised) (defBody s__law_raised) (defScope s__law_raised) .none kV10 dc10 pm10 an10 cd10 ct10), (PySem.W.fnOf "_law_caught" "_law_caught" (defArgs s__law_caught) (defBody s__law_caught) (defScope s__law_caught) .none kV11 dc11 pm11 an11 cd11 ct11), (PySem.W.fnOf "_law_word" "_law_word" (defArgs s__law_word) (defBody s__law_word) (defScope s__law_word) .none kV12 dc12 pm12 an12 cd12 ct12), (PySem.W.fnOf "_law_value" "_law_value" (defArgs s__law_value) (defBody s__law_value) (defScope s__law_value) .none kV13 dc13 pm13 an13 cd13 ct13), (PySem.W.fnOf "_law_right" "_law_right" (defArgs s__law_right) (defBody s__law_right) (defScope s__law_right) .none kV14 dc14 pm14 an14 cd14 ct14), (PySem.W.fnOf "law" "law" (defArgs s_law) (defBody s_law) (defScope s_law) .none kV15 dc15 pm15 an15 cd15 ct15)].getD i (PySem.W.fnOf "_law_dice" "_law_dice" (defArgs s__law_dice) (defBody s__law_dice) (defScope s__law_dice) .none kV0 dc0 pm0 an0 cd0 ct0)) (fun i => [q0, q1, q2, q3, q4, q5, q6, q7, q8, q9, q10, q11, q12, q13, q14, q15, q16, q17, q18, q19, q20, q21].getD i q0) :=
    { F__law_dice := F0
      g__law_dice := PySem.W.mg_of X G a0
      b__law_dice := b0
      F__law_roll := F1
      g__law_roll := PySem.W.mg_of X G a1
      b__law_roll := b1
      F__law_pick := F2
      g__law_pick := PySem.W.mg_of X G a2
      b__law_pick := b2
      F__law_with_message := F3
      g__law_with_message := PySem.W.mg_of X G a3
      b__law_with_message := b3
      F__law_keeping := F4
      g__law_keeping := PySem.W.mg_of X G a4
      b__law_keeping := b4
      F__law_kept := F5
      g__law_kept := PySem.W.mg_of X G a5
      b__law_kept := b5
      F__law_kinds := F6
      g__law_kinds := PySem.W.mg_of X G a6
      b__law_kinds := b6
      F__law_kinds_kept := F7
      g__law_kinds_kept := PySem.W.mg_of X G a7
      b__law_kinds_kept := b7
      F__law_kinds_of_python := F8
      g__law_kinds_of_python := PySem.W.mg_of X G a8
      b__law_kinds_of_python := b8
      F__law_only := F9
      g__law_only := PySem.W.mg_of X G a9
      b__law_only := b9
      F__law_raised := F10
      g__law_raised := PySem.W.mg_of X G a10
      b__law_raised := b10
      F__law_caught := F11
      g__law_caught := PySem.W.mg_of X G a11
      b__law_caught := b11
      F__law_word := F12
      g__law_word := PySem.W.mg_of X G a12
      b__law_word := b12
      F__law_value := F13
      g__law_value := PySem.W.mg_of X G a13
      b__law_value := b13
      F__law_right := F14
      g__law_right := PySem.W.mg_of X G a14
      b__law_right := b14
      F_law := F15
      g_law := PySem.W.mg_of X G a15
      b_law := b15
      g_ShelfError := PySem.W.mg_of X G xn0
      n_ShelfError := .inl xn0
      k_ShelfError := xk0
      x_ShelfError := xx0
      g_InvalidTable := PySem.W.mg_of X G xn1
      n_InvalidTable := .inl xn1
      k_InvalidTable := xk1
      x_InvalidTable := xx1
      g_InvalidRow := PySem.W.mg_of X G xn2
      n_InvalidRow := .inl xn2
      k_InvalidRow := xk2
      x_InvalidRow := xx2
      g_InvalidBag := PySem.W.mg_of X G xn3
      n_InvalidBag := .inl xn3
      k_InvalidBag := xk3
      x_InvalidBag := xx3
      g_InvalidQuery := PySem.W.mg_of X G xn4
      n_InvalidQuery := .inl xn4
      k_InvalidQuery := xk4
      x_InvalidQuery := xx4
      g_InvalidStore := PySem.W.mg_of X G xn5
      n_InvalidStore := .inl xn5
      k_InvalidStore := xk5
      x_InvalidStore := xx5
      g_InvalidStep := PySem.W.mg_of X G xn6
      n_InvalidStep := .inl xn6
      k_InvalidStep := xk6
      x_InvalidStep := xx6
      g_InvalidPlan := PySem.W.mg_of X G xn7
      n_InvalidPlan := .inl xn7
      k_InvalidPlan := xk7
      x_InvalidPlan := xx7
      g_InvalidTransition := PySem.W.mg_of X G xn8
      n_InvalidTransition := .inl xn8
      k_InvalidTransition := xk8
      x_InvalidTransition := xx8
      g_InvalidScheme := PySem.W.mg_of X G xn9
      n_InvalidScheme := .inl xn9
      k_InvalidScheme := xk9
      x_InvalidScheme := xx9
      g_InvalidEvent := PySem.W.mg_of X G xn10
      n_InvalidEvent := .inl xn10
      k_InvalidEvent := xk10
      x_InvalidEvent := xx10
      g_InvalidSnapshot := PySem.W.mg_of X G xn11
      n_InvalidSnapshot := .inl xn11
      k_InvalidSnapshot := xk11
      x_InvalidSnapshot := xx11
      g_InvalidTree := PySem.W.mg_of X G xn12
      n_InvalidTree := .inl xn12
      k_InvalidTree := xk12
      x_InvalidTree := xx12
      g_InvalidOperation := PySem.W.mg_of X G xn13
      n_InvalidOperation := .inl xn13
      k_InvalidOperation := xk13
      x_InvalidOperation := xx13
      g_ParseError := PySem.W.mg_of X G xn14
      n_ParseError := .inl xn14
      s_ParseError := xs14
      g_Stopped := PySem.W.mg_of X G xn15
      n_Stopped := .inl xn15
      s_Stopped := xs15
      g_Wrong := PySem.W.mg_of X G xn16
      n_Wrong := .inl xn16
      s_Wrong := xs16
      g_UnknownName := PySem.W.mg_of X G xn17
      n_UnknownName := .inl xn17
      s_UnknownName := xs17
      g_UnknownKey := PySem.W.mg_of X G xn18
      n_UnknownKey := .inl xn18
      s_UnknownKey := xs18
      g_NothingToUndo := PySem.W.mg_of X G xn19
      n_NothingToUndo := .inl xn19
      s_NothingToUndo := xs19
      g_TooMany := PySem.W.mg_of X G xn20
      n_TooMany := .inl xn20
      s_TooMany := xs20
      g_InvalidNumber := PySem.W.mg_of X G xn21
      n_InvalidNumber := .inl xn21
      s_InvalidNumber := xs21
      is_ArithmeticError := FX.isx_of XR xi_ArithmeticError
      is_IndexError := FX.isx_of XR xi_IndexError
      is_InvalidBag := FX.isx_of XR xi_InvalidBag
      is_InvalidEvent := FX.isx_of XR xi_InvalidEvent
      is_InvalidNumber := FX.isx_of XR xi_InvalidNumber
      is_InvalidOperation := FX.isx_of XR xi_InvalidOperation
      is_InvalidPlan := FX.isx_of XR xi_InvalidPlan
      is_InvalidQuery := FX.isx_of XR xi_InvalidQuery
      is_InvalidRow := FX.isx_of XR xi_InvalidRow
      is_InvalidScheme := FX.isx_of XR xi_InvalidScheme
      is_InvalidSnapshot := FX.isx_of XR xi_InvalidSnapshot
      is_InvalidStep := FX.isx_of XR xi_InvalidStep
      is_InvalidStore := FX.isx_of XR xi_InvalidStore
      is_InvalidTable := FX.isx_of XR xi_InvalidTable
      is_InvalidTransition := FX.isx_of XR xi_InvalidTransition
      is_InvalidTree := FX.isx_of XR xi_InvalidTree
      is_KeyError := FX.isx_of XR xi_KeyError
      is_LookupError := FX.isx_of XR xi_LookupError
      is_NothingToUndo := FX.isx_of XR xi_NothingToUndo
      is_OverflowError := FX.isx_of XR xi_OverflowError
      is_ParseError := FX.isx_of XR xi_ParseError
      is_RuntimeError := FX.isx_of XR xi_RuntimeError
      is_ShelfError := FX.isx_of XR xi_ShelfError
      is_Stopped := FX.isx_of XR xi_Stopped
      is_TooMany := FX.isx_of XR xi_TooMany
      is_UnknownKey := FX.isx_of XR xi_UnknownKey
      is_UnknownName := FX.isx_of XR xi_UnknownName
      is_ValueError := FX.isx_of XR xi_ValueError
      is_Wrong := FX.isx_of XR xi_Wrong
      e_0 := FX.exm_of XR xj0
      e_1 := FX.exm_of XR xj1
      e_2 := FX.exm_of XR xj2
      e_3 := FX.exm_of XR xj3
      f_certificate := fun c hc => by
        have e : c = "Wrong" := by simpa using hc
        subst e
        exact ⟨_, X16.cls, X16.xk, xo16⟩
      f_index := fun c hc => by
        have e : c = "Stopped" := by simpa using hc
        subst e
        exact ⟨_, X15.cls, X15.xk, xo15⟩
      f_key := fun c hc => by
        have e : c = "UnknownKey" := by simpa using hc
        subst e
        exact ⟨_, X18.cls, X18.xk, xo18⟩
      f_limit := fun c hc => by
        have e : c = "TooMany" := by simpa using hc
        subst e
        exact ⟨_, X20.cls, X20.xk, xo20⟩
      f_line := fun c hc => by
        have e : c = "ParseError" := by simpa using hc
        subst e
        exact ⟨_, X14.cls, X14.xk, xo14⟩
      f_many := fun c hc => by
        have e : c = "NothingToUndo" := by simpa using hc
        subst e
        exact ⟨_, X19.cls, X19.xk, xo19⟩
      f_name := fun c hc => by
        have e : c = "UnknownName" := by simpa using hc
        subst e
        exact ⟨_, X17.cls, X17.xk, xo17⟩
      f_value := fun c hc => by
        have e : c = "InvalidNumber" := by simpa using hc
        subst e
        exact ⟨_, X21.cls, X21.xk, xo21⟩
      z_ArithmeticError := PySem.W.mg_none_of X G z0
      z_IndexError := PySem.W.mg_none_of X G z1
      z_KeyError := PySem.W.mg_none_of X G z2
      z_LookupError := PySem.W.mg_none_of X G z3
      z_OverflowError := PySem.W.mg_none_of X G z4
      z_RuntimeError := PySem.W.mg_none_of X G z5
      z_ValueError := PySem.W.mg_none_of X G z6
      z_abs := PySem.W.mg_none_of X G z7
      z_int := PySem.W.mg_none_of X G z8
      z_isinstance := PySem.W.mg_none_of X G z9
      z_len := PySem.W.mg_none_of X G z10
      z_max := PySem.W.mg_none_of X G z11
      z_min := PySem.W.mg_none_of X G z12
      z_range := PySem.W.mg_none_of X G z13
      z_repr := PySem.W.mg_none_of X G z14
      z_super := PySem.W.mg_none_of X G z15 }
  exact ⟨(PySem.W.fnOf "law" "law" (defArgs s_law) (defBody s_law) (defScope s_law) .none kV15 dc15 pm15 an15 cd15 ct15), fun s v => .of_eq rfl, m_law, law_true, fun base _ _ hS => ok_law T hS⟩
end Law
open PySem PySem.W PyProof.Rows
set_option maxHeartbeats 0 in
theorem PySem.Challenge.cw_shelfroutes_k00_errors_and_their_classes_holds : PySem.Challenge.rw_shelfroutes_k00_errors_and_their_classes.Holds := by
  w_on; o_law; k_head; (case hw => w_witness2)
  k_fill
  refine FL.walk_G (l := PySem.Challenge.rw_shelfroutes_k00_errors_and_their_classes) (n := 63) (k := 5) (x := "script") rfl (by decide) rfl ⟨rfl, by decide, by decide⟩ (by decide +kernel) (fun w h Y => PySem.W.kIn_of Y) ?F
  case F =>
    intro w mg fa h KX G hmg
    refine' Law.all_mk KX G hmg ?a0 ?l0 ?c0 ?k0 ?a1 ?l1 ?c1 ?k1 ?a2 ?l2 ?c2 ?k2 ?a3 ?l3 ?c3 ?k3 ?a4 ?l4 ?c4 ?k4 ?a5 ?l5 ?c5 ?k5 ?a6 ?l6 ?c6 ?k6 ?a7 ?l7 ?c7 ?k7 ?a8 ?l8 ?c8 ?k8 ?a9 ?l9 ?c9 ?k9 ?a10 ?l10 ?c10 ?k10 ?a11 ?l11 ?c11 ?k11 ?a12 ?l12 ?c12 ?k12 ?a13 ?l13 ?c13 ?k13 ?a14 ?l14 ?c14 ?k14 ?a15 ?l15 ?c15 ?k15 ?z0 ?z1 ?z2 ?z3 ?z4 ?z5 ?z6 ?z7 ?z8 ?z9 ?z10 ?z11 ?z12 ?z13 ?z14 ?z15 ?xcn ?xct ?xn0 ?xa0 ?xb0 ?xc0 ?xd0 ?xe0 ?xf0 ?xk0 ?xx0 ?xn1 ?xa1 ?xb1 ?xc1 ?xd1 ?xe1 ?xf1 ?xk1 ?xx1 ?xn2 ?xa2 ?xb2 ?xc2 ?xd2 ?xe2 ?xf2 ?xk2 ?xx2 ?xn3 ?xa3 ?xb3 ?xc3 ?xd3 ?xe3 ?xf3 ?xk3 ?xx3 ?xn4 ?xa4 ?xb4 ?xc4 ?xd4 ?xe4 ?xf4 ?xk4 ?xx4 ?xn5 ?xa5 ?xb5 ?xc5 ?xd5 ?xe5 ?xf5 ?xk5 ?xx5 ?xn6 ?xa6 ?xb6 ?xc6 ?xd6 ?xe6 ?xf6 ?xk6 ?xx6 ?xn7 ?xa7 ?xb7 ?xc7 ?xd7 ?xe7 ?xf7 ?xk7 ?xx7 ?xn8 ?xa8 ?xb8 ?xc8 ?xd8 ?xe8 ?xf8 ?xk8 ?xx8 ?xn9 ?xa9 ?xb9 ?xc9 ?xd9 ?xe9 ?xf9 ?xk9 ?xx9 ?xn10 ?xa10 ?xb10 ?xc10 ?xd10 ?xe10 ?xf10 ?xk10 ?xx10 ?xn11 ?xa11 ?xb11 ?xc11 ?xd11 ?xe11 ?xf11 ?xk11 ?xx11 ?xn12 ?xa12 ?xb12 ?xc12 ?xd12 ?xe12 ?xf12 ?xk12 ?xx12 ?xn13 ?xa13 ?xb13 ?xc13 ?xd13 ?xe13 ?xf13 ?xk13 ?xx13 ?xn14 ?xa14 ?xb14 ?xc14 ?xd14 ?xe14 ?xf14 ?xs14 ?xo14 ?xn15 ?xa15 ?xb15 ?xc15 ?xd15 ?xe15 ?xf15 ?xs15 ?xo15 ?xn16 ?xa16 ?xb16 ?xc16 ?xd16 ?xe16 ?xf16 ?xs16 ?xo16 ?xn17 ?xa17 ?xb17 ?xc17 ?xd17 ?xe17 ?xf17 ?xs17 ?xo17 ?xn18 ?xa18 ?xb18 ?xc18 ?xd18 ?xe18 ?xf18 ?xs18 ?xo18 ?xn19 ?xa19 ?xb19 ?xc19 ?xd19 ?xe19 ?xf19 ?xs19 ?xo19 ?xn20 ?xa20 ?xb20 ?xc20 ?xd20 ?xe20 ?xf20 ?xs20 ?xo20 ?xn21 ?xa21 ?xb21 ?xc21 ?xd21 ?xe21 ?xf21 ?xs21 ?xo21 ?xi_ArithmeticError ?xi_IndexError ?xi_InvalidBag ?xi_InvalidEvent ?xi_InvalidNumber ?xi_InvalidOperation ?xi_InvalidPlan ?xi_InvalidQuery ?xi_InvalidRow ?xi_InvalidScheme ?xi_InvalidSnapshot ?xi_InvalidStep ?xi_InvalidStore ?xi_InvalidTable ?xi_InvalidTransition ?xi_InvalidTree ?xi_KeyError ?xi_LookupError ?xi_NothingToUndo ?xi_OverflowError ?xi_ParseError ?xi_RuntimeError ?xi_ShelfError ?xi_Stopped ?xi_TooMany ?xi_UnknownKey ?xi_UnknownName ?xi_ValueError ?xi_Wrong ?xj0 ?xj1 ?xj2 ?xj3
    (case a0 => k_is)
    (case l0 => k_is)
    (case c0 => k_is)
    (case k0 => k_is)
    (case a1 => k_is)
    (case l1 => k_is)
    (case c1 => k_is)
    (case k1 => k_is)
    (case a2 => k_is)
    (case l2 => k_is)
    (case c2 => k_is)
    (case k2 => k_is)
    (case a3 => k_is)
    (case l3 => k_is)
    (case c3 => k_is)
    (case k3 => k_is)
    (case a4 => k_is)
    (case l4 => k_is)
    (case c4 => k_is)
    (case k4 => k_is)
    (case a5 => k_is)
    (case l5 => k_is)
    (case c5 => k_is)
    (case k5 => k_is)
    (case a6 => k_is)
    (case l6 => k_is)
    (case c6 => k_is)
    (case k6 => k_is)
    (case a7 => k_is)
    (case l7 => k_is)
    (case c7 => k_is)
    (case k7 => k_is)
    (case a8 => k_is)
    (case l8 => k_is)
    (case c8 => k_is)
    (case k8 => k_is)
    (case a9 => k_is)
    (case l9 => k_is)
    (case c9 => k_is)
    (case k9 => k_is)
    (case a10 => k_is)
    (case l10 => k_is)
    (case c10 => k_is)
    (case k10 => k_is)
    (case a11 => k_is)
    (case l11 => k_is)
    (case c11 => k_is)
    (case k11 => k_is)
    (case a12 => k_is)
    (case l12 => k_is)
    (case c12 => k_is)
    (case k12 => k_is)
    (case a13 => k_is)
    (case l13 => k_is)
    (case c13 => k_is)
    (case k13 => k_is)
    (case a14 => k_is)
    (case l14 => k_is)
    (case c14 => k_is)
    (case k14 => k_is)
    (case a15 => k_is)
    (case l15 => k_is)
    (case c15 => k_is)
    (case k15 => k_is)
    (case z0 => k_is)
    (case z1 => k_is)
    (case z2 => k_is)
    (case z3 => k_is)
    (case z4 => k_is)
    (case z5 => k_is)
    (case z6 => k_is)
    (case z7 => k_is)
    (case z8 => k_is)
    (case z9 => k_is)
    (case z10 => k_is)
    (case z11 => k_is)
    (case z12 => k_is)
    (case z13 => k_is)
    (case z14 => k_is)
    (case z15 => k_is)
    (case xcn => k_is)
    (case xct => k_is)
    (case xn0 => k_is)
    (case xa0 => k_is)
    (case xb0 => k_is)
    (case xc0 => k_is)
    (case xd0 => k_is)
    (case xe0 => k_is)
    (case xf0 => k_is)
    (case xk0 => k_is)
    (case xx0 => k_exc)
    (case xn1 => k_is)
    (case xa1 => k_is)
    (case xb1 => k_is)
    (case xc1 => k_is)
    (case xd1 => k_is)
    (case xe1 => k_is)
    (case xf1 => k_is)
    (case xk1 => k_is)
    (case xx1 => k_exc)
    (case xn2 => k_is)
    (case xa2 => k_is)
    (case xb2 => k_is)
    (case xc2 => k_is)
    (case xd2 => k_is)
    (case xe2 => k_is)
    (case xf2 => k_is)
    (case xk2 => k_is)
    (case xx2 => k_exc)
    (case xn3 => k_is)
    (case xa3 => k_is)
    (case xb3 => k_is)
    (case xc3 => k_is)
    (case xd3 => k_is)
    (case xe3 => k_is)
    (case xf3 => k_is)
    (case xk3 => k_is)
    (case xx3 => k_exc)
    (case xn4 => k_is)
    (case xa4 => k_is)
    (case xb4 => k_is)
    (case xc4 => k_is)
    (case xd4 => k_is)
    (case xe4 => k_is)
    (case xf4 => k_is)
    (case xk4 => k_is)
    (case xx4 => k_exc)
    (case xn5 => k_is)
    (case xa5 => k_is)
    (case xb5 => k_is)
    (case xc5 => k_is)
    (case xd5 => k_is)
    (case xe5 => k_is)
    (case xf5 => k_is)
    (case xk5 => k_is)
    (case xx5 => k_exc)
    (case xn6 => k_is)
    (case xa6 => k_is)
    (case xb6 => k_is)
    (case xc6 => k_is)
    (case xd6 => k_is)
    (case xe6 => k_is)
    (case xf6 => k_is)
    (case xk6 => k_is)
    (case xx6 => k_exc)
    (case xn7 => k_is)
    (case xa7 => k_is)
    (case xb7 => k_is)
    (case xc7 => k_is)
    (case xd7 => k_is)
    (case xe7 => k_is)
    (case xf7 => k_is)
    (case xk7 => k_is)
    (case xx7 => k_exc)
    (case xn8 => k_is)
    (case xa8 => k_is)
    (case xb8 => k_is)
    (case xc8 => k_is)
    (case xd8 => k_is)
    (case xe8 => k_is)
    (case xf8 => k_is)
    (case xk8 => k_is)
    (case xx8 => k_exc)
    (case xn9 => k_is)
    (case xa9 => k_is)
    (case xb9 => k_is)
    (case xc9 => k_is)
    (case xd9 => k_is)
    (case xe9 => k_is)
    (case xf9 => k_is)
    (case xk9 => k_is)
    (case xx9 => k_exc)
    (case xn10 => k_is)
    (case xa10 => k_is)
    (case xb10 => k_is)
    (case xc10 => k_is)
    (case xd10 => k_is)
    (case xe10 => k_is)
    (case xf10 => k_is)
    (case xk10 => k_is)
    (case xx10 => k_exc)
    (case xn11 => k_is)
    (case xa11 => k_is)
    (case xb11 => k_is)
    (case xc11 => k_is)
    (case xd11 => k_is)
    (case xe11 => k_is)
    (case xf11 => k_is)
    (case xk11 => k_is)
    (case xx11 => k_exc)
    (case xn12 => k_is)
    (case xa12 => k_is)
    (case xb12 => k_is)
    (case xc12 => k_is)
    (case xd12 => k_is)
    (case xe12 => k_is)
    (case xf12 => k_is)
    (case xk12 => k_is)
    (case xx12 => k_exc)
    (case xn13 => k_is)
    (case xa13 => k_is)
    (case xb13 => k_is)
    (case xc13 => k_is)
    (case xd13 => k_is)
    (case xe13 => k_is)
    (case xf13 => k_is)
    (case xk13 => k_is)
    (case xx13 => k_exc)
    (case xn14 => k_is)
    (case xa14 => k_is)
    (case xb14 => k_is)
    (case xc14 => k_is)
    (case xd14 => k_is)
    (case xe14 => k_is)
    (case xf14 => k_is)
    case xs14 =>
      refine' FX.sup_mk Law.iy_ParseError PySem.F.excBase_ValueError FX.bi_Value PySem.F.store_ValueError ?g1 ?g2 ?g3 ?g4 ?g5 ?g6 ?g7 ?g8 ?gt ?gA ?g9 ?o1 ?o2 ?o3 ?o4 ?o5 ?o6 ?o7 ?o8 ?kC ?rB ?rT
      (case g1 => k_is)
      (case g2 => k_is)
      (case g3 => k_is)
      (case g4 => k_is)
      (case g5 => k_is)
      (case g6 => k_is)
      (case g7 => rfl)
      (case g8 => kernel_rfl)
      (case gt => kernel_rfl)
      (case gA => exact ⟨by kernel_rfl, by kernel_rfl, by kernel_rfl⟩)
      (case g9 => k_is)
      (case o1 => kernel_rfl)
      (case o2 => k_is)
      (case o3 => k_is)
      (case o4 => k_is)
      (case o5 => k_is)
      (case o6 => kernel_rfl)
      (case o7 => k_is)
      (case o8 => k_is)
      (case kC => k_is)
      (case rB => k_is)
      (case rT => k_is)
    (case xo14 => k_is)
    (case xn15 => k_is)
    (case xa15 => k_is)
    (case xb15 => k_is)
    (case xc15 => k_is)
    (case xd15 => k_is)
    (case xe15 => k_is)
    (case xf15 => k_is)
    case xs15 =>
      refine' FX.sup_mk Law.iy_Stopped PySem.F.excBase_ValueError FX.bi_Value PySem.F.store_ValueError ?g1 ?g2 ?g3 ?g4 ?g5 ?g6 ?g7 ?g8 ?gt ?gA ?g9 ?o1 ?o2 ?o3 ?o4 ?o5 ?o6 ?o7 ?o8 ?kC ?rB ?rT
      (case g1 => k_is)
      (case g2 => k_is)
      (case g3 => k_is)
      (case g4 => k_is)
      (case g5 => k_is)
      (case g6 => k_is)
      (case g7 => rfl)
      (case g8 => kernel_rfl)
      (case gt => kernel_rfl)
      (case gA => exact ⟨by kernel_rfl, by kernel_rfl, by kernel_rfl⟩)
      (case g9 => k_is)
      (case o1 => kernel_rfl)
      (case o2 => k_is)
      (case o3 => k_is)
      (case o4 => k_is)
      (case o5 => k_is)
      (case o6 => kernel_rfl)
      (case o7 => k_is)
      (case o8 => k_is)
      (case kC => k_is)
      (case rB => k_is)
      (case rT => k_is)
    (case xo15 => k_is)
    (case xn16 => k_is)
    (case xa16 => k_is)
    (case xb16 => k_is)
    (case xc16 => k_is)
    (case xd16 => k_is)
    (case xe16 => k_is)
    (case xf16 => k_is)
    case xs16 =>
      refine' FX.sup_mk Law.iy_Wrong PySem.F.excBase_ValueError FX.bi_Value PySem.F.store_ValueError ?g1 ?g2 ?g3 ?g4 ?g5 ?g6 ?g7 ?g8 ?gt ?gA ?g9 ?o1 ?o2 ?o3 ?o4 ?o5 ?o6 ?o7 ?o8 ?kC ?rB ?rT
      (case g1 => k_is)
      (case g2 => k_is)
      (case g3 => k_is)
      (case g4 => k_is)
      (case g5 => k_is)
      (case g6 => k_is)
      (case g7 => rfl)
      (case g8 => kernel_rfl)
      (case gt => kernel_rfl)
      (case gA => exact ⟨by kernel_rfl, by kernel_rfl, by kernel_rfl⟩)
      (case g9 => k_is)
      (case o1 => kernel_rfl)
      (case o2 => k_is)
      (case o3 => k_is)
      (case o4 => k_is)
      (case o5 => k_is)
      (case o6 => kernel_rfl)
      (case o7 => k_is)
      (case o8 => k_is)
      (case kC => k_is)
      (case rB => k_is)
      (case rT => k_is)
    (case xo16 => k_is)
    (case xn17 => k_is)
    (case xa17 => k_is)
    (case xb17 => k_is)
    (case xc17 => k_is)
    (case xd17 => k_is)
    (case xe17 => k_is)
    (case xf17 => k_is)
    case xs17 =>
      refine' FX.sup_mk Law.iy_UnknownName PySem.F.excBase_LookupError FX.bi_Key FX.sf_Key ?g1 ?g2 ?g3 ?g4 ?g5 ?g6 ?g7 ?g8 ?gt ?gA ?g9 ?o1 ?o2 ?o3 ?o4 ?o5 ?o6 ?o7 ?o8 ?kC ?rB ?rT
      (case g1 => k_is)
      (case g2 => k_is)
      (case g3 => k_is)
      (case g4 => k_is)
      (case g5 => k_is)
      (case g6 => k_is)
      (case g7 => rfl)
      (case g8 => kernel_rfl)
      (case gt => kernel_rfl)
      (case gA => exact ⟨by kernel_rfl, by kernel_rfl, by kernel_rfl⟩)
      (case g9 => k_is)
      (case o1 => kernel_rfl)
      (case o2 => k_is)
      (case o3 => k_is)
      (case o4 => k_is)
      (case o5 => k_is)
      (case o6 => kernel_rfl)
      (case o7 => k_is)
      (case o8 => k_is)
      (case kC => k_is)
      (case rB => k_is)
      (case rT => k_is)
    (case xo17 => k_is)
    (case xn18 => k_is)
    (case xa18 => k_is)
    (case xb18 => k_is)
    (case xc18 => k_is)
    (case xd18 => k_is)
    (case xe18 => k_is)
    (case xf18 => k_is)
    case xs18 =>
      refine' FX.sup_mk Law.iy_UnknownKey PySem.F.excBase_IndexError FX.bi_Index PySem.F.store_IndexError ?g1 ?g2 ?g3 ?g4 ?g5 ?g6 ?g7 ?g8 ?gt ?gA ?g9 ?o1 ?o2 ?o3 ?o4 ?o5 ?o6 ?o7 ?o8 ?kC ?rB ?rT
      (case g1 => k_is)
      (case g2 => k_is)
      (case g3 => k_is)
      (case g4 => k_is)
      (case g5 => k_is)
      (case g6 => k_is)
      (case g7 => rfl)
      (case g8 => kernel_rfl)
      (case gt => kernel_rfl)
      (case gA => exact ⟨by kernel_rfl, by kernel_rfl, by kernel_rfl⟩)
      (case g9 => k_is)
      (case o1 => kernel_rfl)
      (case o2 => k_is)
      (case o3 => k_is)
      (case o4 => k_is)
      (case o5 => k_is)
      (case o6 => kernel_rfl)
      (case o7 => k_is)
      (case o8 => k_is)
      (case kC => k_is)
      (case rB => k_is)
      (case rT => k_is)
    (case xo18 => k_is)
    (case xn19 => k_is)
    (case xa19 => k_is)
    (case xb19 => k_is)
    (case xc19 => k_is)
    (case xd19 => k_is)
    (case xe19 => k_is)
    (case xf19 => k_is)
    case xs19 =>
      refine' FX.sup_mk Law.iy_NothingToUndo PySem.F.excBase_LookupError FX.bi_Lookup PySem.F.store_LookupError ?g1 ?g2 ?g3 ?g4 ?g5 ?g6 ?g7 ?g8 ?gt ?gA ?g9 ?o1 ?o2 ?o3 ?o4 ?o5 ?o6 ?o7 ?o8 ?kC ?rB ?rT
      (case g1 => k_is)
      (case g2 => k_is)
      (case g3 => k_is)
      (case g4 => k_is)
      (case g5 => k_is)
      (case g6 => k_is)
      (case g7 => rfl)
      (case g8 => kernel_rfl)
      (case gt => kernel_rfl)
      (case gA => exact ⟨by kernel_rfl, by kernel_rfl, by kernel_rfl⟩)
      (case g9 => k_is)
      (case o1 => kernel_rfl)
      (case o2 => k_is)
      (case o3 => k_is)
      (case o4 => k_is)
      (case o5 => k_is)
      (case o6 => kernel_rfl)
      (case o7 => k_is)
      (case o8 => k_is)
      (case kC => k_is)
      (case rB => k_is)
      (case rT => k_is)
    (case xo19 => k_is)
    (case xn20 => k_is)
    (case xa20 => k_is)
    (case xb20 => k_is)
    (case xc20 => k_is)
    (case xd20 => k_is)
    (case xe20 => k_is)
    (case xf20 => k_is)
    case xs20 =>
      refine' FX.sup_mk Law.iy_TooMany PySem.F.excBase_OverflowError FX.bi_Overflow PySem.F.store_OverflowError ?g1 ?g2 ?g3 ?g4 ?g5 ?g6 ?g7 ?g8 ?gt ?gA ?g9 ?o1 ?o2 ?o3 ?o4 ?o5 ?o6 ?o7 ?o8 ?kC ?rB ?rT
      (case g1 => k_is)
      (case g2 => k_is)
      (case g3 => k_is)
      (case g4 => k_is)
      (case g5 => k_is)
      (case g6 => k_is)
      (case g7 => rfl)
      (case g8 => kernel_rfl)
      (case gt => kernel_rfl)
      (case gA => exact ⟨by kernel_rfl, by kernel_rfl, by kernel_rfl⟩)
      (case g9 => k_is)
      (case o1 => kernel_rfl)
      (case o2 => k_is)
      (case o3 => k_is)
      (case o4 => k_is)
      (case o5 => k_is)
      (case o6 => kernel_rfl)
      (case o7 => k_is)
      (case o8 => k_is)
      (case kC => k_is)
      (case rB => k_is)
      (case rT => k_is)
    (case xo20 => k_is)
    (case xn21 => k_is)
    (case xa21 => k_is)
    (case xb21 => k_is)
    (case xc21 => k_is)
    (case xd21 => k_is)
    (case xe21 => k_is)
    (case xf21 => k_is)
    case xs21 =>
      refine' FX.sup_mk Law.iy_InvalidNumber PySem.F.excBase_RuntimeError FX.bi_Runtime PySem.F.store_RuntimeError ?g1 ?g2 ?g3 ?g4 ?g5 ?g6 ?g7 ?g8 ?gt ?gA ?g9 ?o1 ?o2 ?o3 ?o4 ?o5 ?o6 ?o7 ?o8 ?kC ?rB ?rT
      (case g1 => k_is)
      (case g2 => k_is)
      (case g3 => k_is)
      (case g4 => k_is)
      (case g5 => k_is)
      (case g6 => k_is)
      (case g7 => rfl)
      (case g8 => kernel_rfl)
      (case gt => kernel_rfl)
      (case gA => exact ⟨by kernel_rfl, by kernel_rfl, by kernel_rfl⟩)
      (case g9 => k_is)
      (case o1 => kernel_rfl)
      (case o2 => k_is)
      (case o3 => k_is)
      (case o4 => k_is)
      (case o5 => k_is)
      (case o6 => kernel_rfl)
      (case o7 => k_is)
      (case o8 => k_is)
      (case kC => k_is)
      (case rB => k_is)
      (case rT => k_is)
    (case xo21 => k_is)
    (case xi_ArithmeticError => kernel_rfl)
    (case xi_IndexError => kernel_rfl)
    (case xi_InvalidBag => kernel_rfl)
    (case xi_InvalidEvent => kernel_rfl)
    (case xi_InvalidNumber => kernel_rfl)
    (case xi_InvalidOperation => kernel_rfl)
    (case xi_InvalidPlan => kernel_rfl)
    (case xi_InvalidQuery => kernel_rfl)
    (case xi_InvalidRow => kernel_rfl)
    (case xi_InvalidScheme => kernel_rfl)
    (case xi_InvalidSnapshot => kernel_rfl)
    (case xi_InvalidStep => kernel_rfl)
    (case xi_InvalidStore => kernel_rfl)
    (case xi_InvalidTable => kernel_rfl)
    (case xi_InvalidTransition => kernel_rfl)
    (case xi_InvalidTree => kernel_rfl)
    (case xi_KeyError => kernel_rfl)
    (case xi_LookupError => kernel_rfl)
    (case xi_NothingToUndo => kernel_rfl)
    (case xi_OverflowError => kernel_rfl)
    (case xi_ParseError => kernel_rfl)
    (case xi_RuntimeError => kernel_rfl)
    (case xi_ShelfError => kernel_rfl)
    (case xi_Stopped => kernel_rfl)
    (case xi_TooMany => kernel_rfl)
    (case xi_UnknownKey => kernel_rfl)
    (case xi_UnknownName => kernel_rfl)
    (case xi_ValueError => kernel_rfl)
    (case xi_Wrong => kernel_rfl)
    (case xj0 => kernel_rfl)
    (case xj1 => kernel_rfl)
    (case xj2 => kernel_rfl)
    (case xj3 => kernel_rfl)

